import PyProof.Rows.All
import Wide.All
import OpenK.AllK
import Wide.FinOn
import KE.KStateDown
import HandS.ForMost
import HandS.Exc
import HandS.WordsExc
import HandS.Defaults
import HandS.Head0
import HandS.Head1
import HandS.Head2
import HandS.HeadEnd
import HandS.Evl
import HandS.Deep
import HandS.IsInst
import HandS.FStr
import HandS.Wide
import HandS.TupAny
import HandS.Conv
import HandS.Walk
import PyProof.EnumMake
import PyProof.Draws
import KE.GoesMore
import HandS.Iter
import HandS.ExcCtx
import PyProof.EqAt
import PyProof.EqKinds
import PyProof.TupleCall
import KE.OsGo
import HandS.ForExc
import HandS.ExcInit
import PyProof.InstSpecial
import PyProof.Conv_bool
import HandS.OwnEq
import HandS.More
import HandS.NoneIn
import HandS.Finally
import HandS.Hot
import HandS.HotCalls
import HandS.Star
import HandS.Style
import HandS.Property
import KE.KExcInit
import PyProof.DictCalls
import HandS.Dict
import KE.KSuper
import HandS.CallSlots
import HandS.ExcOwn
import HandS.TupSets
import HandS.SetFor
import KE.KTryMore
import HandS.TryMany
import HandS.ExcIs
import HandS.ExcField
import HandS.Lambda
import KE.KExcIs
import PyProof.ReprRoads
import PyProof.Rows.CountFlat
import PyProof.ReprLen
import PyProof.StrLawsRepr
import HandS.ClsMeth
import HandS.EndTab
import KE.KNestM
import PySem.Challenge.RW_everysite_k76_deeds_refused
set_option Elab.async false
set_option linter.all false
set_option maxRecDepth 100000
set_option maxHeartbeats 0
namespace K76
open PySem PySem.W PySem.Calls PyProof.Rows L2
abbrev R : OpenRow := OpenLaw.row PySem.Challenge.rw_everysite_k76_deeds_refused
def top (i : Nat) : Stmt := PySem.Challenge.pw_everysite_k76_deeds_refused.main.body.getD i (.Pass ⟨0, 0, 0, 0⟩)
/-! ## the objects of the top that the proof leans on (printed by genhead.py) -/
def hs (P : Params) (x : Str) : Int := if x.cps.isEmpty = true then 0 else reduceHash (P.strHash x.cps)
def mkF (n q : Str) (s : Stmt) (df kd doc pm cd ct : Value) : FuncData := PySem.W.fnOf n q (defArgs s) (defBody s) (defScope s) df kd doc pm none cd ct
def o2 (P : Params) : Obj := ⟨.none, none, .dict #[⟨hs P "type.__subclasses__.ArithmeticError.0", .str "type.__subclasses__.ArithmeticError.0" 319, .int (107) 0⟩, ⟨hs P "type.__subclasses__.ArithmeticError.n", .str "type.__subclasses__.ArithmeticError.n" 320, .int (1) 0⟩] 2, #[]⟩  -- class statics
def o3 (P : Params) : Obj := ⟨.type "dict", none, .dict #[⟨hs P "__name__", .str "__name__" 165, .str "law_everysite_k76_deeds_refused" 2248⟩, ⟨hs P "__doc__", .str "__doc__" 166, .none⟩, ⟨hs P "__package__", .str "__package__" 167, .none⟩, ⟨hs P "__loader__", .str "__loader__" 168, .builtin "__main__.__loader__#opaque"⟩, ⟨hs P "__spec__", .str "__spec__" 169, .none⟩, ⟨hs P "__annotations__", .str "__annotations__" 170, .ref 6⟩, ⟨hs P "__builtins__", .str "__builtins__" 171, .ref 4⟩, ⟨hs P "__file__", .str "__file__" 173, .str "/claim/cut.py" 172⟩, ⟨hs P "__cached__", .str "__cached__" 174, .none⟩, ⟨hs P "_wall", .str "_wall" 193, .ref 21⟩, ⟨hs P "DIGITS", .str "DIGITS" 197, .str "0123456789" 196⟩, ⟨hs P "is_integer", .str "is_integer" 204, .ref 28⟩, ⟨hs P "is_number", .str "is_number" 213, .ref 35⟩, ⟨hs P "number_of", .str "number_of" 219, .ref 40⟩, ⟨hs P "are_different", .str "are_different" 226, .ref 47⟩, ⟨hs P "book_text", .str "book_text" 234, .ref 52⟩, ⟨hs P "words_of", .str "words_of" 245, .ref 59⟩, ⟨hs P "sides_of", .str "sides_of" 251, .ref 64⟩, ⟨hs P "is_taken", .str "is_taken" 264, .ref 71⟩, ⟨hs P "SiteError", .str "SiteError" 284, .ref 81⟩, ⟨hs P "StateError", .str "StateError" 302, .ref 94⟩, ⟨hs P "LimitError", .str "LimitError" 322, .ref 107⟩, ⟨hs P "NotABook", .str "NotABook" 347, .ref 127⟩, ⟨hs P "NotATemplate", .str "NotATemplate" 372, .ref 146⟩, ⟨hs P "NotASection", .str "NotASection" 397, .ref 165⟩, ⟨hs P "NotAProperty", .str "NotAProperty" 422, .ref 184⟩, ⟨hs P "UnknownKind", .str "UnknownKind" 447, .ref 203⟩, ⟨hs P "UnknownTemplate", .str "UnknownTemplate" 472, .ref 222⟩, ⟨hs P "UnknownFace", .str "UnknownFace" 497, .ref 241⟩, ⟨hs P "InvalidText", .str "InvalidText" 522, .ref 260⟩, ⟨hs P "InvalidPath", .str "InvalidPath" 547, .ref 279⟩, ⟨hs P "InvalidNumber", .str "InvalidNumber" 572, .ref 298⟩, ⟨hs P "InvalidName", .str "InvalidName" 597, .ref 317⟩, ⟨hs P "InvalidSection", .str "InvalidSection" 622, .ref 336⟩, ⟨hs P "InvalidKinds", .str "InvalidKinds" 647, .ref 355⟩, ⟨hs P "InvalidTemplates", .str "InvalidTemplates" 672, .ref 374⟩, ⟨hs P "InvalidRows", .str "InvalidRows" 697, .ref 393⟩, ⟨hs P "InvalidParts", .str "InvalidParts" 722, .ref 412⟩, ⟨hs P "InvalidGuards", .str "InvalidGuards" 747, .ref 431⟩, ⟨hs P "InvalidDeed", .str "InvalidDeed" 772, .ref 450⟩, ⟨hs P "EmptyKind", .str "EmptyKind" 797, .ref 469⟩, ⟨hs P "Broken", .str "Broken" 824, .ref 488⟩, ⟨hs P "UnknownSite", .str "UnknownSite" 849, .ref 507⟩, ⟨hs P "InUse", .str "InUse" 874, .ref 526⟩, ⟨hs P "NothingToUndo", .str "NothingToUndo" 890, .ref 538⟩, ⟨hs P "Busy", .str "Busy" 906, .ref 550⟩, ⟨hs P "TooManyTemplates", .str "TooManyTemplates" 931, .ref 569⟩, ⟨hs P "TooManyRows", .str "TooManyRows" 956, .ref 588⟩, ⟨hs P "TooManyLeaves", .str "TooManyLeaves" 981, .ref 607⟩, ⟨hs P "TooManyLevels", .str "TooManyLevels" 1006, .ref 626⟩, ⟨hs P "TooManyFaces", .str "TooManyFaces" 1031, .ref 645⟩, ⟨hs P "TooManyDeeds", .str "TooManyDeeds" 1056, .ref 664⟩, ⟨hs P "MOST_KINDS", .str "MOST_KINDS" 1058, .int (4) 1057⟩, ⟨hs P "MOST_GATES", .str "MOST_GATES" 1060, .int (3) 1059⟩, ⟨hs P "MOST_TEMPLATES", .str "MOST_TEMPLATES" 1062, .int (8) 1061⟩, ⟨hs P "MOST_PAGES", .str "MOST_PAGES" 1064, .int (5) 1063⟩, ⟨hs P "MOST_LINKS", .str "MOST_LINKS" 1066, .int (12) 1065⟩, ⟨hs P "MOST_MARKS", .str "MOST_MARKS" 1068, .int (8) 1067⟩, ⟨hs P "MOST_SLOTS", .str "MOST_SLOTS" 1070, .int (2) 1069⟩, ⟨hs P "MOST_ROWS", .str "MOST_ROWS" 1072, .int (200) 1071⟩, ⟨hs P "MOST_LEAVES", .str "MOST_LEAVES" 1074, .int (6) 1073⟩, ⟨hs P "MOST_DEPTH", .str "MOST_DEPTH" 1076, .int (8) 1075⟩, ⟨hs P "MOST_FACES", .str "MOST_FACES" 1078, .int (30) 1077⟩, ⟨hs P "MOST_DEEDS", .str "MOST_DEEDS" 1080, .int (100) 1079⟩, ⟨hs P "LETTERS", .str "LETTERS" 1084, .str "abcdefghijklmnopqrstuvwxyz" 1083⟩, ⟨hs P "SIGNS", .str "SIGNS" 1086, .str "abcdefghijklmnopqrstuvwxyz0123456789" 1085⟩, ⟨hs P "LONGEST", .str "LONGEST" 1088, .int (8) 1087⟩, ⟨hs P "is_name", .str "is_name" 1094, .ref 671⟩, ⟨hs P "is_row", .str "is_row" 1102, .ref 678⟩, ⟨hs P "is_kind", .str "is_kind" 1109, .ref 685⟩, ⟨hs P "is_link", .str "is_link" 1117, .ref 692⟩, ⟨hs P "is_mark", .str "is_mark" 1126, .ref 699⟩, ⟨hs P "gates_of", .str "gates_of" 1136, .ref 706⟩, ⟨hs P "is_slot", .str "is_slot" 1142, .ref 711⟩, ⟨hs P "is_template", .str "is_template" 1148, .ref 716⟩, ⟨hs P "check_kinds", .str "check_kinds" 1158, .ref 723⟩, ⟨hs P "check_templates", .str "check_templates" 1169, .ref 730⟩, ⟨hs P "check_filled", .str "check_filled" 1175, .ref 735⟩, ⟨hs P "Book", .str "Book" 1317, .ref 835⟩, ⟨hs P "check_book", .str "check_book" 1324, .ref 846⟩, ⟨hs P "joined", .str "joined" 1332, .ref 851⟩, ⟨hs P "are_rows", .str "are_rows" 1344, .ref 858⟩, ⟨hs P "kind_of", .str "kind_of" 1350, .ref 863⟩, ⟨hs P "rows_text", .str "rows_text" 1356, .ref 868⟩, ⟨hs P "rows_of", .str "rows_of" 1362, .ref 873⟩, ⟨hs P "Section", .str "Section" 1499, .ref 955⟩, ⟨hs P "is_section_of", .str "is_section_of" 1508, .ref 966⟩, ⟨hs P "check_section", .str "check_section" 1515, .ref 973⟩, ⟨hs P "check_property", .str "check_property" 1524, .ref 980⟩, ⟨hs P "check_joint", .str "check_joint" 1532, .ref 987⟩, ⟨hs P "Property", .str "Property" 1655, .ref 1080⟩, ⟨hs P "Both", .str "Both" 1702, .ref 1115⟩, ⟨hs P "Either", .str "Either" 1749, .ref 1148⟩, ⟨hs P "Opposite", .str "Opposite" 1794, .ref 1181⟩, ⟨hs P "Anything", .str "Anything" 1834, .ref 1207⟩, ⟨hs P "is_alike", .str "is_alike" 1840, .ref 1216⟩, ⟨hs P "choices_of", .str "choices_of" 1846, .ref 1221⟩, ⟨hs P "makings_of", .str "makings_of" 1852, .ref 1226⟩, ⟨hs P "parts_of", .str "parts_of" 1858, .ref 1231⟩, ⟨hs P "least_making", .str "least_making" 1864, .ref 1236⟩, ⟨hs P "firsts_of", .str "firsts_of" 1870, .ref 1241⟩, ⟨hs P "Table", .str "Table" 1945, .ref 1294⟩, ⟨hs P "first_site", .str "first_site" 1960, .ref 1305⟩, ⟨hs P "first_without", .str "first_without" 1968, .ref 1312⟩, ⟨hs P "LENGTHS", .str "LENGTHS" 1983, .ref 1313⟩, ⟨hs P "SITE_LENGTHS", .str "SITE_LENGTHS" 1993, .ref 1314⟩, ⟨hs P "check_guards", .str "check_guards" 2005, .ref 1321⟩, ⟨hs P "Workshop", .str "Workshop" 2169, .ref 1440⟩, ⟨hs P "is_site_deed", .str "is_site_deed" 2176, .ref 1451⟩, ⟨hs P "has_template", .str "has_template" 2182, .ref 1456⟩, ⟨hs P "SiteWorkshop", .str "SiteWorkshop" 2247, .ref 1504⟩, ⟨hs P "_law_cell", .str "_law_cell" 2259, .ref 1513⟩, ⟨hs P "_law_pool", .str "_law_pool" 2266, .ref 1520⟩, ⟨hs P "_law_draw", .str "_law_draw" 2276, .ref 1527⟩, ⟨hs P "_law_names", .str "_law_names" 2282, .ref 1532⟩, ⟨hs P "_law_unlike", .str "_law_unlike" 2291, .ref 1539⟩, ⟨hs P "_law_spots", .str "_law_spots" 2301, .ref 1546⟩, ⟨hs P "_law_template", .str "_law_template" 2307, .ref 1551⟩, ⟨hs P "_law_book", .str "_law_book" 2313, .ref 1556⟩, ⟨hs P "_law_caught", .str "_law_caught" 2326, .ref 1563⟩, ⟨hs P "_law_odd", .str "_law_odd" 2335, .ref 1570⟩, ⟨hs P "_law_shown", .str "_law_shown" 2342, .ref 1577⟩, ⟨hs P "_law_odd_right", .str "_law_odd_right" 2348, .ref 1582⟩, ⟨hs P "_law_full_right", .str "_law_full_right" 2365, .ref 1589⟩, ⟨hs P "_law_right", .str "_law_right" 2380, .ref 1596⟩, ⟨hs P "law", .str "law" 2386, .ref 1601⟩] 126, #[]⟩  -- globals
def o27 (P : Params) : Obj := ⟨.type "code", none, .fields #[.str "is_integer" 198, .str "is_integer" 199, .str "/claim/cut.py" 200, .int (6) 0, .int (1) 0, .int (0) 0, .int (0) 0, .int (3) 0, .ref 22, .bool true, .int (181) 0, .ref 23, .none, .ref 24, .ref 25, .ref 26, .int (202) 0, .int (6) 0, .str "/claim/cut.py" 203], #[]⟩  -- code of is_integer
def o28 (P : Params) : Obj := ⟨.type "function", none, .func (mkF "is_integer" "is_integer" (top 3) (.none) (.none) (.none) (.str "everysite.integers" 194) (.ref 27) (.none)), #[]⟩  -- is_integer
def o34 (P : Params) : Obj := ⟨.type "code", none, .fields #[.str "is_number" 205, .str "is_number" 206, .str "/claim/cut.py" 207, .int (8) 0, .int (3) 0, .int (0) 0, .int (0) 0, .int (3) 0, .ref 29, .bool true, .int (181) 0, .ref 30, .none, .ref 31, .ref 32, .ref 33, .int (211) 0, .int (8) 0, .str "/claim/cut.py" 212], #[]⟩  -- code of is_number
def o35 (P : Params) : Obj := ⟨.type "function", none, .func (mkF "is_number" "is_number" (top 4) (.none) (.none) (.none) (.str "everysite.integers" 194) (.ref 34) (.none)), #[]⟩  -- is_number
def o46 (P : Params) : Obj := ⟨.type "code", none, .fields #[.str "are_different" 220, .str "are_different" 221, .str "/claim/cut.py" 222, .int (14) 0, .int (1) 0, .int (0) 0, .int (0) 0, .int (3) 0, .ref 41, .bool true, .int (181) 0, .ref 42, .none, .ref 43, .ref 44, .ref 45, .int (224) 0, .int (14) 0, .str "/claim/cut.py" 225], #[]⟩  -- code of are_different
def o47 (P : Params) : Obj := ⟨.type "function", none, .func (mkF "are_different" "are_different" (top 6) (.none) (.none) (.none) (.str "everysite.integers" 194) (.ref 46) (.none)), #[]⟩  -- are_different
def o51 (P : Params) : Obj := ⟨.type "code", none, .fields #[.str "book_text" 229, .str "book_text" 230, .str "/claim/cut.py" 231, .int (17) 0, .int (2) 0, .int (0) 0, .int (0) 0, .int (3) 0, .ref 48, .bool true, .int (181) 0, .ref 49, .none, .none, .none, .ref 50, .int (232) 0, .int (17) 0, .str "/claim/cut.py" 233], #[]⟩  -- code of book_text
def o52 (P : Params) : Obj := ⟨.type "function", none, .func (mkF "book_text" "book_text" (top 8) (.none) (.none) (.none) (.str "everysite.booktexts" 227) (.ref 51) (.none)), #[]⟩  -- book_text
def o80 (P : Params) : Obj := ⟨.type "dict", none, .dict #[⟨hs P "__module__", .str "__module__" 274, .str "everysite.errors" 265⟩, ⟨hs P "__firstlineno__", .str "__firstlineno__" 278, .int (56) 277⟩, ⟨hs P "__static_attributes__", .str "__static_attributes__" 279, .ref 79⟩, ⟨hs P "__weakref__", .str "__weakref__" 281, .ref 82⟩, ⟨hs P "__doc__", .str "__doc__" 282, .none⟩] 3, #[]⟩  -- ns of SiteError
def o81 (P : Params) : Obj := ⟨.type "type", none, .cls ⟨"SiteError", [.type "ValueError"], [.ref 81, .type "ValueError", .type "Exception", .type "BaseException", .type "object"], 80, "SiteError", true, [], [.ref 127, .ref 146, .ref 165, .ref 184, .ref 203, .ref 222, .ref 241, .ref 260, .ref 279, .ref 298, .ref 317, .ref 336, .ref 355, .ref 374, .ref 393, .ref 412, .ref 431, .ref 450], false, none, false⟩, #[(some (.ref 72)), none, (some (.str "SiteError" 267)), (some (.str "SiteError" 275)), (some (.builtin "ValueError.__new__")), (some (.bool true))]⟩  -- SiteError
def o93 (P : Params) : Obj := ⟨.type "dict", none, .dict #[⟨hs P "__module__", .str "__module__" 292, .str "everysite.errors" 265⟩, ⟨hs P "__firstlineno__", .str "__firstlineno__" 296, .int (58) 295⟩, ⟨hs P "__static_attributes__", .str "__static_attributes__" 297, .ref 92⟩, ⟨hs P "__weakref__", .str "__weakref__" 299, .ref 95⟩, ⟨hs P "__doc__", .str "__doc__" 300, .none⟩] 3, #[]⟩  -- ns of StateError
def o94 (P : Params) : Obj := ⟨.type "type", none, .cls ⟨"StateError", [.type "LookupError"], [.ref 94, .type "LookupError", .type "Exception", .type "BaseException", .type "object"], 93, "StateError", true, [], [.ref 469, .ref 488, .ref 507, .ref 526, .ref 538, .ref 550], false, none, false⟩, #[(some (.ref 85)), none, (some (.str "StateError" 285)), (some (.str "StateError" 293)), (some (.builtin "LookupError.__new__")), (some (.bool true))]⟩  -- StateError
def o106 (P : Params) : Obj := ⟨.type "dict", none, .dict #[⟨hs P "__module__", .str "__module__" 310, .str "everysite.errors" 265⟩, ⟨hs P "__firstlineno__", .str "__firstlineno__" 314, .int (60) 313⟩, ⟨hs P "__static_attributes__", .str "__static_attributes__" 315, .ref 105⟩, ⟨hs P "__weakref__", .str "__weakref__" 317, .ref 108⟩, ⟨hs P "__doc__", .str "__doc__" 318, .none⟩] 3, #[]⟩  -- ns of LimitError
def o107 (P : Params) : Obj := ⟨.type "type", none, .cls ⟨"LimitError", [.type "ArithmeticError"], [.ref 107, .type "ArithmeticError", .type "Exception", .type "BaseException", .type "object"], 106, "LimitError", true, [], [.ref 569, .ref 588, .ref 607, .ref 626, .ref 645, .ref 664], false, none, false⟩, #[(some (.ref 98)), none, (some (.str "LimitError" 303)), (some (.str "LimitError" 311)), (some (.builtin "ArithmeticError.__new__")), (some (.bool true))]⟩  -- LimitError
def o123 (P : Params) : Obj := ⟨.type "code", none, .fields #[.str "__init__" 335, .str "NotABook.__init__" 336, .str "/claim/cut.py" 337, .int (64) 0, .int (2) 0, .int (0) 0, .int (0) 0, .int (3) 0, .ref 118, .bool true, .int (181) 0, .ref 119, .none, .ref 120, .ref 121, .ref 122, .int (340) 0, .int (64) 0, .str "/claim/cut.py" 341], #[]⟩  -- code of NotABook.__init__
def o124 (P : Params) : Obj := ⟨.type "function", none, .func (mkF "__init__" "NotABook.__init__" (inClass (top 16) 0) (.none) (.none) (.none) (.str "everysite.errors" 265) (.ref 123) (.none)), #[]⟩  -- NotABook.__init__
def o126 (P : Params) : Obj := ⟨.type "dict", none, .dict #[⟨hs P "__module__", .str "__module__" 330, .str "everysite.errors" 265⟩, ⟨hs P "__firstlineno__", .str "__firstlineno__" 334, .int (62) 333⟩, ⟨hs P "__init__", .str "__init__" 342, .ref 124⟩, ⟨hs P "__static_attributes__", .str "__static_attributes__" 344, .ref 125⟩, ⟨hs P "__doc__", .str "__doc__" 345, .none⟩] 2, #[]⟩  -- ns of NotABook
def o127 (P : Params) : Obj := ⟨.type "type", none, .cls ⟨"NotABook", [.ref 81], [.ref 127, .ref 81, .type "ValueError", .type "Exception", .type "BaseException", .type "object"], 126, "NotABook", true, [], [], false, none, false⟩, #[(some (.ref 111)), none, (some (.str "NotABook" 323)), (some (.str "NotABook" 331)), (some (.builtin "ValueError.__new__")), (some (.bool true))]⟩  -- NotABook
def o218 (P : Params) : Obj := ⟨.type "code", none, .fields #[.str "__init__" 460, .str "UnknownTemplate.__init__" 461, .str "/claim/cut.py" 462, .int (84) 0, .int (2) 0, .int (0) 0, .int (0) 0, .int (3) 0, .ref 213, .bool true, .int (181) 0, .ref 214, .none, .ref 215, .ref 216, .ref 217, .int (465) 0, .int (84) 0, .str "/claim/cut.py" 466], #[]⟩  -- code of UnknownTemplate.__init__
def o219 (P : Params) : Obj := ⟨.type "function", none, .func (mkF "__init__" "UnknownTemplate.__init__" (inClass (top 21) 0) (.none) (.none) (.none) (.str "everysite.errors" 265) (.ref 218) (.none)), #[]⟩  -- UnknownTemplate.__init__
def o221 (P : Params) : Obj := ⟨.type "dict", none, .dict #[⟨hs P "__module__", .str "__module__" 455, .str "everysite.errors" 265⟩, ⟨hs P "__firstlineno__", .str "__firstlineno__" 459, .int (82) 458⟩, ⟨hs P "__init__", .str "__init__" 467, .ref 219⟩, ⟨hs P "__static_attributes__", .str "__static_attributes__" 469, .ref 220⟩, ⟨hs P "__doc__", .str "__doc__" 470, .none⟩] 2, #[]⟩  -- ns of UnknownTemplate
def o222 (P : Params) : Obj := ⟨.type "type", none, .cls ⟨"UnknownTemplate", [.ref 81], [.ref 222, .ref 81, .type "ValueError", .type "Exception", .type "BaseException", .type "object"], 221, "UnknownTemplate", true, [], [], false, none, false⟩, #[(some (.ref 206)), none, (some (.str "UnknownTemplate" 448)), (some (.str "UnknownTemplate" 456)), (some (.builtin "ValueError.__new__")), (some (.bool true))]⟩  -- UnknownTemplate
def o294 (P : Params) : Obj := ⟨.type "code", none, .fields #[.str "__init__" 560, .str "InvalidNumber.__init__" 561, .str "/claim/cut.py" 562, .int (100) 0, .int (2) 0, .int (0) 0, .int (0) 0, .int (3) 0, .ref 289, .bool true, .int (181) 0, .ref 290, .none, .ref 291, .ref 292, .ref 293, .int (565) 0, .int (100) 0, .str "/claim/cut.py" 566], #[]⟩  -- code of InvalidNumber.__init__
def o295 (P : Params) : Obj := ⟨.type "function", none, .func (mkF "__init__" "InvalidNumber.__init__" (inClass (top 25) 0) (.none) (.none) (.none) (.str "everysite.errors" 265) (.ref 294) (.none)), #[]⟩  -- InvalidNumber.__init__
def o297 (P : Params) : Obj := ⟨.type "dict", none, .dict #[⟨hs P "__module__", .str "__module__" 555, .str "everysite.errors" 265⟩, ⟨hs P "__firstlineno__", .str "__firstlineno__" 559, .int (98) 558⟩, ⟨hs P "__init__", .str "__init__" 567, .ref 295⟩, ⟨hs P "__static_attributes__", .str "__static_attributes__" 569, .ref 296⟩, ⟨hs P "__doc__", .str "__doc__" 570, .none⟩] 2, #[]⟩  -- ns of InvalidNumber
def o298 (P : Params) : Obj := ⟨.type "type", none, .cls ⟨"InvalidNumber", [.ref 81], [.ref 298, .ref 81, .type "ValueError", .type "Exception", .type "BaseException", .type "object"], 297, "InvalidNumber", true, [], [], false, none, false⟩, #[(some (.ref 282)), none, (some (.str "InvalidNumber" 548)), (some (.str "InvalidNumber" 556)), (some (.builtin "ValueError.__new__")), (some (.bool true))]⟩  -- InvalidNumber
def o446 (P : Params) : Obj := ⟨.type "code", none, .fields #[.str "__init__" 760, .str "InvalidDeed.__init__" 761, .str "/claim/cut.py" 762, .int (132) 0, .int (2) 0, .int (0) 0, .int (0) 0, .int (3) 0, .ref 441, .bool true, .int (181) 0, .ref 442, .none, .ref 443, .ref 444, .ref 445, .int (765) 0, .int (132) 0, .str "/claim/cut.py" 766], #[]⟩  -- code of InvalidDeed.__init__
def o447 (P : Params) : Obj := ⟨.type "function", none, .func (mkF "__init__" "InvalidDeed.__init__" (inClass (top 33) 0) (.none) (.none) (.none) (.str "everysite.errors" 265) (.ref 446) (.none)), #[]⟩  -- InvalidDeed.__init__
def o449 (P : Params) : Obj := ⟨.type "dict", none, .dict #[⟨hs P "__module__", .str "__module__" 755, .str "everysite.errors" 265⟩, ⟨hs P "__firstlineno__", .str "__firstlineno__" 759, .int (130) 758⟩, ⟨hs P "__init__", .str "__init__" 767, .ref 447⟩, ⟨hs P "__static_attributes__", .str "__static_attributes__" 769, .ref 448⟩, ⟨hs P "__doc__", .str "__doc__" 770, .none⟩] 2, #[]⟩  -- ns of InvalidDeed
def o450 (P : Params) : Obj := ⟨.type "type", none, .cls ⟨"InvalidDeed", [.ref 81], [.ref 450, .ref 81, .type "ValueError", .type "Exception", .type "BaseException", .type "object"], 449, "InvalidDeed", true, [], [], false, none, false⟩, #[(some (.ref 434)), none, (some (.str "InvalidDeed" 748)), (some (.str "InvalidDeed" 756)), (some (.builtin "ValueError.__new__")), (some (.bool true))]⟩  -- InvalidDeed
def o660 (P : Params) : Obj := ⟨.type "code", none, .fields #[.str "__init__" 1044, .str "TooManyDeeds.__init__" 1045, .str "/claim/cut.py" 1046, .int (177) 0, .int (2) 0, .int (0) 0, .int (0) 0, .int (3) 0, .ref 655, .bool true, .int (181) 0, .ref 656, .none, .ref 657, .ref 658, .ref 659, .int (1049) 0, .int (177) 0, .str "/claim/cut.py" 1050], #[]⟩  -- code of TooManyDeeds.__init__
def o661 (P : Params) : Obj := ⟨.type "function", none, .func (mkF "__init__" "TooManyDeeds.__init__" (inClass (top 45) 0) (.none) (.none) (.none) (.str "everysite.errors" 265) (.ref 660) (.none)), #[]⟩  -- TooManyDeeds.__init__
def o663 (P : Params) : Obj := ⟨.type "dict", none, .dict #[⟨hs P "__module__", .str "__module__" 1039, .str "everysite.errors" 265⟩, ⟨hs P "__firstlineno__", .str "__firstlineno__" 1043, .int (175) 1042⟩, ⟨hs P "__init__", .str "__init__" 1051, .ref 661⟩, ⟨hs P "__static_attributes__", .str "__static_attributes__" 1053, .ref 662⟩, ⟨hs P "__doc__", .str "__doc__" 1054, .none⟩] 2, #[]⟩  -- ns of TooManyDeeds
def o664 (P : Params) : Obj := ⟨.type "type", none, .cls ⟨"TooManyDeeds", [.ref 107], [.ref 664, .ref 107, .type "ArithmeticError", .type "Exception", .type "BaseException", .type "object"], 663, "TooManyDeeds", true, [], [], false, none, false⟩, #[(some (.ref 648)), none, (some (.str "TooManyDeeds" 1032)), (some (.str "TooManyDeeds" 1040)), (some (.builtin "ArithmeticError.__new__")), (some (.bool true))]⟩  -- TooManyDeeds
def o670 (P : Params) : Obj := ⟨.type "code", none, .fields #[.str "is_name" 1089, .str "is_name" 1090, .str "/claim/cut.py" 1091, .int (195) 0, .int (1) 0, .int (0) 0, .int (0) 0, .int (3) 0, .ref 667, .bool true, .int (181) 0, .ref 668, .none, .none, .none, .ref 669, .int (1092) 0, .int (195) 0, .str "/claim/cut.py" 1093], #[]⟩  -- code of is_name
def o671 (P : Params) : Obj := ⟨.type "function", none, .func (mkF "is_name" "is_name" (top 62) (.none) (.none) (.none) (.str "everysite.books" 1081) (.ref 670) (.none)), #[]⟩  -- is_name
def o677 (P : Params) : Obj := ⟨.type "code", none, .fields #[.str "is_row" 1095, .str "is_row" 1096, .str "/claim/cut.py" 1097, .int (199) 0, .int (2) 0, .int (0) 0, .int (0) 0, .int (3) 0, .ref 672, .bool true, .int (181) 0, .ref 673, .none, .ref 674, .ref 675, .ref 676, .int (1100) 0, .int (199) 0, .str "/claim/cut.py" 1101], #[]⟩  -- code of is_row
def o678 (P : Params) : Obj := ⟨.type "function", none, .func (mkF "is_row" "is_row" (top 63) (.none) (.none) (.none) (.str "everysite.books" 1081) (.ref 677) (.none)), #[]⟩  -- is_row
def o684 (P : Params) : Obj := ⟨.type "code", none, .fields #[.str "is_kind" 1103, .str "is_kind" 1104, .str "/claim/cut.py" 1105, .int (201) 0, .int (1) 0, .int (0) 0, .int (0) 0, .int (3) 0, .ref 679, .bool true, .int (181) 0, .ref 680, .none, .ref 681, .ref 682, .ref 683, .int (1107) 0, .int (201) 0, .str "/claim/cut.py" 1108], #[]⟩  -- code of is_kind
def o685 (P : Params) : Obj := ⟨.type "function", none, .func (mkF "is_kind" "is_kind" (top 64) (.none) (.none) (.none) (.str "everysite.books" 1081) (.ref 684) (.none)), #[]⟩  -- is_kind
def o691 (P : Params) : Obj := ⟨.type "code", none, .fields #[.str "is_link" 1110, .str "is_link" 1111, .str "/claim/cut.py" 1112, .int (203) 0, .int (2) 0, .int (0) 0, .int (0) 0, .int (3) 0, .ref 686, .bool true, .int (181) 0, .ref 687, .none, .ref 688, .ref 689, .ref 690, .int (1115) 0, .int (203) 0, .str "/claim/cut.py" 1116], #[]⟩  -- code of is_link
def o692 (P : Params) : Obj := ⟨.type "function", none, .func (mkF "is_link" "is_link" (top 65) (.none) (.none) (.none) (.str "everysite.books" 1081) (.ref 691) (.none)), #[]⟩  -- is_link
def o698 (P : Params) : Obj := ⟨.type "code", none, .fields #[.str "is_mark" 1118, .str "is_mark" 1119, .str "/claim/cut.py" 1120, .int (207) 0, .int (3) 0, .int (0) 0, .int (0) 0, .int (3) 0, .ref 693, .bool true, .int (181) 0, .ref 694, .none, .ref 695, .ref 696, .ref 697, .int (1124) 0, .int (207) 0, .str "/claim/cut.py" 1125], #[]⟩  -- code of is_mark
def o699 (P : Params) : Obj := ⟨.type "function", none, .func (mkF "is_mark" "is_mark" (top 66) (.none) (.none) (.none) (.str "everysite.books" 1081) (.ref 698) (.none)), #[]⟩  -- is_mark
def o705 (P : Params) : Obj := ⟨.type "code", none, .fields #[.str "gates_of" 1127, .str "gates_of" 1128, .str "/claim/cut.py" 1129, .int (209) 0, .int (2) 0, .int (0) 0, .int (0) 0, .int (3) 0, .ref 700, .bool true, .int (181) 0, .ref 701, .none, .ref 702, .ref 703, .ref 704, .int (1134) 0, .int (209) 0, .str "/claim/cut.py" 1135], #[]⟩  -- code of gates_of
def o706 (P : Params) : Obj := ⟨.type "function", none, .func (mkF "gates_of" "gates_of" (top 67) (.none) (.none) (.none) (.str "everysite.books" 1081) (.ref 705) (.none)), #[]⟩  -- gates_of
def o710 (P : Params) : Obj := ⟨.type "code", none, .fields #[.str "is_slot" 1137, .str "is_slot" 1138, .str "/claim/cut.py" 1139, .int (214) 0, .int (3) 0, .int (0) 0, .int (0) 0, .int (3) 0, .ref 707, .bool true, .int (181) 0, .ref 708, .none, .none, .none, .ref 709, .int (1140) 0, .int (214) 0, .str "/claim/cut.py" 1141], #[]⟩  -- code of is_slot
def o711 (P : Params) : Obj := ⟨.type "function", none, .func (mkF "is_slot" "is_slot" (top 68) (.none) (.none) (.none) (.str "everysite.books" 1081) (.ref 710) (.none)), #[]⟩  -- is_slot
def o715 (P : Params) : Obj := ⟨.type "code", none, .fields #[.str "is_template" 1143, .str "is_template" 1144, .str "/claim/cut.py" 1145, .int (221) 0, .int (2) 0, .int (0) 0, .int (0) 0, .int (3) 0, .ref 712, .bool true, .int (181) 0, .ref 713, .none, .none, .none, .ref 714, .int (1146) 0, .int (221) 0, .str "/claim/cut.py" 1147], #[]⟩  -- code of is_template
def o716 (P : Params) : Obj := ⟨.type "function", none, .func (mkF "is_template" "is_template" (top 69) (.none) (.none) (.none) (.str "everysite.books" 1081) (.ref 715) (.none)), #[]⟩  -- is_template
def o722 (P : Params) : Obj := ⟨.type "code", none, .fields #[.str "check_kinds" 1149, .str "check_kinds" 1150, .str "/claim/cut.py" 1151, .int (236) 0, .int (1) 0, .int (0) 0, .int (0) 0, .int (3) 0, .ref 717, .bool true, .int (181) 0, .ref 718, .none, .ref 719, .ref 720, .ref 721, .int (1156) 0, .int (236) 0, .str "/claim/cut.py" 1157], #[]⟩  -- code of check_kinds
def o723 (P : Params) : Obj := ⟨.type "function", none, .func (mkF "check_kinds" "check_kinds" (top 70) (.none) (.none) (.none) (.str "everysite.books" 1081) (.ref 722) (.none)), #[]⟩  -- check_kinds
def o729 (P : Params) : Obj := ⟨.type "code", none, .fields #[.str "check_templates" 1159, .str "check_templates" 1160, .str "/claim/cut.py" 1161, .int (244) 0, .int (2) 0, .int (0) 0, .int (0) 0, .int (3) 0, .ref 724, .bool true, .int (181) 0, .ref 725, .none, .ref 726, .ref 727, .ref 728, .int (1167) 0, .int (244) 0, .str "/claim/cut.py" 1168], #[]⟩  -- code of check_templates
def o730 (P : Params) : Obj := ⟨.type "function", none, .func (mkF "check_templates" "check_templates" (top 71) (.none) (.none) (.none) (.str "everysite.books" 1081) (.ref 729) (.none)), #[]⟩  -- check_templates
def o734 (P : Params) : Obj := ⟨.type "code", none, .fields #[.str "check_filled" 1170, .str "check_filled" 1171, .str "/claim/cut.py" 1172, .int (252) 0, .int (2) 0, .int (0) 0, .int (0) 0, .int (3) 0, .ref 731, .bool true, .int (181) 0, .ref 732, .none, .none, .none, .ref 733, .int (1173) 0, .int (252) 0, .str "/claim/cut.py" 1174], #[]⟩  -- code of check_filled
def o735 (P : Params) : Obj := ⟨.type "function", none, .func (mkF "check_filled" "check_filled" (top 72) (.none) (.none) (.none) (.str "everysite.books" 1081) (.ref 734) (.none)), #[]⟩  -- check_filled
def o746 (P : Params) : Obj := ⟨.type "code", none, .fields #[.str "__init__" 1188, .str "Book.__init__" 1189, .str "/claim/cut.py" 1190, .int (263) 0, .int (3) 0, .int (0) 0, .int (0) 0, .int (3) 0, .ref 743, .bool true, .int (181) 0, .ref 744, .none, .none, .none, .ref 745, .int (1191) 0, .int (263) 0, .str "/claim/cut.py" 1192], #[]⟩  -- code of Book.__init__
def o747 (P : Params) : Obj := ⟨.type "function", none, .func (mkF "__init__" "Book.__init__" (inClass (top 73) 0) (.none) (.none) (.none) (.str "everysite.books" 1081) (.ref 746) (.none)), #[]⟩  -- Book.__init__
def o777 (P : Params) : Obj := ⟨.type "code", none, .fields #[.str "place" 1233, .str "Book.place" 1234, .str "/claim/cut.py" 1235, .int (297) 0, .int (2) 0, .int (0) 0, .int (0) 0, .int (3) 0, .ref 772, .bool true, .int (181) 0, .ref 773, .none, .ref 774, .ref 775, .ref 776, .int (1240) 0, .int (297) 0, .str "/claim/cut.py" 1241], #[]⟩  -- code of Book.place
def o778 (P : Params) : Obj := ⟨.type "function", none, .func (mkF "place" "Book.place" (inClass (top 73) 4) (.none) (.none) (.none) (.str "everysite.books" 1081) (.ref 777) (.none)), #[]⟩  -- Book.place
def o784 (P : Params) : Obj := ⟨.type "code", none, .fields #[.str "template" 1243, .str "Book.template" 1244, .str "/claim/cut.py" 1245, .int (303) 0, .int (2) 0, .int (0) 0, .int (0) 0, .int (3) 0, .ref 779, .bool true, .int (181) 0, .ref 780, .none, .ref 781, .ref 782, .ref 783, .int (1248) 0, .int (303) 0, .str "/claim/cut.py" 1249], #[]⟩  -- code of Book.template
def o785 (P : Params) : Obj := ⟨.type "function", none, .func (mkF "template" "Book.template" (inClass (top 73) 5) (.none) (.none) (.none) (.str "everysite.books" 1081) (.ref 784) (.none)), #[]⟩  -- Book.template
def o789 (P : Params) : Obj := ⟨.type "code", none, .fields #[.str "with_template" 1251, .str "Book.with_template" 1252, .str "/claim/cut.py" 1253, .int (306) 0, .int (2) 0, .int (0) 0, .int (0) 0, .int (3) 0, .ref 786, .bool true, .int (181) 0, .ref 787, .none, .none, .none, .ref 788, .int (1254) 0, .int (306) 0, .str "/claim/cut.py" 1255], #[]⟩  -- code of Book.with_template
def o790 (P : Params) : Obj := ⟨.type "function", none, .func (mkF "with_template" "Book.with_template" (inClass (top 73) 6) (.none) (.none) (.none) (.str "everysite.books" 1081) (.ref 789) (.none)), #[]⟩  -- Book.with_template
def o796 (P : Params) : Obj := ⟨.type "code", none, .fields #[.str "without" 1257, .str "Book.without" 1258, .str "/claim/cut.py" 1259, .int (316) 0, .int (2) 0, .int (0) 0, .int (0) 0, .int (3) 0, .ref 791, .bool true, .int (181) 0, .ref 792, .none, .ref 793, .ref 794, .ref 795, .int (1264) 0, .int (316) 0, .str "/claim/cut.py" 1265], #[]⟩  -- code of Book.without
def o797 (P : Params) : Obj := ⟨.type "function", none, .func (mkF "without" "Book.without" (inClass (top 73) 7) (.none) (.none) (.none) (.str "everysite.books" 1081) (.ref 796) (.none)), #[]⟩  -- Book.without
def o803 (P : Params) : Obj := ⟨.type "code", none, .fields #[.str "__len__" 1267, .str "Book.__len__" 1268, .str "/claim/cut.py" 1269, .int (323) 0, .int (1) 0, .int (0) 0, .int (0) 0, .int (3) 0, .ref 798, .bool true, .int (181) 0, .ref 799, .none, .ref 800, .ref 801, .ref 802, .int (1271) 0, .int (323) 0, .str "/claim/cut.py" 1272], #[]⟩  -- code of Book.__len__
def o804 (P : Params) : Obj := ⟨.type "function", none, .func (mkF "__len__" "Book.__len__" (inClass (top 73) 8) (.none) (.none) (.none) (.str "everysite.books" 1081) (.ref 803) (.none)), #[]⟩  -- Book.__len__
def o810 (P : Params) : Obj := ⟨.type "code", none, .fields #[.str "__contains__" 1274, .str "Book.__contains__" 1275, .str "/claim/cut.py" 1276, .int (326) 0, .int (2) 0, .int (0) 0, .int (0) 0, .int (3) 0, .ref 805, .bool true, .int (181) 0, .ref 806, .none, .ref 807, .ref 808, .ref 809, .int (1279) 0, .int (326) 0, .str "/claim/cut.py" 1280], #[]⟩  -- code of Book.__contains__
def o811 (P : Params) : Obj := ⟨.type "function", none, .func (mkF "__contains__" "Book.__contains__" (inClass (top 73) 9) (.none) (.none) (.none) (.str "everysite.books" 1081) (.ref 810) (.none)), #[]⟩  -- Book.__contains__
def o817 (P : Params) : Obj := ⟨.type "code", none, .fields #[.str "__eq__" 1282, .str "Book.__eq__" 1283, .str "/claim/cut.py" 1284, .int (329) 0, .int (2) 0, .int (0) 0, .int (0) 0, .int (3) 0, .ref 812, .bool true, .int (181) 0, .ref 813, .none, .ref 814, .ref 815, .ref 816, .int (1287) 0, .int (329) 0, .str "/claim/cut.py" 1288], #[]⟩  -- code of Book.__eq__
def o818 (P : Params) : Obj := ⟨.type "function", none, .func (mkF "__eq__" "Book.__eq__" (inClass (top 73) 10) (.none) (.none) (.none) (.str "everysite.books" 1081) (.ref 817) (.none)), #[]⟩  -- Book.__eq__
def o834 (P : Params) : Obj := ⟨.type "dict", none, .dict #[⟨hs P "__module__", .str "__module__" 1183, .str "everysite.books" 1081⟩, ⟨hs P "__firstlineno__", .str "__firstlineno__" 1187, .int (261) 1186⟩, ⟨hs P "__init__", .str "__init__" 1193, .ref 747⟩, ⟨hs P "read", .str "read" 1215, .ref 756⟩, ⟨hs P "gate_count", .str "gate_count" 1224, .ref 764⟩, ⟨hs P "of_kind", .str "of_kind" 1232, .ref 771⟩, ⟨hs P "place", .str "place" 1242, .ref 778⟩, ⟨hs P "template", .str "template" 1250, .ref 785⟩, ⟨hs P "with_template", .str "with_template" 1256, .ref 790⟩, ⟨hs P "without", .str "without" 1266, .ref 797⟩, ⟨hs P "__len__", .str "__len__" 1273, .ref 804⟩, ⟨hs P "__contains__", .str "__contains__" 1281, .ref 811⟩, ⟨hs P "__eq__", .str "__eq__" 1289, .ref 818⟩, ⟨hs P "__str__", .str "__str__" 1296, .ref 825⟩, ⟨hs P "__repr__", .str "__repr__" 1303, .ref 832⟩, ⟨hs P "__static_attributes__", .str "__static_attributes__" 1309, .ref 833⟩, ⟨hs P "__dict__", .str "__dict__" 1311, .ref 836⟩, ⟨hs P "__weakref__", .str "__weakref__" 1313, .ref 837⟩, ⟨hs P "__doc__", .str "__doc__" 1314, .none⟩, ⟨hs P "__hash__", .str "__hash__" 1315, .none⟩] 5, #[]⟩  -- ns of Book
def o835 (P : Params) : Obj := ⟨.type "type", none, .cls ⟨"Book", [.type "object"], [.ref 835, .type "object"], 834, "Book", true, [], [], false, none, false⟩, #[none, none, (some (.str "Book" 1176)), (some (.str "Book" 1184)), (some (.builtin "object.__new__")), (some (.bool true))]⟩  -- Book
def o845 (P : Params) : Obj := ⟨.type "code", none, .fields #[.str "check_book" 1318, .str "check_book" 1319, .str "/claim/cut.py" 1320, .int (337) 0, .int (1) 0, .int (0) 0, .int (0) 0, .int (3) 0, .ref 840, .bool true, .int (181) 0, .ref 841, .none, .ref 842, .ref 843, .ref 844, .int (1322) 0, .int (337) 0, .str "/claim/cut.py" 1323], #[]⟩  -- code of check_book
def o846 (P : Params) : Obj := ⟨.type "function", none, .func (mkF "check_book" "check_book" (top 74) (.none) (.none) (.none) (.str "everysite.books" 1081) (.ref 845) (.none)), #[]⟩  -- check_book
def o1313 (P : Params) : Obj := ⟨.type "dict", none, .dict #[⟨hs P "put", .str "put" 1971, .int (2) 1972⟩, ⟨hs P "drop", .str "drop" 1973, .int (2) 1974⟩, ⟨hs P "guard", .str "guard" 1975, .int (2) 1976⟩, ⟨hs P "unguard", .str "unguard" 1977, .int (2) 1978⟩] 4, #[]⟩  -- LENGTHS
def o1314 (P : Params) : Obj := ⟨.type "dict", none, .dict #[⟨hs P "keep", .str "keep" 1984, .int (3) 1985⟩, ⟨hs P "forget", .str "forget" 1986, .int (2) 1987⟩, ⟨hs P "change", .str "change" 1988, .int (4) 1989⟩] 3, #[]⟩  -- SITE_LENGTHS
def o1320 (P : Params) : Obj := ⟨.type "code", none, .fields #[.str "check_guards" 1994, .str "check_guards" 1995, .str "/claim/cut.py" 1996, .int (682) 0, .int (3) 0, .int (0) 0, .int (0) 0, .int (3) 0, .ref 1315, .bool true, .int (181) 0, .ref 1316, .none, .ref 1317, .ref 1318, .ref 1319, .int (2003) 0, .int (682) 0, .str "/claim/cut.py" 2004], #[]⟩  -- code of check_guards
def o1321 (P : Params) : Obj := ⟨.type "function", none, .func (mkF "check_guards" "check_guards" (top 107) (.none) (.none) (.none) (.str "everysite.workshop" 1969) (.ref 1320) (.none)), #[]⟩  -- check_guards
def o1334 (P : Params) : Obj := ⟨.type "code", none, .fields #[.str "__init__" 2022, .str "Workshop.__init__" 2023, .str "/claim/cut.py" 2024, .int (691) 0, .int (2) 0, .int (0) 0, .int (0) 0, .int (3) 0, .ref 1329, .bool true, .int (181) 0, .ref 1330, .none, .ref 1331, .ref 1332, .ref 1333, .int (2027) 0, .int (691) 0, .str "/claim/cut.py" 2028], #[]⟩  -- code of Workshop.__init__
def o1335 (P : Params) : Obj := ⟨.type "function", none, .func (mkF "__init__" "Workshop.__init__" (inClass (top 108) 2) (.none) (.none) (.none) (.str "everysite.workshop" 1969) (.ref 1334) (.none)), #[]⟩  -- Workshop.__init__
def o1341 (P : Params) : Obj := ⟨.type "code", none, .fields #[.str "guards" 2030, .str "Workshop.guards" 2031, .str "/claim/cut.py" 2032, .int (700) 0, .int (1) 0, .int (0) 0, .int (0) 0, .int (3) 0, .ref 1336, .bool true, .int (181) 0, .ref 1337, .none, .ref 1338, .ref 1339, .ref 1340, .int (2034) 0, .int (700) 0, .str "/claim/cut.py" 2035], #[]⟩  -- code of Workshop.guards
def o1342 (P : Params) : Obj := ⟨.type "function", none, .func (mkF "guards" "Workshop.guards" (inClass (top 108) 3) (.none) (.none) (.none) (.str "everysite.workshop" 1969) (.ref 1341) (.none)), #[]⟩  -- Workshop.guards
def o1352 (P : Params) : Obj := ⟨.type "property", none, .fields #[.ref 1342, .ref 1351, .none, .none, .str "guards" 2037, .bool false], #[]⟩  -- Workshop.guards property
def o1358 (P : Params) : Obj := ⟨.type "code", none, .fields #[.str "check_idle" 2050, .str "Workshop.check_idle" 2051, .str "/claim/cut.py" 2052, .int (715) 0, .int (1) 0, .int (0) 0, .int (0) 0, .int (3) 0, .ref 1353, .bool true, .int (181) 0, .ref 1354, .none, .ref 1355, .ref 1356, .ref 1357, .int (2054) 0, .int (715) 0, .str "/claim/cut.py" 2055], #[]⟩  -- code of Workshop.check_idle
def o1359 (P : Params) : Obj := ⟨.type "function", none, .func (mkF "check_idle" "Workshop.check_idle" (inClass (top 108) 5) (.none) (.none) (.none) (.str "everysite.workshop" 1969) (.ref 1358) (.none)), #[]⟩  -- Workshop.check_idle
def o1365 (P : Params) : Obj := ⟨.type "code", none, .fields #[.str "is_deed" 2057, .str "Workshop.is_deed" 2058, .str "/claim/cut.py" 2059, .int (719) 0, .int (2) 0, .int (0) 0, .int (0) 0, .int (3) 0, .ref 1360, .bool true, .int (181) 0, .ref 1361, .none, .ref 1362, .ref 1363, .ref 1364, .int (2062) 0, .int (719) 0, .str "/claim/cut.py" 2063], #[]⟩  -- code of Workshop.is_deed
def o1366 (P : Params) : Obj := ⟨.type "function", none, .func (mkF "is_deed" "Workshop.is_deed" (inClass (top 108) 6) (.none) (.none) (.none) (.str "everysite.workshop" 1969) (.ref 1365) (.none)), #[]⟩  -- Workshop.is_deed
def o1372 (P : Params) : Obj := ⟨.type "code", none, .fields #[.str "do" 2065, .str "Workshop.do" 2066, .str "/claim/cut.py" 2067, .int (724) 0, .int (2) 0, .int (0) 0, .int (0) 0, .int (3) 0, .ref 1367, .bool true, .int (181) 0, .ref 1368, .none, .ref 1369, .ref 1370, .ref 1371, .int (2070) 0, .int (724) 0, .str "/claim/cut.py" 2071], #[]⟩  -- code of Workshop.do
def o1373 (P : Params) : Obj := ⟨.type "function", none, .func (mkF "do" "Workshop.do" (inClass (top 108) 7) (.none) (.none) (.none) (.str "everysite.workshop" 1969) (.ref 1372) (.none)), #[]⟩  -- Workshop.do
def o1374 (P : Params) : Obj := ⟨.type "dict", none, .dict #[⟨hs P "watch", .str "watch" 2073, .none⟩] 1, #[]⟩  -- keyword defaults
def o1380 (P : Params) : Obj := ⟨.type "code", none, .fields #[.str "do_all" 2074, .str "Workshop.do_all" 2075, .str "/claim/cut.py" 2076, .int (730) 0, .int (1) 0, .int (0) 0, .int (1) 0, .int (7) 0, .ref 1375, .bool true, .int (181) 0, .ref 1376, .none, .ref 1377, .ref 1378, .ref 1379, .int (2088) 0, .int (730) 0, .str "/claim/cut.py" 2089], #[]⟩  -- code of Workshop.do_all
def o1381 (P : Params) : Obj := ⟨.type "function", none, .func (mkF "do_all" "Workshop.do_all" (inClass (top 108) 8) (.none) (.ref 1374) (.none) (.str "everysite.workshop" 1969) (.ref 1380) (.none)), #[]⟩  -- Workshop.do_all
def o1387 (P : Params) : Obj := ⟨.type "code", none, .fields #[.str "done" 2091, .str "Workshop.done" 2092, .str "/claim/cut.py" 2093, .int (750) 0, .int (2) 0, .int (0) 0, .int (0) 0, .int (3) 0, .ref 1382, .bool true, .int (181) 0, .ref 1383, .none, .ref 1384, .ref 1385, .ref 1386, .int (2097) 0, .int (750) 0, .str "/claim/cut.py" 2098], #[]⟩  -- code of Workshop.done
def o1388 (P : Params) : Obj := ⟨.type "function", none, .func (mkF "done" "Workshop.done" (inClass (top 108) 9) (.none) (.none) (.none) (.str "everysite.workshop" 1969) (.ref 1387) (.none)), #[]⟩  -- Workshop.done
def o1394 (P : Params) : Obj := ⟨.type "code", none, .fields #[.str "change" 2100, .str "Workshop.change" 2101, .str "/claim/cut.py" 2102, .int (758) 0, .int (2) 0, .int (0) 0, .int (0) 0, .int (3) 0, .ref 1389, .bool true, .int (181) 0, .ref 1390, .none, .ref 1391, .ref 1392, .ref 1393, .int (2108) 0, .int (758) 0, .str "/claim/cut.py" 2109], #[]⟩  -- code of Workshop.change
def o1395 (P : Params) : Obj := ⟨.type "function", none, .func (mkF "change" "Workshop.change" (inClass (top 108) 10) (.none) (.none) (.none) (.str "everysite.workshop" 1969) (.ref 1394) (.none)), #[]⟩  -- Workshop.change
def o1401 (P : Params) : Obj := ⟨.type "code", none, .fields #[.str "check_use" 2111, .str "Workshop.check_use" 2112, .str "/claim/cut.py" 2113, .int (774) 0, .int (3) 0, .int (0) 0, .int (0) 0, .int (3) 0, .ref 1396, .bool true, .int (181) 0, .ref 1397, .none, .ref 1398, .ref 1399, .ref 1400, .int (2117) 0, .int (774) 0, .str "/claim/cut.py" 2118], #[]⟩  -- code of Workshop.check_use
def o1402 (P : Params) : Obj := ⟨.type "function", none, .func (mkF "check_use" "Workshop.check_use" (inClass (top 108) 11) (.none) (.none) (.none) (.str "everysite.workshop" 1969) (.ref 1401) (.none)), #[]⟩  -- Workshop.check_use
def o1408 (P : Params) : Obj := ⟨.type "code", none, .fields #[.str "move" 2120, .str "Workshop.move" 2121, .str "/claim/cut.py" 2122, .int (777) 0, .int (2) 0, .int (0) 0, .int (0) 0, .int (3) 0, .ref 1403, .bool true, .int (181) 0, .ref 1404, .none, .ref 1405, .ref 1406, .ref 1407, .int (2125) 0, .int (777) 0, .str "/claim/cut.py" 2126], #[]⟩  -- code of Workshop.move
def o1409 (P : Params) : Obj := ⟨.type "function", none, .func (mkF "move" "Workshop.move" (inClass (top 108) 12) (.none) (.none) (.none) (.str "everysite.workshop" 1969) (.ref 1408) (.none)), #[]⟩  -- Workshop.move
def o1415 (P : Params) : Obj := ⟨.type "code", none, .fields #[.str "undo" 2128, .str "Workshop.undo" 2129, .str "/claim/cut.py" 2130, .int (780) 0, .int (1) 0, .int (0) 0, .int (0) 0, .int (3) 0, .ref 1410, .bool true, .int (181) 0, .ref 1411, .none, .ref 1412, .ref 1413, .ref 1414, .int (2132) 0, .int (780) 0, .str "/claim/cut.py" 2133], #[]⟩  -- code of Workshop.undo
def o1416 (P : Params) : Obj := ⟨.type "function", none, .func (mkF "undo" "Workshop.undo" (inClass (top 108) 13) (.none) (.none) (.none) (.str "everysite.workshop" 1969) (.ref 1415) (.none)), #[]⟩  -- Workshop.undo
def o1429 (P : Params) : Obj := ⟨.type "code", none, .fields #[.str "__len__" 2142, .str "Workshop.__len__" 2143, .str "/claim/cut.py" 2144, .int (791) 0, .int (1) 0, .int (0) 0, .int (0) 0, .int (3) 0, .ref 1424, .bool true, .int (181) 0, .ref 1425, .none, .ref 1426, .ref 1427, .ref 1428, .int (2146) 0, .int (791) 0, .str "/claim/cut.py" 2147], #[]⟩  -- code of Workshop.__len__
def o1430 (P : Params) : Obj := ⟨.type "function", none, .func (mkF "__len__" "Workshop.__len__" (inClass (top 108) 15) (.none) (.none) (.none) (.str "everysite.workshop" 1969) (.ref 1429) (.none)), #[]⟩  -- Workshop.__len__
def o1436 (P : Params) : Obj := ⟨.type "code", none, .fields #[.str "__repr__" 2149, .str "Workshop.__repr__" 2150, .str "/claim/cut.py" 2151, .int (794) 0, .int (1) 0, .int (0) 0, .int (0) 0, .int (3) 0, .ref 1431, .bool true, .int (181) 0, .ref 1432, .none, .ref 1433, .ref 1434, .ref 1435, .int (2153) 0, .int (794) 0, .str "/claim/cut.py" 2154], #[]⟩  -- code of Workshop.__repr__
def o1437 (P : Params) : Obj := ⟨.type "function", none, .func (mkF "__repr__" "Workshop.__repr__" (inClass (top 108) 16) (.none) (.none) (.none) (.str "everysite.workshop" 1969) (.ref 1436) (.none)), #[]⟩  -- Workshop.__repr__
def o1439 (P : Params) : Obj := ⟨.type "dict", none, .dict #[⟨hs P "__module__", .str "__module__" 2013, .str "everysite.workshop" 1969⟩, ⟨hs P "__firstlineno__", .str "__firstlineno__" 2017, .int (687) 2016⟩, ⟨hs P "MOST", .str "MOST" 2019, .int (100) 2018⟩, ⟨hs P "LABEL", .str "LABEL" 2021, .str "Workshop" 2020⟩, ⟨hs P "__init__", .str "__init__" 2029, .ref 1335⟩, ⟨hs P "guards", .str "guards" 2037, .ref 1352⟩, ⟨hs P "check_idle", .str "check_idle" 2056, .ref 1359⟩, ⟨hs P "is_deed", .str "is_deed" 2064, .ref 1366⟩, ⟨hs P "do", .str "do" 2072, .ref 1373⟩, ⟨hs P "do_all", .str "do_all" 2090, .ref 1381⟩, ⟨hs P "done", .str "done" 2099, .ref 1388⟩, ⟨hs P "change", .str "change" 2110, .ref 1395⟩, ⟨hs P "check_use", .str "check_use" 2119, .ref 1402⟩, ⟨hs P "move", .str "move" 2127, .ref 1409⟩, ⟨hs P "undo", .str "undo" 2134, .ref 1416⟩, ⟨hs P "trial", .str "trial" 2141, .ref 1423⟩, ⟨hs P "__len__", .str "__len__" 2148, .ref 1430⟩, ⟨hs P "__repr__", .str "__repr__" 2155, .ref 1437⟩, ⟨hs P "__static_attributes__", .str "__static_attributes__" 2162, .ref 1438⟩, ⟨hs P "__dict__", .str "__dict__" 2164, .ref 1441⟩, ⟨hs P "__weakref__", .str "__weakref__" 2166, .ref 1442⟩, ⟨hs P "__doc__", .str "__doc__" 2167, .none⟩] 4, #[]⟩  -- ns of Workshop
def o1440 (P : Params) : Obj := ⟨.type "type", none, .cls ⟨"Workshop", [.type "object"], [.ref 1440, .type "object"], 1439, "Workshop", true, [], [.ref 1504], false, none, false⟩, #[none, none, (some (.str "Workshop" 2006)), (some (.str "Workshop" 2014)), (some (.builtin "object.__new__")), (some (.bool true))]⟩  -- Workshop
def o1450 (P : Params) : Obj := ⟨.type "code", none, .fields #[.str "is_site_deed" 2170, .str "is_site_deed" 2171, .str "/claim/cut.py" 2172, .int (796) 0, .int (1) 0, .int (0) 0, .int (0) 0, .int (3) 0, .ref 1445, .bool true, .int (181) 0, .ref 1446, .none, .ref 1447, .ref 1448, .ref 1449, .int (2174) 0, .int (796) 0, .str "/claim/cut.py" 2175], #[]⟩  -- code of is_site_deed
def o1451 (P : Params) : Obj := ⟨.type "function", none, .func (mkF "is_site_deed" "is_site_deed" (top 109) (.none) (.none) (.none) (.str "everysite.workshop" 1969) (.ref 1450) (.none)), #[]⟩  -- is_site_deed
def o1460 (P : Params) : Obj := ⟨.type "cell", none, .cell (some (.ref 1504)), #[]⟩  -- cell of SiteWorkshop.is_deed
def o1471 (P : Params) : Obj := ⟨.type "code", none, .fields #[.str "is_deed" 2197, .str "SiteWorkshop.is_deed" 2198, .str "/claim/cut.py" 2199, .int (805) 0, .int (2) 0, .int (0) 0, .int (0) 0, .int (3) 0, .ref 1466, .bool true, .int (181) 0, .ref 1467, .none, .ref 1468, .ref 1469, .ref 1470, .int (2203) 0, .int (805) 0, .str "/claim/cut.py" 2204], #[]⟩  -- code of SiteWorkshop.is_deed
def o1472 (P : Params) : Obj := ⟨.type "function", none, .func { mkF "is_deed" "SiteWorkshop.is_deed" (inClass (top 111) 1) (.none) (.none) (.none) (.str "everysite.workshop" 1969) (.ref 1471) (.ref 1465) with closure := [("__class__", 1460)] }, #[]⟩  -- SiteWorkshop.is_deed
def o1484 (P : Params) : Obj := ⟨.type "code", none, .fields #[.str "change" 2216, .str "SiteWorkshop.change" 2217, .str "/claim/cut.py" 2218, .int (814) 0, .int (2) 0, .int (0) 0, .int (0) 0, .int (3) 0, .ref 1481, .bool true, .int (181) 0, .ref 1482, .none, .none, .none, .ref 1483, .int (2220) 0, .int (814) 0, .str "/claim/cut.py" 2221], #[]⟩  -- code of SiteWorkshop.change
def o1485 (P : Params) : Obj := ⟨.type "function", none, .func { mkF "change" "SiteWorkshop.change" (inClass (top 111) 3) (.none) (.none) (.none) (.str "everysite.workshop" 1969) (.ref 1484) (.ref 1480) with closure := [("__class__", 1460)] }, #[]⟩  -- SiteWorkshop.change
def o1494 (P : Params) : Obj := ⟨.type "code", none, .fields #[.str "check_use" 2229, .str "SiteWorkshop.check_use" 2230, .str "/claim/cut.py" 2231, .int (836) 0, .int (3) 0, .int (0) 0, .int (0) 0, .int (3) 0, .ref 1491, .bool true, .int (181) 0, .ref 1492, .none, .none, .none, .ref 1493, .int (2232) 0, .int (836) 0, .str "/claim/cut.py" 2233], #[]⟩  -- code of SiteWorkshop.check_use
def o1495 (P : Params) : Obj := ⟨.type "function", none, .func (mkF "check_use" "SiteWorkshop.check_use" (inClass (top 111) 5) (.none) (.none) (.none) (.str "everysite.workshop" 1969) (.ref 1494) (.none)), #[]⟩  -- SiteWorkshop.check_use
def o1500 (P : Params) : Obj := ⟨.type "code", none, .fields #[.str "move" 2235, .str "SiteWorkshop.move" 2236, .str "/claim/cut.py" 2237, .int (849) 0, .int (2) 0, .int (0) 0, .int (0) 0, .int (3) 0, .ref 1497, .bool true, .int (181) 0, .ref 1498, .none, .none, .none, .ref 1499, .int (2239) 0, .int (849) 0, .str "/claim/cut.py" 2240], #[]⟩  -- code of SiteWorkshop.move
def o1501 (P : Params) : Obj := ⟨.type "function", none, .func { mkF "move" "SiteWorkshop.move" (inClass (top 111) 6) (.none) (.none) (.none) (.str "everysite.workshop" 1969) (.ref 1500) (.ref 1496) with closure := [("__class__", 1460)] }, #[]⟩  -- SiteWorkshop.move
def o1503 (P : Params) : Obj := ⟨.type "dict", none, .dict #[⟨hs P "__module__", .str "__module__" 2190, .str "everysite.workshop" 1969⟩, ⟨hs P "__firstlineno__", .str "__firstlineno__" 2194, .int (802) 2193⟩, ⟨hs P "LABEL", .str "LABEL" 2196, .str "SiteWorkshop" 2195⟩, ⟨hs P "is_deed", .str "is_deed" 2205, .ref 1472⟩, ⟨hs P "site_of", .str "site_of" 2215, .ref 1479⟩, ⟨hs P "change", .str "change" 2222, .ref 1485⟩, ⟨hs P "keep", .str "keep" 2228, .ref 1490⟩, ⟨hs P "check_use", .str "check_use" 2234, .ref 1495⟩, ⟨hs P "move", .str "move" 2241, .ref 1501⟩, ⟨hs P "__static_attributes__", .str "__static_attributes__" 2243, .ref 1502⟩, ⟨hs P "__doc__", .str "__doc__" 2245, .none⟩] 3, #[]⟩  -- ns of SiteWorkshop
def o1504 (P : Params) : Obj := ⟨.type "type", none, .cls ⟨"SiteWorkshop", [.ref 1440], [.ref 1504, .ref 1440, .type "object"], 1503, "SiteWorkshop", true, [], [], false, none, false⟩, #[(some (.ref 1457)), none, (some (.str "SiteWorkshop" 2183)), (some (.str "SiteWorkshop" 2191)), (some (.builtin "object.__new__")), (some (.bool true))]⟩  -- SiteWorkshop
def o1512 (P : Params) : Obj := ⟨.type "code", none, .fields #[.str "_law_cell" 2250, .str "_law_cell" 2251, .str "/claim/cut.py" 2252, .int (854) 0, .int (2) 0, .int (0) 0, .int (0) 0, .int (3) 0, .ref 1507, .bool true, .int (181) 0, .ref 1508, .none, .ref 1509, .ref 1510, .ref 1511, .int (2257) 0, .int (854) 0, .str "/claim/cut.py" 2258], #[]⟩  -- code of _law_cell
def o1513 (P : Params) : Obj := ⟨.type "function", none, .func (mkF "_law_cell" "_law_cell" (top 113) (.none) (.none) (.none) (.str "law_everysite_k76_deeds_refused" 2248) (.ref 1512) (.none)), #[]⟩  -- _law_cell
def o1519 (P : Params) : Obj := ⟨.type "code", none, .fields #[.str "_law_pool" 2260, .str "_law_pool" 2261, .str "/claim/cut.py" 2262, .int (861) 0, .int (1) 0, .int (0) 0, .int (0) 0, .int (3) 0, .ref 1514, .bool true, .int (181) 0, .ref 1515, .none, .ref 1516, .ref 1517, .ref 1518, .int (2264) 0, .int (861) 0, .str "/claim/cut.py" 2265], #[]⟩  -- code of _law_pool
def o1520 (P : Params) : Obj := ⟨.type "function", none, .func (mkF "_law_pool" "_law_pool" (top 114) (.none) (.none) (.none) (.str "law_everysite_k76_deeds_refused" 2248) (.ref 1519) (.none)), #[]⟩  -- _law_pool
def o1526 (P : Params) : Obj := ⟨.type "code", none, .fields #[.str "_law_draw" 2267, .str "_law_draw" 2268, .str "/claim/cut.py" 2269, .int (863) 0, .int (2) 0, .int (0) 0, .int (0) 0, .int (3) 0, .ref 1521, .bool true, .int (181) 0, .ref 1522, .none, .ref 1523, .ref 1524, .ref 1525, .int (2274) 0, .int (863) 0, .str "/claim/cut.py" 2275], #[]⟩  -- code of _law_draw
def o1527 (P : Params) : Obj := ⟨.type "function", none, .func (mkF "_law_draw" "_law_draw" (top 115) (.none) (.none) (.none) (.str "law_everysite_k76_deeds_refused" 2248) (.ref 1526) (.none)), #[]⟩  -- _law_draw
def o1531 (P : Params) : Obj := ⟨.type "code", none, .fields #[.str "_law_names" 2277, .str "_law_names" 2278, .str "/claim/cut.py" 2279, .int (872) 0, .int (2) 0, .int (0) 0, .int (0) 0, .int (3) 0, .ref 1528, .bool true, .int (181) 0, .ref 1529, .none, .none, .none, .ref 1530, .int (2280) 0, .int (872) 0, .str "/claim/cut.py" 2281], #[]⟩  -- code of _law_names
def o1532 (P : Params) : Obj := ⟨.type "function", none, .func (mkF "_law_names" "_law_names" (top 116) (.none) (.none) (.none) (.str "law_everysite_k76_deeds_refused" 2248) (.ref 1531) (.none)), #[]⟩  -- _law_names
def o1538 (P : Params) : Obj := ⟨.type "code", none, .fields #[.str "_law_unlike" 2283, .str "_law_unlike" 2284, .str "/claim/cut.py" 2285, .int (881) 0, .int (1) 0, .int (0) 0, .int (0) 0, .int (3) 0, .ref 1533, .bool true, .int (181) 0, .ref 1534, .none, .ref 1535, .ref 1536, .ref 1537, .int (2289) 0, .int (881) 0, .str "/claim/cut.py" 2290], #[]⟩  -- code of _law_unlike
def o1539 (P : Params) : Obj := ⟨.type "function", none, .func (mkF "_law_unlike" "_law_unlike" (top 117) (.none) (.none) (.none) (.str "law_everysite_k76_deeds_refused" 2248) (.ref 1538) (.none)), #[]⟩  -- _law_unlike
def o1545 (P : Params) : Obj := ⟨.type "code", none, .fields #[.str "_law_spots" 2292, .str "_law_spots" 2293, .str "/claim/cut.py" 2294, .int (887) 0, .int (3) 0, .int (0) 0, .int (0) 0, .int (3) 0, .ref 1540, .bool true, .int (181) 0, .ref 1541, .none, .ref 1542, .ref 1543, .ref 1544, .int (2299) 0, .int (887) 0, .str "/claim/cut.py" 2300], #[]⟩  -- code of _law_spots
def o1546 (P : Params) : Obj := ⟨.type "function", none, .func (mkF "_law_spots" "_law_spots" (top 118) (.none) (.none) (.none) (.str "law_everysite_k76_deeds_refused" 2248) (.ref 1545) (.none)), #[]⟩  -- _law_spots
def o1550 (P : Params) : Obj := ⟨.type "code", none, .fields #[.str "_law_template" 2302, .str "_law_template" 2303, .str "/claim/cut.py" 2304, .int (892) 0, .int (6) 0, .int (0) 0, .int (0) 0, .int (3) 0, .ref 1547, .bool true, .int (181) 0, .ref 1548, .none, .none, .none, .ref 1549, .int (2305) 0, .int (892) 0, .str "/claim/cut.py" 2306], #[]⟩  -- code of _law_template
def o1551 (P : Params) : Obj := ⟨.type "function", none, .func (mkF "_law_template" "_law_template" (top 119) (.none) (.none) (.none) (.str "law_everysite_k76_deeds_refused" 2248) (.ref 1550) (.none)), #[]⟩  -- _law_template
def o1555 (P : Params) : Obj := ⟨.type "code", none, .fields #[.str "_law_book" 2308, .str "_law_book" 2309, .str "/claim/cut.py" 2310, .int (908) 0, .int (1) 0, .int (0) 0, .int (0) 0, .int (3) 0, .ref 1552, .bool true, .int (181) 0, .ref 1553, .none, .none, .none, .ref 1554, .int (2311) 0, .int (908) 0, .str "/claim/cut.py" 2312], #[]⟩  -- code of _law_book
def o1556 (P : Params) : Obj := ⟨.type "function", none, .func (mkF "_law_book" "_law_book" (top 120) (.none) (.none) (.none) (.str "law_everysite_k76_deeds_refused" 2248) (.ref 1555) (.none)), #[]⟩  -- _law_book
def o1562 (P : Params) : Obj := ⟨.type "code", none, .fields #[.str "_law_caught" 2314, .str "_law_caught" 2315, .str "/claim/cut.py" 2316, .int (924) 0, .int (1) 0, .int (0) 0, .int (0) 0, .int (3) 0, .ref 1557, .bool true, .int (181) 0, .ref 1558, .none, .ref 1559, .ref 1560, .ref 1561, .int (2324) 0, .int (924) 0, .str "/claim/cut.py" 2325], #[]⟩  -- code of _law_caught
def o1563 (P : Params) : Obj := ⟨.type "function", none, .func (mkF "_law_caught" "_law_caught" (top 121) (.none) (.none) (.none) (.str "law_everysite_k76_deeds_refused" 2248) (.ref 1562) (.none)), #[]⟩  -- _law_caught
def o1569 (P : Params) : Obj := ⟨.type "code", none, .fields #[.str "_law_odd" 2327, .str "_law_odd" 2328, .str "/claim/cut.py" 2329, .int (952) 0, .int (2) 0, .int (0) 0, .int (0) 0, .int (3) 0, .ref 1564, .bool true, .int (181) 0, .ref 1565, .none, .ref 1566, .ref 1567, .ref 1568, .int (2333) 0, .int (952) 0, .str "/claim/cut.py" 2334], #[]⟩  -- code of _law_odd
def o1570 (P : Params) : Obj := ⟨.type "function", none, .func (mkF "_law_odd" "_law_odd" (top 122) (.none) (.none) (.none) (.str "law_everysite_k76_deeds_refused" 2248) (.ref 1569) (.none)), #[]⟩  -- _law_odd
def o1576 (P : Params) : Obj := ⟨.type "code", none, .fields #[.str "_law_shown" 2336, .str "_law_shown" 2337, .str "/claim/cut.py" 2338, .int (959) 0, .int (1) 0, .int (0) 0, .int (0) 0, .int (3) 0, .ref 1571, .bool true, .int (181) 0, .ref 1572, .none, .ref 1573, .ref 1574, .ref 1575, .int (2340) 0, .int (959) 0, .str "/claim/cut.py" 2341], #[]⟩  -- code of _law_shown
def o1577 (P : Params) : Obj := ⟨.type "function", none, .func (mkF "_law_shown" "_law_shown" (top 123) (.none) (.none) (.none) (.str "law_everysite_k76_deeds_refused" 2248) (.ref 1576) (.none)), #[]⟩  -- _law_shown
def o1581 (P : Params) : Obj := ⟨.type "code", none, .fields #[.str "_law_odd_right" 2343, .str "_law_odd_right" 2344, .str "/claim/cut.py" 2345, .int (961) 0, .int (4) 0, .int (0) 0, .int (0) 0, .int (3) 0, .ref 1578, .bool true, .int (181) 0, .ref 1579, .none, .none, .none, .ref 1580, .int (2346) 0, .int (961) 0, .str "/claim/cut.py" 2347], #[]⟩  -- code of _law_odd_right
def o1582 (P : Params) : Obj := ⟨.type "function", none, .func (mkF "_law_odd_right" "_law_odd_right" (top 124) (.none) (.none) (.none) (.str "law_everysite_k76_deeds_refused" 2248) (.ref 1581) (.none)), #[]⟩  -- _law_odd_right
def o1588 (P : Params) : Obj := ⟨.type "code", none, .fields #[.str "_law_full_right" 2349, .str "_law_full_right" 2350, .str "/claim/cut.py" 2351, .int (971) 0, .int (4) 0, .int (0) 0, .int (0) 0, .int (3) 0, .ref 1583, .bool true, .int (181) 0, .ref 1584, .none, .ref 1585, .ref 1586, .ref 1587, .int (2363) 0, .int (971) 0, .str "/claim/cut.py" 2364], #[]⟩  -- code of _law_full_right
def o1589 (P : Params) : Obj := ⟨.type "function", none, .func (mkF "_law_full_right" "_law_full_right" (top 125) (.none) (.none) (.none) (.str "law_everysite_k76_deeds_refused" 2248) (.ref 1588) (.none)), #[]⟩  -- _law_full_right
def o1595 (P : Params) : Obj := ⟨.type "code", none, .fields #[.str "_law_right" 2366, .str "_law_right" 2367, .str "/claim/cut.py" 2368, .int (993) 0, .int (1) 0, .int (0) 0, .int (0) 0, .int (3) 0, .ref 1590, .bool true, .int (181) 0, .ref 1591, .none, .ref 1592, .ref 1593, .ref 1594, .int (2378) 0, .int (993) 0, .str "/claim/cut.py" 2379], #[]⟩  -- code of _law_right
def o1596 (P : Params) : Obj := ⟨.type "function", none, .func (mkF "_law_right" "_law_right" (top 126) (.none) (.none) (.none) (.str "law_everysite_k76_deeds_refused" 2248) (.ref 1595) (.none)), #[]⟩  -- _law_right
def o1600 (P : Params) : Obj := ⟨.type "code", none, .fields #[.str "law" 2381, .str "law" 2382, .str "/claim/cut.py" 2383, .int (1013) 0, .int (1) 0, .int (0) 0, .int (0) 0, .int (3) 0, .ref 1597, .bool true, .int (181) 0, .ref 1598, .none, .none, .none, .ref 1599, .int (2384) 0, .int (1013) 0, .str "/claim/cut.py" 2385], #[]⟩  -- code of law
def o1601 (P : Params) : Obj := ⟨.type "function", none, .func (mkF "law" "law" (top 127) (.none) (.none) (.none) (.str "law_everysite_k76_deeds_refused" 2248) (.ref 1600) (.none)), #[]⟩  -- law
def as0 : List Addr := [2, 3, 27, 28, 34, 35, 46, 47, 51, 52, 80, 81, 93, 94, 106, 107, 123, 124, 126, 127, 218, 219, 221, 222, 294]
def os0 (P : Params) : List Obj := [o2 P, o3 P, o27 P, o28 P, o34 P, o35 P, o46 P, o47 P, o51 P, o52 P, o80 P, o81 P, o93 P, o94 P, o106 P, o107 P, o123 P, o124 P, o126 P, o127 P, o218 P, o219 P, o221 P, o222 P, o294 P]
def as1 : List Addr := [295, 297, 298, 446, 447, 449, 450, 660, 661, 663, 664, 670, 671, 677, 678, 684, 685, 691, 692, 698, 699, 705, 706, 710, 711]
def os1 (P : Params) : List Obj := [o295 P, o297 P, o298 P, o446 P, o447 P, o449 P, o450 P, o660 P, o661 P, o663 P, o664 P, o670 P, o671 P, o677 P, o678 P, o684 P, o685 P, o691 P, o692 P, o698 P, o699 P, o705 P, o706 P, o710 P, o711 P]
def as2 : List Addr := [715, 716, 722, 723, 729, 730, 734, 735, 746, 747, 777, 778, 784, 785, 789, 790, 796, 797, 803, 804, 810, 811, 817, 818, 834]
def os2 (P : Params) : List Obj := [o715 P, o716 P, o722 P, o723 P, o729 P, o730 P, o734 P, o735 P, o746 P, o747 P, o777 P, o778 P, o784 P, o785 P, o789 P, o790 P, o796 P, o797 P, o803 P, o804 P, o810 P, o811 P, o817 P, o818 P, o834 P]
def as3 : List Addr := [835, 845, 846, 1313, 1314, 1320, 1321, 1334, 1335, 1341, 1342, 1352, 1358, 1359, 1365, 1366, 1372, 1373, 1374, 1380, 1381, 1387, 1388, 1394, 1395]
def os3 (P : Params) : List Obj := [o835 P, o845 P, o846 P, o1313 P, o1314 P, o1320 P, o1321 P, o1334 P, o1335 P, o1341 P, o1342 P, o1352 P, o1358 P, o1359 P, o1365 P, o1366 P, o1372 P, o1373 P, o1374 P, o1380 P, o1381 P, o1387 P, o1388 P, o1394 P, o1395 P]
def as4 : List Addr := [1401, 1402, 1408, 1409, 1415, 1416, 1429, 1430, 1436, 1437, 1439, 1440, 1450, 1451, 1460, 1471, 1472, 1484, 1485, 1494, 1495, 1500, 1501, 1503, 1504]
def os4 (P : Params) : List Obj := [o1401 P, o1402 P, o1408 P, o1409 P, o1415 P, o1416 P, o1429 P, o1430 P, o1436 P, o1437 P, o1439 P, o1440 P, o1450 P, o1451 P, o1460 P, o1471 P, o1472 P, o1484 P, o1485 P, o1494 P, o1495 P, o1500 P, o1501 P, o1503 P, o1504 P]
def as5 : List Addr := [1512, 1513, 1519, 1520, 1526, 1527, 1531, 1532, 1538, 1539, 1545, 1546, 1550, 1551, 1555, 1556, 1562, 1563, 1569, 1570, 1576, 1577, 1581, 1582, 1588]
def os5 (P : Params) : List Obj := [o1512 P, o1513 P, o1519 P, o1520 P, o1526 P, o1527 P, o1531 P, o1532 P, o1538 P, o1539 P, o1545 P, o1546 P, o1550 P, o1551 P, o1555 P, o1556 P, o1562 P, o1563 P, o1569 P, o1570 P, o1576 P, o1577 P, o1581 P, o1582 P, o1588 P]
def as6 : List Addr := [1589, 1595, 1596, 1600, 1601]
def os6 (P : Params) : List Obj := [o1589 P, o1595 P, o1596 P, o1600 P, o1601 P]
def asK : List Addr := as0 ++ as1 ++ as2 ++ as3 ++ as4 ++ as5 ++ as6
def osK (P : Params) : List Obj := os0 P ++ os1 P ++ os2 P ++ os3 P ++ os4 P ++ os5 P ++ os6 P
abbrev K0 (P : Params) : PySem.W.Frag := asK.zip (osK P)
def asT : List Addr := [1579, 1584, 1591]
-- functions: is_integer=28 is_number=35 are_different=47 book_text=52 is_name=671 is_row=678 is_kind=685 is_link=692 is_mark=699 gates_of=706 is_slot=711 is_template=716 check_kinds=723 check_templates=730 check_filled=735 check_book=846 check_guards=1321 is_site_deed=1451 _law_cell=1513 _law_pool=1520 _law_draw=1527 _law_names=1532 _law_unlike=1539 _law_spots=1546 _law_template=1551 _law_book=1556 _law_caught=1563 _law_odd=1570 _law_shown=1577 _law_odd_right=1582 _law_full_right=1589 _law_right=1596 law=1601 NotABook.__init__=124 UnknownTemplate.__init__=219 InvalidNumber.__init__=295 InvalidDeed.__init__=447 TooManyDeeds.__init__=661 Book.__init__=747 Book.place=778 Book.template=785 Book.with_template=790 Book.without=797 Book.__len__=804 Book.__contains__=811 Book.__eq__=818 Workshop.__init__=1335 Workshop.guards=1342 Workshop.check_idle=1359 Workshop.is_deed=1366 Workshop.do=1373 Workshop.do_all=1381 Workshop.done=1388 Workshop.change=1395 Workshop.check_use=1402 Workshop.move=1409 Workshop.undo=1416 Workshop.__len__=1430 Workshop.__repr__=1437 SiteWorkshop.is_deed=1472 SiteWorkshop.change=1485 SiteWorkshop.check_use=1495 SiteWorkshop.move=1501
def names0 : List PySem.Str := ["_wall", "__name__", "DIGITS", "is_integer", "is_number", "number_of", "are_different", "book_text", "words_of", "sides_of", "is_taken", "SiteError", "StateError", "LimitError", "NotABook", "NotATemplate", "NotASection", "NotAProperty", "UnknownKind", "UnknownTemplate", "UnknownFace", "InvalidText", "InvalidPath", "InvalidNumber", "InvalidName", "InvalidSection", "InvalidKinds", "InvalidTemplates", "InvalidRows", "InvalidParts"]
def names1 : List PySem.Str := ["InvalidGuards", "InvalidDeed", "EmptyKind", "Broken", "UnknownSite", "InUse", "NothingToUndo", "Busy", "TooManyTemplates", "TooManyRows", "TooManyLeaves", "TooManyLevels", "TooManyFaces", "TooManyDeeds", "MOST_KINDS", "MOST_GATES", "MOST_TEMPLATES", "MOST_PAGES", "MOST_LINKS", "MOST_MARKS", "MOST_SLOTS", "MOST_ROWS", "MOST_LEAVES", "MOST_DEPTH", "MOST_FACES", "MOST_DEEDS", "LETTERS", "SIGNS", "LONGEST", "is_name"]
def names2 : List PySem.Str := ["is_row", "is_kind", "is_link", "is_mark", "gates_of", "is_slot", "is_template", "check_kinds", "check_templates", "check_filled", "Book", "check_book", "joined", "are_rows", "kind_of", "rows_text", "rows_of", "Section", "is_section_of", "check_section", "check_property", "check_joint", "Property", "Both", "Either", "Opposite", "Anything", "is_alike", "choices_of", "makings_of"]
def names3 : List PySem.Str := ["parts_of", "least_making", "firsts_of", "Table", "first_site", "first_without", "LENGTHS", "SITE_LENGTHS", "check_guards", "Workshop", "is_site_deed", "has_template", "SiteWorkshop", "_law_cell", "_law_pool", "_law_draw", "_law_names", "_law_unlike", "_law_spots", "_law_template", "_law_book", "_law_caught", "_law_odd", "_law_shown", "_law_odd_right", "_law_full_right", "_law_right"]
def names : List PySem.Str := names0 ++ names1 ++ names2 ++ names3
def lastTop : Nat := 127
abbrev qv : Program := view R.prog [lastTop]
/-! ## the Hook: these objects stand, these tables are empty -/
def eT : Obj := { cls := .none, data := .fields #[] }
abbrev AlK : Type := List (Option Obj) × List (Option Obj)
def obsK (g : Addr → Option Obj) : AlK := (asK.map g, asT.map g)
def valK (P : Params) : AlK := ((osK P).map some, asT.map fun _ => some eT)
theorem in_of {h : Heap} : ∀ {as : List Addr} {os : List Obj}, as.map h.get? = os.map some → PySem.W.Frag.In (as.zip os) h
  | [], _, _ => fun a o e => nomatch (show (none : Option Obj) = some o from e)
  | b :: as, [], e => by cases e
  | b :: as, u :: os, e => fun a o q => by
    have e1 : h.get? b :: as.map h.get? = some u :: os.map some := e
    injection e1 with e2 e3
    have q1 : (match a == b with | true => some u | false => List.lookup a (as.zip os)) = some o := q
    cases z : a == b with
    | true =>
      rw [z] at q1
      cases q1
      rw [beq_iff_eq.mp z]
      exact e2
    | false =>
      rw [z] at q1
      exact in_of e3 a o q1
structure SaysK (P : Params) (h : Heap) : Prop where
  k : (K0 P).In h
  t : ∀ p ∈ asT, h.get? p = some eT
theorem says_of {P : Params} {h : Heap} (e : obsK h.get? = valK P) : SaysK P h := by
  have e1 : asK.map h.get? = (osK P).map some := congrArg (fun z : AlK => z.1) e
  have e2 : asT.map h.get? = asT.map fun _ => some eT := congrArg (fun z : AlK => z.2) e
  exact ⟨in_of e1, List.map_inj_left.mp e2⟩
def hk : PySem.W.Hook where
  α := AlK
  obs := fun s => obsK s.heap.get?
  val := fun w => valK w.params
  says := fun w h => SaysK w.params h
  of := fun _ _ e => says_of e
  keeps := fun _ _ _ x k => ⟨PySem.W.Frag.In.keeps x.k k, fun p hp => k _ _ (x.t p hp)⟩
def ob (s : PySem.W.SharedT) : AlK := obsK (HandSHeadRun.getT s)
theorem ob_eq (s : PySem.W.SharedT) : ob s = hk.obs s.abs := by
  have e : HandSHeadRun.getT s = s.abs.heap.get? := funext fun a => HandSHeadRun.getT_eq s a
  show obsK (HandSHeadRun.getT s) = obsK s.abs.heap.get?
  rw [e]
/-! ## the run of the top, in three looks, in both worlds -/
noncomputable def endR (w : World) (os : OsState) : Option PySem.W.SharedT := HandSHeadRun.endF (HandSHeadRun.stepQ (HandSHeadRun.denQ HandSHeadRun.tabQ) R.prog w) 16000 R.prog w os
def Run1 (w : World) : Prop := ∀ os, (endR w os).map (fun s => HandSHeadRun.looksF R.prog (boot_heap w.params) s.abs) = some true
def Run2 (w : World) : Prop := ∀ os, (endR w os).map (fun s => HandSHeadRun.seenQ qv names (importedModules R.prog.main.body) (fun s => xlAt qv [] s && recOk R.toRowW.records s) s.abs) = some (openGood qv names)
def Run3 (w : World) : Prop := ∀ os, (endR w os).map ob = some (valK w.params)
end K76
set_option maxHeartbeats 0
namespace K76
open PySem PySem.W PySem.Calls PyProof.Rows L2
theorem run1f (w : World) : Run1 (w.withFollow "special-get-raises" false) := by
  intro os
  kernel_rfl
theorem run1t (w : World) : Run1 (w.withFollow "special-get-raises" true) := by
  intro os
  kernel_rfl
theorem run2f (w : World) : Run2 (w.withFollow "special-get-raises" false) := by
  intro os
  kernel_rfl
theorem run2t (w : World) : Run2 (w.withFollow "special-get-raises" true) := by
  intro os
  kernel_rfl
theorem run3f (w : World) : Run3 (w.withFollow "special-get-raises" false) := by
  intro os
  kernel_rfl
theorem run3t (w : World) : Run3 (w.withFollow "special-get-raises" true) := by
  intro os
  kernel_rfl
theorem run1 (w : World) : Run1 w := byRow2 "special-get-raises" run1f run1t w
theorem run2 (w : World) : Run2 w := byRow2 "special-get-raises" run2f run2t w
theorem run3 (w : World) : Run3 w := byRow2 "special-get-raises" run3f run3t w
theorem run (w : World) : HandSHeadRun.RunEq R qv hk ob 16000 names w := by
  intro os
  have e1 := run1 w os
  have e2 := run2 w os
  have e3 := run3 w os
  show (endR w os).map _ = _
  cases h : endR w os with
  | none =>
    rw [h] at e1
    cases e1
  | some s =>
    rw [h] at e1 e2 e3
    have d1 := Option.some.inj e1
    have d2 := Option.some.inj e2
    have d3 := Option.some.inj e3
    exact congrArg some (Prod.ext d1 (Prod.ext d2 d3))
end K76
set_option maxHeartbeats 4000000
namespace K76
open PySem PySem.W PySem.Calls PyProof.Rows L2
structure Wd (P : Params) (mg : Str → Option Value) : Prop where
  ex : ∃ h : Heap, (K0 P).In h ∧ h.Ns mainGlobals mg
section
variable {P : Params} {mg : Str → Option Value}
theorem Wd.g (W : Wd P mg) {x : Str} {v : Value} (e : PySem.W.nsIn (K0 P) mainGlobals x = some (some v)) : mg x = some v := by
  obtain ⟨h, X, G⟩ := W.ex
  exact PySem.W.mg_of X G e
theorem Wd.n (W : Wd P mg) {x : Str} (e : PySem.W.nsIn (K0 P) mainGlobals x = some none) : mg x = none := by
  obtain ⟨h, X, G⟩ := W.ex
  exact PySem.W.mg_none_of X G e
theorem g_is_integer (W : Wd P mg) : mg "is_integer" = some (.ref 28) := W.g (by kernel_rfl)
theorem g_is_number (W : Wd P mg) : mg "is_number" = some (.ref 35) := W.g (by kernel_rfl)
theorem g_are_different (W : Wd P mg) : mg "are_different" = some (.ref 47) := W.g (by kernel_rfl)
theorem g_book_text (W : Wd P mg) : mg "book_text" = some (.ref 52) := W.g (by kernel_rfl)
theorem g_is_name (W : Wd P mg) : mg "is_name" = some (.ref 671) := W.g (by kernel_rfl)
theorem g_is_row (W : Wd P mg) : mg "is_row" = some (.ref 678) := W.g (by kernel_rfl)
theorem g_is_kind (W : Wd P mg) : mg "is_kind" = some (.ref 685) := W.g (by kernel_rfl)
theorem g_is_link (W : Wd P mg) : mg "is_link" = some (.ref 692) := W.g (by kernel_rfl)
theorem g_is_mark (W : Wd P mg) : mg "is_mark" = some (.ref 699) := W.g (by kernel_rfl)
theorem g_gates_of (W : Wd P mg) : mg "gates_of" = some (.ref 706) := W.g (by kernel_rfl)
theorem g_is_slot (W : Wd P mg) : mg "is_slot" = some (.ref 711) := W.g (by kernel_rfl)
theorem g_is_template (W : Wd P mg) : mg "is_template" = some (.ref 716) := W.g (by kernel_rfl)
theorem g_check_kinds (W : Wd P mg) : mg "check_kinds" = some (.ref 723) := W.g (by kernel_rfl)
theorem g_check_templates (W : Wd P mg) : mg "check_templates" = some (.ref 730) := W.g (by kernel_rfl)
theorem g_check_filled (W : Wd P mg) : mg "check_filled" = some (.ref 735) := W.g (by kernel_rfl)
theorem g_check_book (W : Wd P mg) : mg "check_book" = some (.ref 846) := W.g (by kernel_rfl)
theorem g_check_guards (W : Wd P mg) : mg "check_guards" = some (.ref 1321) := W.g (by kernel_rfl)
theorem g_is_site_deed (W : Wd P mg) : mg "is_site_deed" = some (.ref 1451) := W.g (by kernel_rfl)
theorem g__law_cell (W : Wd P mg) : mg "_law_cell" = some (.ref 1513) := W.g (by kernel_rfl)
theorem g__law_pool (W : Wd P mg) : mg "_law_pool" = some (.ref 1520) := W.g (by kernel_rfl)
theorem g__law_draw (W : Wd P mg) : mg "_law_draw" = some (.ref 1527) := W.g (by kernel_rfl)
theorem g__law_names (W : Wd P mg) : mg "_law_names" = some (.ref 1532) := W.g (by kernel_rfl)
theorem g__law_unlike (W : Wd P mg) : mg "_law_unlike" = some (.ref 1539) := W.g (by kernel_rfl)
theorem g__law_spots (W : Wd P mg) : mg "_law_spots" = some (.ref 1546) := W.g (by kernel_rfl)
theorem g__law_template (W : Wd P mg) : mg "_law_template" = some (.ref 1551) := W.g (by kernel_rfl)
theorem g__law_book (W : Wd P mg) : mg "_law_book" = some (.ref 1556) := W.g (by kernel_rfl)
theorem g__law_caught (W : Wd P mg) : mg "_law_caught" = some (.ref 1563) := W.g (by kernel_rfl)
theorem g__law_odd (W : Wd P mg) : mg "_law_odd" = some (.ref 1570) := W.g (by kernel_rfl)
theorem g__law_shown (W : Wd P mg) : mg "_law_shown" = some (.ref 1577) := W.g (by kernel_rfl)
theorem g__law_odd_right (W : Wd P mg) : mg "_law_odd_right" = some (.ref 1582) := W.g (by kernel_rfl)
theorem g__law_full_right (W : Wd P mg) : mg "_law_full_right" = some (.ref 1589) := W.g (by kernel_rfl)
theorem g__law_right (W : Wd P mg) : mg "_law_right" = some (.ref 1596) := W.g (by kernel_rfl)
theorem g_law (W : Wd P mg) : mg "law" = some (.ref 1601) := W.g (by kernel_rfl)
theorem g_SiteError (W : Wd P mg) : mg "SiteError" = some (.ref 81) := W.g (by kernel_rfl)
theorem g_StateError (W : Wd P mg) : mg "StateError" = some (.ref 94) := W.g (by kernel_rfl)
theorem g_LimitError (W : Wd P mg) : mg "LimitError" = some (.ref 107) := W.g (by kernel_rfl)
theorem g_NotABook (W : Wd P mg) : mg "NotABook" = some (.ref 127) := W.g (by kernel_rfl)
theorem g_UnknownTemplate (W : Wd P mg) : mg "UnknownTemplate" = some (.ref 222) := W.g (by kernel_rfl)
theorem g_InvalidNumber (W : Wd P mg) : mg "InvalidNumber" = some (.ref 298) := W.g (by kernel_rfl)
theorem g_InvalidDeed (W : Wd P mg) : mg "InvalidDeed" = some (.ref 450) := W.g (by kernel_rfl)
theorem g_TooManyDeeds (W : Wd P mg) : mg "TooManyDeeds" = some (.ref 664) := W.g (by kernel_rfl)
theorem g_Book (W : Wd P mg) : mg "Book" = some (.ref 835) := W.g (by kernel_rfl)
theorem g_Workshop (W : Wd P mg) : mg "Workshop" = some (.ref 1440) := W.g (by kernel_rfl)
theorem g_SiteWorkshop (W : Wd P mg) : mg "SiteWorkshop" = some (.ref 1504) := W.g (by kernel_rfl)
theorem g_LENGTHS (W : Wd P mg) : mg "LENGTHS" = some (.ref 1313) := W.g (by kernel_rfl)
theorem g_SITE_LENGTHS (W : Wd P mg) : mg "SITE_LENGTHS" = some (.ref 1314) := W.g (by kernel_rfl)
theorem g_DIGITS (W : Wd P mg) : mg "DIGITS" = some (.str "0123456789" 196) := W.g (by kernel_rfl)
theorem g_MOST_KINDS (W : Wd P mg) : mg "MOST_KINDS" = some (.int (4) 1057) := W.g (by kernel_rfl)
theorem g_MOST_GATES (W : Wd P mg) : mg "MOST_GATES" = some (.int (3) 1059) := W.g (by kernel_rfl)
theorem g_MOST_TEMPLATES (W : Wd P mg) : mg "MOST_TEMPLATES" = some (.int (8) 1061) := W.g (by kernel_rfl)
theorem g_MOST_PAGES (W : Wd P mg) : mg "MOST_PAGES" = some (.int (5) 1063) := W.g (by kernel_rfl)
theorem g_MOST_LINKS (W : Wd P mg) : mg "MOST_LINKS" = some (.int (12) 1065) := W.g (by kernel_rfl)
theorem g_MOST_MARKS (W : Wd P mg) : mg "MOST_MARKS" = some (.int (8) 1067) := W.g (by kernel_rfl)
theorem g_MOST_SLOTS (W : Wd P mg) : mg "MOST_SLOTS" = some (.int (2) 1069) := W.g (by kernel_rfl)
theorem g_MOST_ROWS (W : Wd P mg) : mg "MOST_ROWS" = some (.int (200) 1071) := W.g (by kernel_rfl)
theorem g_MOST_LEAVES (W : Wd P mg) : mg "MOST_LEAVES" = some (.int (6) 1073) := W.g (by kernel_rfl)
theorem g_MOST_DEPTH (W : Wd P mg) : mg "MOST_DEPTH" = some (.int (8) 1075) := W.g (by kernel_rfl)
theorem g_MOST_FACES (W : Wd P mg) : mg "MOST_FACES" = some (.int (30) 1077) := W.g (by kernel_rfl)
theorem g_MOST_DEEDS (W : Wd P mg) : mg "MOST_DEEDS" = some (.int (100) 1079) := W.g (by kernel_rfl)
theorem g_LETTERS (W : Wd P mg) : mg "LETTERS" = some (.str "abcdefghijklmnopqrstuvwxyz" 1083) := W.g (by kernel_rfl)
theorem g_SIGNS (W : Wd P mg) : mg "SIGNS" = some (.str "abcdefghijklmnopqrstuvwxyz0123456789" 1085) := W.g (by kernel_rfl)
theorem g_LONGEST (W : Wd P mg) : mg "LONGEST" = some (.int (8) 1087) := W.g (by kernel_rfl)
theorem n_ArithmeticError (W : Wd P mg) : mg "ArithmeticError" = none := W.n (by kernel_rfl)
theorem n_LookupError (W : Wd P mg) : mg "LookupError" = none := W.n (by kernel_rfl)
theorem n_ValueError (W : Wd P mg) : mg "ValueError" = none := W.n (by kernel_rfl)
theorem n_abs (W : Wd P mg) : mg "abs" = none := W.n (by kernel_rfl)
theorem n_all (W : Wd P mg) : mg "all" = none := W.n (by kernel_rfl)
theorem n_any (W : Wd P mg) : mg "any" = none := W.n (by kernel_rfl)
theorem n_bool (W : Wd P mg) : mg "bool" = none := W.n (by kernel_rfl)
theorem n_classmethod (W : Wd P mg) : mg "classmethod" = none := W.n (by kernel_rfl)
theorem n_enumerate (W : Wd P mg) : mg "enumerate" = none := W.n (by kernel_rfl)
theorem n_int (W : Wd P mg) : mg "int" = none := W.n (by kernel_rfl)
theorem n_isinstance (W : Wd P mg) : mg "isinstance" = none := W.n (by kernel_rfl)
theorem n_iter (W : Wd P mg) : mg "iter" = none := W.n (by kernel_rfl)
theorem n_len (W : Wd P mg) : mg "len" = none := W.n (by kernel_rfl)
theorem n_list (W : Wd P mg) : mg "list" = none := W.n (by kernel_rfl)
theorem n_max (W : Wd P mg) : mg "max" = none := W.n (by kernel_rfl)
theorem n_min (W : Wd P mg) : mg "min" = none := W.n (by kernel_rfl)
theorem n_property (W : Wd P mg) : mg "property" = none := W.n (by kernel_rfl)
theorem n_range (W : Wd P mg) : mg "range" = none := W.n (by kernel_rfl)
theorem n_repr (W : Wd P mg) : mg "repr" = none := W.n (by kernel_rfl)
theorem n_reversed (W : Wd P mg) : mg "reversed" = none := W.n (by kernel_rfl)
theorem n_set (W : Wd P mg) : mg "set" = none := W.n (by kernel_rfl)
theorem n_sorted (W : Wd P mg) : mg "sorted" = none := W.n (by kernel_rfl)
theorem n_staticmethod (W : Wd P mg) : mg "staticmethod" = none := W.n (by kernel_rfl)
theorem n_str (W : Wd P mg) : mg "str" = none := W.n (by kernel_rfl)
theorem n_sum (W : Wd P mg) : mg "sum" = none := W.n (by kernel_rfl)
theorem n_super (W : Wd P mg) : mg "super" = none := W.n (by kernel_rfl)
theorem n_tuple (W : Wd P mg) : mg "tuple" = none := W.n (by kernel_rfl)
theorem n_zip (W : Wd P mg) : mg "zip" = none := W.n (by kernel_rfl)
end
abbrev s_is_integer : Stmt := top 3
abbrev a_is_integer : Addr := 28
abbrev fd_is_integer : FuncData := mkF "is_integer" "is_integer" s_is_integer (.none) (.none) (.none) (.str "everysite.integers" 194) (.ref 27) (.none)
theorem F_is_integer (P : Params) : Fun (K0 P) "is_integer" "is_integer" s_is_integer a_is_integer fd_is_integer := fun_mk (oc := .type "function") (od := none) (osl := #[]) (by kernel_rfl) (by kernel_rfl) (by kernel_rfl)
theorem b_is_integer (P : Params) : Binds (K0 P) fd_is_integer ["value"] [] := (F_is_integer P).binds fun _ _ _ _ _ _ us hl => match us, hl with | [_], _ => rfl
abbrev s_is_number : Stmt := top 4
abbrev a_is_number : Addr := 35
abbrev fd_is_number : FuncData := mkF "is_number" "is_number" s_is_number (.none) (.none) (.none) (.str "everysite.integers" 194) (.ref 34) (.none)
theorem F_is_number (P : Params) : Fun (K0 P) "is_number" "is_number" s_is_number a_is_number fd_is_number := fun_mk (oc := .type "function") (od := none) (osl := #[]) (by kernel_rfl) (by kernel_rfl) (by kernel_rfl)
theorem b_is_number (P : Params) : Binds (K0 P) fd_is_number ["value", "least", "most"] [] := (F_is_number P).binds fun _ _ _ _ _ _ us hl => match us, hl with | [_, _, _], _ => rfl
abbrev s_are_different : Stmt := top 6
abbrev a_are_different : Addr := 47
abbrev fd_are_different : FuncData := mkF "are_different" "are_different" s_are_different (.none) (.none) (.none) (.str "everysite.integers" 194) (.ref 46) (.none)
theorem F_are_different (P : Params) : Fun (K0 P) "are_different" "are_different" s_are_different a_are_different fd_are_different := fun_mk (oc := .type "function") (od := none) (osl := #[]) (by kernel_rfl) (by kernel_rfl) (by kernel_rfl)
theorem b_are_different (P : Params) : Binds (K0 P) fd_are_different ["values"] [] := (F_are_different P).binds fun _ _ _ _ _ _ us hl => match us, hl with | [_], _ => rfl
abbrev s_book_text : Stmt := top 8
abbrev a_book_text : Addr := 52
abbrev fd_book_text : FuncData := mkF "book_text" "book_text" s_book_text (.none) (.none) (.none) (.str "everysite.booktexts" 227) (.ref 51) (.none)
theorem F_book_text (P : Params) : Fun (K0 P) "book_text" "book_text" s_book_text a_book_text fd_book_text := fun_mk (oc := .type "function") (od := none) (osl := #[]) (by kernel_rfl) (by kernel_rfl) (by kernel_rfl)
theorem b_book_text (P : Params) : Binds (K0 P) fd_book_text ["kinds", "templates"] [] := (F_book_text P).binds fun _ _ _ _ _ _ us hl => match us, hl with | [_, _], _ => rfl
abbrev s_is_name : Stmt := top 62
abbrev a_is_name : Addr := 671
abbrev fd_is_name : FuncData := mkF "is_name" "is_name" s_is_name (.none) (.none) (.none) (.str "everysite.books" 1081) (.ref 670) (.none)
theorem F_is_name (P : Params) : Fun (K0 P) "is_name" "is_name" s_is_name a_is_name fd_is_name := fun_mk (oc := .type "function") (od := none) (osl := #[]) (by kernel_rfl) (by kernel_rfl) (by kernel_rfl)
theorem b_is_name (P : Params) : Binds (K0 P) fd_is_name ["value"] [] := (F_is_name P).binds fun _ _ _ _ _ _ us hl => match us, hl with | [_], _ => rfl
abbrev s_is_row : Stmt := top 63
abbrev a_is_row : Addr := 678
abbrev fd_is_row : FuncData := mkF "is_row" "is_row" s_is_row (.none) (.none) (.none) (.str "everysite.books" 1081) (.ref 677) (.none)
theorem F_is_row (P : Params) : Fun (K0 P) "is_row" "is_row" s_is_row a_is_row fd_is_row := fun_mk (oc := .type "function") (od := none) (osl := #[]) (by kernel_rfl) (by kernel_rfl) (by kernel_rfl)
theorem b_is_row (P : Params) : Binds (K0 P) fd_is_row ["value", "length"] [] := (F_is_row P).binds fun _ _ _ _ _ _ us hl => match us, hl with | [_, _], _ => rfl
abbrev s_is_kind : Stmt := top 64
abbrev a_is_kind : Addr := 685
abbrev fd_is_kind : FuncData := mkF "is_kind" "is_kind" s_is_kind (.none) (.none) (.none) (.str "everysite.books" 1081) (.ref 684) (.none)
theorem F_is_kind (P : Params) : Fun (K0 P) "is_kind" "is_kind" s_is_kind a_is_kind fd_is_kind := fun_mk (oc := .type "function") (od := none) (osl := #[]) (by kernel_rfl) (by kernel_rfl) (by kernel_rfl)
theorem b_is_kind (P : Params) : Binds (K0 P) fd_is_kind ["value"] [] := (F_is_kind P).binds fun _ _ _ _ _ _ us hl => match us, hl with | [_], _ => rfl
abbrev s_is_link : Stmt := top 65
abbrev a_is_link : Addr := 692
abbrev fd_is_link : FuncData := mkF "is_link" "is_link" s_is_link (.none) (.none) (.none) (.str "everysite.books" 1081) (.ref 691) (.none)
theorem F_is_link (P : Params) : Fun (K0 P) "is_link" "is_link" s_is_link a_is_link fd_is_link := fun_mk (oc := .type "function") (od := none) (osl := #[]) (by kernel_rfl) (by kernel_rfl) (by kernel_rfl)
theorem b_is_link (P : Params) : Binds (K0 P) fd_is_link ["pages", "value"] [] := (F_is_link P).binds fun _ _ _ _ _ _ us hl => match us, hl with | [_, _], _ => rfl
abbrev s_is_mark : Stmt := top 66
abbrev a_is_mark : Addr := 699
abbrev fd_is_mark : FuncData := mkF "is_mark" "is_mark" s_is_mark (.none) (.none) (.none) (.str "everysite.books" 1081) (.ref 698) (.none)
theorem F_is_mark (P : Params) : Fun (K0 P) "is_mark" "is_mark" s_is_mark a_is_mark fd_is_mark := fun_mk (oc := .type "function") (od := none) (osl := #[]) (by kernel_rfl) (by kernel_rfl) (by kernel_rfl)
theorem b_is_mark (P : Params) : Binds (K0 P) fd_is_mark ["gates", "pages", "value"] [] := (F_is_mark P).binds fun _ _ _ _ _ _ us hl => match us, hl with | [_, _, _], _ => rfl
abbrev s_gates_of : Stmt := top 67
abbrev a_gates_of : Addr := 706
abbrev fd_gates_of : FuncData := mkF "gates_of" "gates_of" s_gates_of (.none) (.none) (.none) (.str "everysite.books" 1081) (.ref 705) (.none)
theorem F_gates_of (P : Params) : Fun (K0 P) "gates_of" "gates_of" s_gates_of a_gates_of fd_gates_of := fun_mk (oc := .type "function") (od := none) (osl := #[]) (by kernel_rfl) (by kernel_rfl) (by kernel_rfl)
theorem b_gates_of (P : Params) : Binds (K0 P) fd_gates_of ["kinds", "value"] [] := (F_gates_of P).binds fun _ _ _ _ _ _ us hl => match us, hl with | [_, _], _ => rfl
abbrev s_is_slot : Stmt := top 68
abbrev a_is_slot : Addr := 711
abbrev fd_is_slot : FuncData := mkF "is_slot" "is_slot" s_is_slot (.none) (.none) (.none) (.str "everysite.books" 1081) (.ref 710) (.none)
theorem F_is_slot (P : Params) : Fun (K0 P) "is_slot" "is_slot" s_is_slot a_is_slot fd_is_slot := fun_mk (oc := .type "function") (od := none) (osl := #[]) (by kernel_rfl) (by kernel_rfl) (by kernel_rfl)
theorem b_is_slot (P : Params) : Binds (K0 P) fd_is_slot ["kinds", "pages", "value"] [] := (F_is_slot P).binds fun _ _ _ _ _ _ us hl => match us, hl with | [_, _, _], _ => rfl
abbrev s_is_template : Stmt := top 69
abbrev a_is_template : Addr := 716
abbrev fd_is_template : FuncData := mkF "is_template" "is_template" s_is_template (.none) (.none) (.none) (.str "everysite.books" 1081) (.ref 715) (.none)
theorem F_is_template (P : Params) : Fun (K0 P) "is_template" "is_template" s_is_template a_is_template fd_is_template := fun_mk (oc := .type "function") (od := none) (osl := #[]) (by kernel_rfl) (by kernel_rfl) (by kernel_rfl)
theorem b_is_template (P : Params) : Binds (K0 P) fd_is_template ["kinds", "value"] [] := (F_is_template P).binds fun _ _ _ _ _ _ us hl => match us, hl with | [_, _], _ => rfl
abbrev s_check_kinds : Stmt := top 70
abbrev a_check_kinds : Addr := 723
abbrev fd_check_kinds : FuncData := mkF "check_kinds" "check_kinds" s_check_kinds (.none) (.none) (.none) (.str "everysite.books" 1081) (.ref 722) (.none)
theorem F_check_kinds (P : Params) : Fun (K0 P) "check_kinds" "check_kinds" s_check_kinds a_check_kinds fd_check_kinds := fun_mk (oc := .type "function") (od := none) (osl := #[]) (by kernel_rfl) (by kernel_rfl) (by kernel_rfl)
theorem b_check_kinds (P : Params) : Binds (K0 P) fd_check_kinds ["value"] [] := (F_check_kinds P).binds fun _ _ _ _ _ _ us hl => match us, hl with | [_], _ => rfl
abbrev s_check_templates : Stmt := top 71
abbrev a_check_templates : Addr := 730
abbrev fd_check_templates : FuncData := mkF "check_templates" "check_templates" s_check_templates (.none) (.none) (.none) (.str "everysite.books" 1081) (.ref 729) (.none)
theorem F_check_templates (P : Params) : Fun (K0 P) "check_templates" "check_templates" s_check_templates a_check_templates fd_check_templates := fun_mk (oc := .type "function") (od := none) (osl := #[]) (by kernel_rfl) (by kernel_rfl) (by kernel_rfl)
theorem b_check_templates (P : Params) : Binds (K0 P) fd_check_templates ["kinds", "value"] [] := (F_check_templates P).binds fun _ _ _ _ _ _ us hl => match us, hl with | [_, _], _ => rfl
abbrev s_check_filled : Stmt := top 72
abbrev a_check_filled : Addr := 735
abbrev fd_check_filled : FuncData := mkF "check_filled" "check_filled" s_check_filled (.none) (.none) (.none) (.str "everysite.books" 1081) (.ref 734) (.none)
theorem F_check_filled (P : Params) : Fun (K0 P) "check_filled" "check_filled" s_check_filled a_check_filled fd_check_filled := fun_mk (oc := .type "function") (od := none) (osl := #[]) (by kernel_rfl) (by kernel_rfl) (by kernel_rfl)
theorem b_check_filled (P : Params) : Binds (K0 P) fd_check_filled ["kinds", "templates"] [] := (F_check_filled P).binds fun _ _ _ _ _ _ us hl => match us, hl with | [_, _], _ => rfl
abbrev s_check_book : Stmt := top 74
abbrev a_check_book : Addr := 846
abbrev fd_check_book : FuncData := mkF "check_book" "check_book" s_check_book (.none) (.none) (.none) (.str "everysite.books" 1081) (.ref 845) (.none)
theorem F_check_book (P : Params) : Fun (K0 P) "check_book" "check_book" s_check_book a_check_book fd_check_book := fun_mk (oc := .type "function") (od := none) (osl := #[]) (by kernel_rfl) (by kernel_rfl) (by kernel_rfl)
theorem b_check_book (P : Params) : Binds (K0 P) fd_check_book ["value"] [] := (F_check_book P).binds fun _ _ _ _ _ _ us hl => match us, hl with | [_], _ => rfl
abbrev s_check_guards : Stmt := top 107
abbrev a_check_guards : Addr := 1321
abbrev fd_check_guards : FuncData := mkF "check_guards" "check_guards" s_check_guards (.none) (.none) (.none) (.str "everysite.workshop" 1969) (.ref 1320) (.none)
theorem F_check_guards (P : Params) : Fun (K0 P) "check_guards" "check_guards" s_check_guards a_check_guards fd_check_guards := fun_mk (oc := .type "function") (od := none) (osl := #[]) (by kernel_rfl) (by kernel_rfl) (by kernel_rfl)
theorem b_check_guards (P : Params) : Binds (K0 P) fd_check_guards ["guards", "book", "first"] [] := (F_check_guards P).binds fun _ _ _ _ _ _ us hl => match us, hl with | [_, _, _], _ => rfl
abbrev s_is_site_deed : Stmt := top 109
abbrev a_is_site_deed : Addr := 1451
abbrev fd_is_site_deed : FuncData := mkF "is_site_deed" "is_site_deed" s_is_site_deed (.none) (.none) (.none) (.str "everysite.workshop" 1969) (.ref 1450) (.none)
theorem F_is_site_deed (P : Params) : Fun (K0 P) "is_site_deed" "is_site_deed" s_is_site_deed a_is_site_deed fd_is_site_deed := fun_mk (oc := .type "function") (od := none) (osl := #[]) (by kernel_rfl) (by kernel_rfl) (by kernel_rfl)
theorem b_is_site_deed (P : Params) : Binds (K0 P) fd_is_site_deed ["value"] [] := (F_is_site_deed P).binds fun _ _ _ _ _ _ us hl => match us, hl with | [_], _ => rfl
abbrev s__law_cell : Stmt := top 113
abbrev a__law_cell : Addr := 1513
abbrev fd__law_cell : FuncData := mkF "_law_cell" "_law_cell" s__law_cell (.none) (.none) (.none) (.str "law_everysite_k76_deeds_refused" 2248) (.ref 1512) (.none)
theorem F__law_cell (P : Params) : Fun (K0 P) "_law_cell" "_law_cell" s__law_cell a__law_cell fd__law_cell := fun_mk (oc := .type "function") (od := none) (osl := #[]) (by kernel_rfl) (by kernel_rfl) (by kernel_rfl)
theorem b__law_cell (P : Params) : Binds (K0 P) fd__law_cell ["_law_cells", "_law_k"] [] := (F__law_cell P).binds fun _ _ _ _ _ _ us hl => match us, hl with | [_, _], _ => rfl
abbrev s__law_pool : Stmt := top 114
abbrev a__law_pool : Addr := 1520
abbrev fd__law_pool : FuncData := mkF "_law_pool" "_law_pool" s__law_pool (.none) (.none) (.none) (.str "law_everysite_k76_deeds_refused" 2248) (.ref 1519) (.none)
theorem F__law_pool (P : Params) : Fun (K0 P) "_law_pool" "_law_pool" s__law_pool a__law_pool fd__law_pool := fun_mk (oc := .type "function") (od := none) (osl := #[]) (by kernel_rfl) (by kernel_rfl) (by kernel_rfl)
theorem b__law_pool (P : Params) : Binds (K0 P) fd__law_pool ["_law_cell_here"] [] := (F__law_pool P).binds fun _ _ _ _ _ _ us hl => match us, hl with | [_], _ => rfl
abbrev s__law_draw : Stmt := top 115
abbrev a__law_draw : Addr := 1527
abbrev fd__law_draw : FuncData := mkF "_law_draw" "_law_draw" s__law_draw (.none) (.none) (.none) (.str "law_everysite_k76_deeds_refused" 2248) (.ref 1526) (.none)
theorem F__law_draw (P : Params) : Fun (K0 P) "_law_draw" "_law_draw" s__law_draw a__law_draw fd__law_draw := fun_mk (oc := .type "function") (od := none) (osl := #[]) (by kernel_rfl) (by kernel_rfl) (by kernel_rfl)
theorem b__law_draw (P : Params) : Binds (K0 P) fd__law_draw ["_law_pool_here", "_law_many"] [] := (F__law_draw P).binds fun _ _ _ _ _ _ us hl => match us, hl with | [_, _], _ => rfl
abbrev s__law_names : Stmt := top 116
abbrev a__law_names : Addr := 1532
abbrev fd__law_names : FuncData := mkF "_law_names" "_law_names" s__law_names (.none) (.none) (.none) (.str "law_everysite_k76_deeds_refused" 2248) (.ref 1531) (.none)
theorem F__law_names (P : Params) : Fun (K0 P) "_law_names" "_law_names" s__law_names a__law_names fd__law_names := fun_mk (oc := .type "function") (od := none) (osl := #[]) (by kernel_rfl) (by kernel_rfl) (by kernel_rfl)
theorem b__law_names (P : Params) : Binds (K0 P) fd__law_names ["_law_pool_here", "_law_many"] [] := (F__law_names P).binds fun _ _ _ _ _ _ us hl => match us, hl with | [_, _], _ => rfl
abbrev s__law_unlike : Stmt := top 117
abbrev a__law_unlike : Addr := 1539
abbrev fd__law_unlike : FuncData := mkF "_law_unlike" "_law_unlike" s__law_unlike (.none) (.none) (.none) (.str "law_everysite_k76_deeds_refused" 2248) (.ref 1538) (.none)
theorem F__law_unlike (P : Params) : Fun (K0 P) "_law_unlike" "_law_unlike" s__law_unlike a__law_unlike fd__law_unlike := fun_mk (oc := .type "function") (od := none) (osl := #[]) (by kernel_rfl) (by kernel_rfl) (by kernel_rfl)
theorem b__law_unlike (P : Params) : Binds (K0 P) fd__law_unlike ["_law_rows"] [] := (F__law_unlike P).binds fun _ _ _ _ _ _ us hl => match us, hl with | [_], _ => rfl
abbrev s__law_spots : Stmt := top 118
abbrev a__law_spots : Addr := 1546
abbrev fd__law_spots : FuncData := mkF "_law_spots" "_law_spots" s__law_spots (.none) (.none) (.none) (.str "law_everysite_k76_deeds_refused" 2248) (.ref 1545) (.none)
theorem F__law_spots (P : Params) : Fun (K0 P) "_law_spots" "_law_spots" s__law_spots a__law_spots fd__law_spots := fun_mk (oc := .type "function") (od := none) (osl := #[]) (by kernel_rfl) (by kernel_rfl) (by kernel_rfl)
theorem b__law_spots (P : Params) : Binds (K0 P) fd__law_spots ["_law_pool_here", "_law_pages", "_law_many"] [] := (F__law_spots P).binds fun _ _ _ _ _ _ us hl => match us, hl with | [_, _, _], _ => rfl
abbrev s__law_template : Stmt := top 119
abbrev a__law_template : Addr := 1551
abbrev fd__law_template : FuncData := mkF "_law_template" "_law_template" s__law_template (.none) (.none) (.none) (.str "law_everysite_k76_deeds_refused" 2248) (.ref 1550) (.none)
theorem F__law_template (P : Params) : Fun (K0 P) "_law_template" "_law_template" s__law_template a__law_template fd__law_template := fun_mk (oc := .type "function") (od := none) (osl := #[]) (by kernel_rfl) (by kernel_rfl) (by kernel_rfl)
theorem b__law_template (P : Params) : Binds (K0 P) fd__law_template ["_law_pool_here", "_law_kinds", "_law_words", "_law_name", "_law_at", "_law_below"] [] := (F__law_template P).binds fun _ _ _ _ _ _ us hl => match us, hl with | [_, _, _, _, _, _], _ => rfl
abbrev s__law_book : Stmt := top 120
abbrev a__law_book : Addr := 1556
abbrev fd__law_book : FuncData := mkF "_law_book" "_law_book" s__law_book (.none) (.none) (.none) (.str "law_everysite_k76_deeds_refused" 2248) (.ref 1555) (.none)
theorem F__law_book (P : Params) : Fun (K0 P) "_law_book" "_law_book" s__law_book a__law_book fd__law_book := fun_mk (oc := .type "function") (od := none) (osl := #[]) (by kernel_rfl) (by kernel_rfl) (by kernel_rfl)
theorem b__law_book (P : Params) : Binds (K0 P) fd__law_book ["_law_pool_here"] [] := (F__law_book P).binds fun _ _ _ _ _ _ us hl => match us, hl with | [_], _ => rfl
abbrev s__law_caught : Stmt := top 121
abbrev a__law_caught : Addr := 1563
abbrev fd__law_caught : FuncData := mkF "_law_caught" "_law_caught" s__law_caught (.none) (.none) (.none) (.str "law_everysite_k76_deeds_refused" 2248) (.ref 1562) (.none)
theorem F__law_caught (P : Params) : Fun (K0 P) "_law_caught" "_law_caught" s__law_caught a__law_caught fd__law_caught := fun_mk (oc := .type "function") (od := none) (osl := #[]) (by kernel_rfl) (by kernel_rfl) (by kernel_rfl)
theorem b__law_caught (P : Params) : Binds (K0 P) fd__law_caught ["_law_act"] [] := (F__law_caught P).binds fun _ _ _ _ _ _ us hl => match us, hl with | [_], _ => rfl
abbrev s__law_odd : Stmt := top 122
abbrev a__law_odd : Addr := 1570
abbrev fd__law_odd : FuncData := mkF "_law_odd" "_law_odd" s__law_odd (.none) (.none) (.none) (.str "law_everysite_k76_deeds_refused" 2248) (.ref 1569) (.none)
theorem F__law_odd (P : Params) : Fun (K0 P) "_law_odd" "_law_odd" s__law_odd a__law_odd fd__law_odd := fun_mk (oc := .type "function") (od := none) (osl := #[]) (by kernel_rfl) (by kernel_rfl) (by kernel_rfl)
theorem b__law_odd (P : Params) : Binds (K0 P) fd__law_odd ["_law_pool_here", "_law_plain"] [] := (F__law_odd P).binds fun _ _ _ _ _ _ us hl => match us, hl with | [_, _], _ => rfl
abbrev s__law_shown : Stmt := top 123
abbrev a__law_shown : Addr := 1577
abbrev fd__law_shown : FuncData := mkF "_law_shown" "_law_shown" s__law_shown (.none) (.none) (.none) (.str "law_everysite_k76_deeds_refused" 2248) (.ref 1576) (.none)
theorem F__law_shown (P : Params) : Fun (K0 P) "_law_shown" "_law_shown" s__law_shown a__law_shown fd__law_shown := fun_mk (oc := .type "function") (od := none) (osl := #[]) (by kernel_rfl) (by kernel_rfl) (by kernel_rfl)
theorem b__law_shown (P : Params) : Binds (K0 P) fd__law_shown ["_law_shop"] [] := (F__law_shown P).binds fun _ _ _ _ _ _ us hl => match us, hl with | [_], _ => rfl
abbrev s__law_odd_right : Stmt := top 124
abbrev a__law_odd_right : Addr := 1582
abbrev fd__law_odd_right : FuncData := mkF "_law_odd_right" "_law_odd_right" s__law_odd_right (.none) (.none) (.none) (.str "law_everysite_k76_deeds_refused" 2248) (.ref 1581) (.none)
theorem F__law_odd_right (P : Params) : Fun (K0 P) "_law_odd_right" "_law_odd_right" s__law_odd_right a__law_odd_right fd__law_odd_right := fun_mk (oc := .type "function") (od := none) (osl := #[]) (by kernel_rfl) (by kernel_rfl) (by kernel_rfl)
theorem b__law_odd_right (P : Params) : Binds (K0 P) fd__law_odd_right ["_law_pool_here", "_law_shop", "_law_plain", "_law_deed_here"] [] := (F__law_odd_right P).binds fun _ _ _ _ _ _ us hl => match us, hl with | [_, _, _, _], _ => rfl
abbrev s__law_full_right : Stmt := top 125
abbrev a__law_full_right : Addr := 1589
abbrev fd__law_full_right : FuncData := mkF "_law_full_right" "_law_full_right" s__law_full_right (.none) (.none) (.none) (.str "law_everysite_k76_deeds_refused" 2248) (.ref 1588) (.none)
theorem F__law_full_right (P : Params) : Fun (K0 P) "_law_full_right" "_law_full_right" s__law_full_right a__law_full_right fd__law_full_right := fun_mk (oc := .type "function") (od := none) (osl := #[]) (by kernel_rfl) (by kernel_rfl) (by kernel_rfl)
theorem b__law_full_right (P : Params) : Binds (K0 P) fd__law_full_right ["_law_pool_here", "_law_shop", "_law_plain", "_law_deed_here"] [] := (F__law_full_right P).binds fun _ _ _ _ _ _ us hl => match us, hl with | [_, _, _, _], _ => rfl
abbrev s__law_right : Stmt := top 126
abbrev a__law_right : Addr := 1596
abbrev fd__law_right : FuncData := mkF "_law_right" "_law_right" s__law_right (.none) (.none) (.none) (.str "law_everysite_k76_deeds_refused" 2248) (.ref 1595) (.none)
theorem F__law_right (P : Params) : Fun (K0 P) "_law_right" "_law_right" s__law_right a__law_right fd__law_right := fun_mk (oc := .type "function") (od := none) (osl := #[]) (by kernel_rfl) (by kernel_rfl) (by kernel_rfl)
theorem b__law_right (P : Params) : Binds (K0 P) fd__law_right ["_law_pool_here"] [] := (F__law_right P).binds fun _ _ _ _ _ _ us hl => match us, hl with | [_], _ => rfl
abbrev s_law : Stmt := top 127
abbrev a_law : Addr := 1601
abbrev fd_law : FuncData := mkF "law" "law" s_law (.none) (.none) (.none) (.str "law_everysite_k76_deeds_refused" 2248) (.ref 1600) (.none)
theorem F_law (P : Params) : Fun (K0 P) "law" "law" s_law a_law fd_law := fun_mk (oc := .type "function") (od := none) (osl := #[]) (by kernel_rfl) (by kernel_rfl) (by kernel_rfl)
theorem b_law (P : Params) : Binds (K0 P) fd_law ["_law_cells"] [] := (F_law P).binds fun _ _ _ _ _ _ us hl => match us, hl with | [_], _ => rfl
abbrev s_NotABook___init__ : Stmt := inClass (top 16) 0
abbrev a_NotABook___init__ : Addr := 124
abbrev fd_NotABook___init__ : FuncData := mkF "__init__" "NotABook.__init__" s_NotABook___init__ (.none) (.none) (.none) (.str "everysite.errors" 265) (.ref 123) (.none)
theorem F_NotABook___init__ (P : Params) : Fun (K0 P) "__init__" "NotABook.__init__" s_NotABook___init__ a_NotABook___init__ fd_NotABook___init__ := fun_mk (oc := .type "function") (od := none) (osl := #[]) (by kernel_rfl) (by kernel_rfl) (by kernel_rfl)
theorem b_NotABook___init__ (P : Params) : Binds (K0 P) fd_NotABook___init__ ["self", "value"] [] := (F_NotABook___init__ P).binds fun _ _ _ _ _ _ us hl => match us, hl with | [_, _], _ => rfl
abbrev s_UnknownTemplate___init__ : Stmt := inClass (top 21) 0
abbrev a_UnknownTemplate___init__ : Addr := 219
abbrev fd_UnknownTemplate___init__ : FuncData := mkF "__init__" "UnknownTemplate.__init__" s_UnknownTemplate___init__ (.none) (.none) (.none) (.str "everysite.errors" 265) (.ref 218) (.none)
theorem F_UnknownTemplate___init__ (P : Params) : Fun (K0 P) "__init__" "UnknownTemplate.__init__" s_UnknownTemplate___init__ a_UnknownTemplate___init__ fd_UnknownTemplate___init__ := fun_mk (oc := .type "function") (od := none) (osl := #[]) (by kernel_rfl) (by kernel_rfl) (by kernel_rfl)
theorem b_UnknownTemplate___init__ (P : Params) : Binds (K0 P) fd_UnknownTemplate___init__ ["self", "value"] [] := (F_UnknownTemplate___init__ P).binds fun _ _ _ _ _ _ us hl => match us, hl with | [_, _], _ => rfl
abbrev s_InvalidNumber___init__ : Stmt := inClass (top 25) 0
abbrev a_InvalidNumber___init__ : Addr := 295
abbrev fd_InvalidNumber___init__ : FuncData := mkF "__init__" "InvalidNumber.__init__" s_InvalidNumber___init__ (.none) (.none) (.none) (.str "everysite.errors" 265) (.ref 294) (.none)
theorem F_InvalidNumber___init__ (P : Params) : Fun (K0 P) "__init__" "InvalidNumber.__init__" s_InvalidNumber___init__ a_InvalidNumber___init__ fd_InvalidNumber___init__ := fun_mk (oc := .type "function") (od := none) (osl := #[]) (by kernel_rfl) (by kernel_rfl) (by kernel_rfl)
theorem b_InvalidNumber___init__ (P : Params) : Binds (K0 P) fd_InvalidNumber___init__ ["self", "value"] [] := (F_InvalidNumber___init__ P).binds fun _ _ _ _ _ _ us hl => match us, hl with | [_, _], _ => rfl
abbrev s_InvalidDeed___init__ : Stmt := inClass (top 33) 0
abbrev a_InvalidDeed___init__ : Addr := 447
abbrev fd_InvalidDeed___init__ : FuncData := mkF "__init__" "InvalidDeed.__init__" s_InvalidDeed___init__ (.none) (.none) (.none) (.str "everysite.errors" 265) (.ref 446) (.none)
theorem F_InvalidDeed___init__ (P : Params) : Fun (K0 P) "__init__" "InvalidDeed.__init__" s_InvalidDeed___init__ a_InvalidDeed___init__ fd_InvalidDeed___init__ := fun_mk (oc := .type "function") (od := none) (osl := #[]) (by kernel_rfl) (by kernel_rfl) (by kernel_rfl)
theorem b_InvalidDeed___init__ (P : Params) : Binds (K0 P) fd_InvalidDeed___init__ ["self", "index"] [] := (F_InvalidDeed___init__ P).binds fun _ _ _ _ _ _ us hl => match us, hl with | [_, _], _ => rfl
abbrev s_TooManyDeeds___init__ : Stmt := inClass (top 45) 0
abbrev a_TooManyDeeds___init__ : Addr := 661
abbrev fd_TooManyDeeds___init__ : FuncData := mkF "__init__" "TooManyDeeds.__init__" s_TooManyDeeds___init__ (.none) (.none) (.none) (.str "everysite.errors" 265) (.ref 660) (.none)
theorem F_TooManyDeeds___init__ (P : Params) : Fun (K0 P) "__init__" "TooManyDeeds.__init__" s_TooManyDeeds___init__ a_TooManyDeeds___init__ fd_TooManyDeeds___init__ := fun_mk (oc := .type "function") (od := none) (osl := #[]) (by kernel_rfl) (by kernel_rfl) (by kernel_rfl)
theorem b_TooManyDeeds___init__ (P : Params) : Binds (K0 P) fd_TooManyDeeds___init__ ["self", "limit"] [] := (F_TooManyDeeds___init__ P).binds fun _ _ _ _ _ _ us hl => match us, hl with | [_, _], _ => rfl
abbrev s_Book___init__ : Stmt := inClass (top 73) 0
abbrev a_Book___init__ : Addr := 747
abbrev fd_Book___init__ : FuncData := mkF "__init__" "Book.__init__" s_Book___init__ (.none) (.none) (.none) (.str "everysite.books" 1081) (.ref 746) (.none)
theorem F_Book___init__ (P : Params) : Fun (K0 P) "__init__" "Book.__init__" s_Book___init__ a_Book___init__ fd_Book___init__ := fun_mk (oc := .type "function") (od := none) (osl := #[]) (by kernel_rfl) (by kernel_rfl) (by kernel_rfl)
theorem b_Book___init__ (P : Params) : Binds (K0 P) fd_Book___init__ ["self", "kinds", "templates"] [] := (F_Book___init__ P).binds fun _ _ _ _ _ _ us hl => match us, hl with | [_, _, _], _ => rfl
abbrev s_Book_place : Stmt := inClass (top 73) 4
abbrev a_Book_place : Addr := 778
abbrev fd_Book_place : FuncData := mkF "place" "Book.place" s_Book_place (.none) (.none) (.none) (.str "everysite.books" 1081) (.ref 777) (.none)
theorem F_Book_place (P : Params) : Fun (K0 P) "place" "Book.place" s_Book_place a_Book_place fd_Book_place := fun_mk (oc := .type "function") (od := none) (osl := #[]) (by kernel_rfl) (by kernel_rfl) (by kernel_rfl)
theorem b_Book_place (P : Params) : Binds (K0 P) fd_Book_place ["self", "name"] [] := (F_Book_place P).binds fun _ _ _ _ _ _ us hl => match us, hl with | [_, _], _ => rfl
abbrev s_Book_template : Stmt := inClass (top 73) 5
abbrev a_Book_template : Addr := 785
abbrev fd_Book_template : FuncData := mkF "template" "Book.template" s_Book_template (.none) (.none) (.none) (.str "everysite.books" 1081) (.ref 784) (.none)
theorem F_Book_template (P : Params) : Fun (K0 P) "template" "Book.template" s_Book_template a_Book_template fd_Book_template := fun_mk (oc := .type "function") (od := none) (osl := #[]) (by kernel_rfl) (by kernel_rfl) (by kernel_rfl)
theorem b_Book_template (P : Params) : Binds (K0 P) fd_Book_template ["self", "name"] [] := (F_Book_template P).binds fun _ _ _ _ _ _ us hl => match us, hl with | [_, _], _ => rfl
abbrev s_Book_with_template : Stmt := inClass (top 73) 6
abbrev a_Book_with_template : Addr := 790
abbrev fd_Book_with_template : FuncData := mkF "with_template" "Book.with_template" s_Book_with_template (.none) (.none) (.none) (.str "everysite.books" 1081) (.ref 789) (.none)
theorem F_Book_with_template (P : Params) : Fun (K0 P) "with_template" "Book.with_template" s_Book_with_template a_Book_with_template fd_Book_with_template := fun_mk (oc := .type "function") (od := none) (osl := #[]) (by kernel_rfl) (by kernel_rfl) (by kernel_rfl)
theorem b_Book_with_template (P : Params) : Binds (K0 P) fd_Book_with_template ["self", "template"] [] := (F_Book_with_template P).binds fun _ _ _ _ _ _ us hl => match us, hl with | [_, _], _ => rfl
abbrev s_Book_without : Stmt := inClass (top 73) 7
abbrev a_Book_without : Addr := 797
abbrev fd_Book_without : FuncData := mkF "without" "Book.without" s_Book_without (.none) (.none) (.none) (.str "everysite.books" 1081) (.ref 796) (.none)
theorem F_Book_without (P : Params) : Fun (K0 P) "without" "Book.without" s_Book_without a_Book_without fd_Book_without := fun_mk (oc := .type "function") (od := none) (osl := #[]) (by kernel_rfl) (by kernel_rfl) (by kernel_rfl)
theorem b_Book_without (P : Params) : Binds (K0 P) fd_Book_without ["self", "name"] [] := (F_Book_without P).binds fun _ _ _ _ _ _ us hl => match us, hl with | [_, _], _ => rfl
abbrev s_Book___len__ : Stmt := inClass (top 73) 8
abbrev a_Book___len__ : Addr := 804
abbrev fd_Book___len__ : FuncData := mkF "__len__" "Book.__len__" s_Book___len__ (.none) (.none) (.none) (.str "everysite.books" 1081) (.ref 803) (.none)
theorem F_Book___len__ (P : Params) : Fun (K0 P) "__len__" "Book.__len__" s_Book___len__ a_Book___len__ fd_Book___len__ := fun_mk (oc := .type "function") (od := none) (osl := #[]) (by kernel_rfl) (by kernel_rfl) (by kernel_rfl)
theorem b_Book___len__ (P : Params) : Binds (K0 P) fd_Book___len__ ["self"] [] := (F_Book___len__ P).binds fun _ _ _ _ _ _ us hl => match us, hl with | [_], _ => rfl
abbrev s_Book___contains__ : Stmt := inClass (top 73) 9
abbrev a_Book___contains__ : Addr := 811
abbrev fd_Book___contains__ : FuncData := mkF "__contains__" "Book.__contains__" s_Book___contains__ (.none) (.none) (.none) (.str "everysite.books" 1081) (.ref 810) (.none)
theorem F_Book___contains__ (P : Params) : Fun (K0 P) "__contains__" "Book.__contains__" s_Book___contains__ a_Book___contains__ fd_Book___contains__ := fun_mk (oc := .type "function") (od := none) (osl := #[]) (by kernel_rfl) (by kernel_rfl) (by kernel_rfl)
theorem b_Book___contains__ (P : Params) : Binds (K0 P) fd_Book___contains__ ["self", "value"] [] := (F_Book___contains__ P).binds fun _ _ _ _ _ _ us hl => match us, hl with | [_, _], _ => rfl
abbrev s_Book___eq__ : Stmt := inClass (top 73) 10
abbrev a_Book___eq__ : Addr := 818
abbrev fd_Book___eq__ : FuncData := mkF "__eq__" "Book.__eq__" s_Book___eq__ (.none) (.none) (.none) (.str "everysite.books" 1081) (.ref 817) (.none)
theorem F_Book___eq__ (P : Params) : Fun (K0 P) "__eq__" "Book.__eq__" s_Book___eq__ a_Book___eq__ fd_Book___eq__ := fun_mk (oc := .type "function") (od := none) (osl := #[]) (by kernel_rfl) (by kernel_rfl) (by kernel_rfl)
theorem b_Book___eq__ (P : Params) : Binds (K0 P) fd_Book___eq__ ["self", "other"] [] := (F_Book___eq__ P).binds fun _ _ _ _ _ _ us hl => match us, hl with | [_, _], _ => rfl
abbrev s_Workshop___init__ : Stmt := inClass (top 108) 2
abbrev a_Workshop___init__ : Addr := 1335
abbrev fd_Workshop___init__ : FuncData := mkF "__init__" "Workshop.__init__" s_Workshop___init__ (.none) (.none) (.none) (.str "everysite.workshop" 1969) (.ref 1334) (.none)
theorem F_Workshop___init__ (P : Params) : Fun (K0 P) "__init__" "Workshop.__init__" s_Workshop___init__ a_Workshop___init__ fd_Workshop___init__ := fun_mk (oc := .type "function") (od := none) (osl := #[]) (by kernel_rfl) (by kernel_rfl) (by kernel_rfl)
theorem b_Workshop___init__ (P : Params) : Binds (K0 P) fd_Workshop___init__ ["self", "book"] [] := (F_Workshop___init__ P).binds fun _ _ _ _ _ _ us hl => match us, hl with | [_, _], _ => rfl
abbrev s_Workshop_guards : Stmt := inClass (top 108) 3
abbrev a_Workshop_guards : Addr := 1342
abbrev fd_Workshop_guards : FuncData := mkF "guards" "Workshop.guards" s_Workshop_guards (.none) (.none) (.none) (.str "everysite.workshop" 1969) (.ref 1341) (.none)
theorem F_Workshop_guards (P : Params) : Fun (K0 P) "guards" "Workshop.guards" s_Workshop_guards a_Workshop_guards fd_Workshop_guards := fun_mk (oc := .type "function") (od := none) (osl := #[]) (by kernel_rfl) (by kernel_rfl) (by kernel_rfl)
theorem b_Workshop_guards (P : Params) : Binds (K0 P) fd_Workshop_guards ["self"] [] := (F_Workshop_guards P).binds fun _ _ _ _ _ _ us hl => match us, hl with | [_], _ => rfl
abbrev s_Workshop_check_idle : Stmt := inClass (top 108) 5
abbrev a_Workshop_check_idle : Addr := 1359
abbrev fd_Workshop_check_idle : FuncData := mkF "check_idle" "Workshop.check_idle" s_Workshop_check_idle (.none) (.none) (.none) (.str "everysite.workshop" 1969) (.ref 1358) (.none)
theorem F_Workshop_check_idle (P : Params) : Fun (K0 P) "check_idle" "Workshop.check_idle" s_Workshop_check_idle a_Workshop_check_idle fd_Workshop_check_idle := fun_mk (oc := .type "function") (od := none) (osl := #[]) (by kernel_rfl) (by kernel_rfl) (by kernel_rfl)
theorem b_Workshop_check_idle (P : Params) : Binds (K0 P) fd_Workshop_check_idle ["self"] [] := (F_Workshop_check_idle P).binds fun _ _ _ _ _ _ us hl => match us, hl with | [_], _ => rfl
abbrev s_Workshop_is_deed : Stmt := inClass (top 108) 6
abbrev a_Workshop_is_deed : Addr := 1366
abbrev fd_Workshop_is_deed : FuncData := mkF "is_deed" "Workshop.is_deed" s_Workshop_is_deed (.none) (.none) (.none) (.str "everysite.workshop" 1969) (.ref 1365) (.none)
theorem F_Workshop_is_deed (P : Params) : Fun (K0 P) "is_deed" "Workshop.is_deed" s_Workshop_is_deed a_Workshop_is_deed fd_Workshop_is_deed := fun_mk (oc := .type "function") (od := none) (osl := #[]) (by kernel_rfl) (by kernel_rfl) (by kernel_rfl)
theorem b_Workshop_is_deed (P : Params) : Binds (K0 P) fd_Workshop_is_deed ["self", "value"] [] := (F_Workshop_is_deed P).binds fun _ _ _ _ _ _ us hl => match us, hl with | [_, _], _ => rfl
abbrev s_Workshop_do : Stmt := inClass (top 108) 7
abbrev a_Workshop_do : Addr := 1373
abbrev fd_Workshop_do : FuncData := mkF "do" "Workshop.do" s_Workshop_do (.none) (.none) (.none) (.str "everysite.workshop" 1969) (.ref 1372) (.none)
theorem F_Workshop_do (P : Params) : Fun (K0 P) "do" "Workshop.do" s_Workshop_do a_Workshop_do fd_Workshop_do := fun_mk (oc := .type "function") (od := none) (osl := #[]) (by kernel_rfl) (by kernel_rfl) (by kernel_rfl)
theorem b_Workshop_do (P : Params) : Binds (K0 P) fd_Workshop_do ["self", "deed"] [] := (F_Workshop_do P).binds fun _ _ _ _ _ _ us hl => match us, hl with | [_, _], _ => rfl
abbrev s_Workshop_do_all : Stmt := inClass (top 108) 8
abbrev a_Workshop_do_all : Addr := 1381
abbrev fd_Workshop_do_all : FuncData := mkF "do_all" "Workshop.do_all" s_Workshop_do_all (.none) (.ref 1374) (.none) (.str "everysite.workshop" 1969) (.ref 1380) (.none)
theorem F_Workshop_do_all (P : Params) : Fun (K0 P) "do_all" "Workshop.do_all" s_Workshop_do_all a_Workshop_do_all fd_Workshop_do_all := fun_mk (oc := .type "function") (od := none) (osl := #[]) (by kernel_rfl) (by kernel_rfl) (by kernel_rfl)
abbrev s_Workshop_done : Stmt := inClass (top 108) 9
abbrev a_Workshop_done : Addr := 1388
abbrev fd_Workshop_done : FuncData := mkF "done" "Workshop.done" s_Workshop_done (.none) (.none) (.none) (.str "everysite.workshop" 1969) (.ref 1387) (.none)
theorem F_Workshop_done (P : Params) : Fun (K0 P) "done" "Workshop.done" s_Workshop_done a_Workshop_done fd_Workshop_done := fun_mk (oc := .type "function") (od := none) (osl := #[]) (by kernel_rfl) (by kernel_rfl) (by kernel_rfl)
theorem b_Workshop_done (P : Params) : Binds (K0 P) fd_Workshop_done ["self", "deed"] [] := (F_Workshop_done P).binds fun _ _ _ _ _ _ us hl => match us, hl with | [_, _], _ => rfl
abbrev s_Workshop_change : Stmt := inClass (top 108) 10
abbrev a_Workshop_change : Addr := 1395
abbrev fd_Workshop_change : FuncData := mkF "change" "Workshop.change" s_Workshop_change (.none) (.none) (.none) (.str "everysite.workshop" 1969) (.ref 1394) (.none)
theorem F_Workshop_change (P : Params) : Fun (K0 P) "change" "Workshop.change" s_Workshop_change a_Workshop_change fd_Workshop_change := fun_mk (oc := .type "function") (od := none) (osl := #[]) (by kernel_rfl) (by kernel_rfl) (by kernel_rfl)
theorem b_Workshop_change (P : Params) : Binds (K0 P) fd_Workshop_change ["self", "deed"] [] := (F_Workshop_change P).binds fun _ _ _ _ _ _ us hl => match us, hl with | [_, _], _ => rfl
abbrev s_Workshop_check_use : Stmt := inClass (top 108) 11
abbrev a_Workshop_check_use : Addr := 1402
abbrev fd_Workshop_check_use : FuncData := mkF "check_use" "Workshop.check_use" s_Workshop_check_use (.none) (.none) (.none) (.str "everysite.workshop" 1969) (.ref 1401) (.none)
theorem F_Workshop_check_use (P : Params) : Fun (K0 P) "check_use" "Workshop.check_use" s_Workshop_check_use a_Workshop_check_use fd_Workshop_check_use := fun_mk (oc := .type "function") (od := none) (osl := #[]) (by kernel_rfl) (by kernel_rfl) (by kernel_rfl)
theorem b_Workshop_check_use (P : Params) : Binds (K0 P) fd_Workshop_check_use ["self", "word", "value"] [] := (F_Workshop_check_use P).binds fun _ _ _ _ _ _ us hl => match us, hl with | [_, _, _], _ => rfl
abbrev s_Workshop_move : Stmt := inClass (top 108) 12
abbrev a_Workshop_move : Addr := 1409
abbrev fd_Workshop_move : FuncData := mkF "move" "Workshop.move" s_Workshop_move (.none) (.none) (.none) (.str "everysite.workshop" 1969) (.ref 1408) (.none)
theorem F_Workshop_move (P : Params) : Fun (K0 P) "move" "Workshop.move" s_Workshop_move a_Workshop_move fd_Workshop_move := fun_mk (oc := .type "function") (od := none) (osl := #[]) (by kernel_rfl) (by kernel_rfl) (by kernel_rfl)
theorem b_Workshop_move (P : Params) : Binds (K0 P) fd_Workshop_move ["self", "book"] [] := (F_Workshop_move P).binds fun _ _ _ _ _ _ us hl => match us, hl with | [_, _], _ => rfl
abbrev s_Workshop_undo : Stmt := inClass (top 108) 13
abbrev a_Workshop_undo : Addr := 1416
abbrev fd_Workshop_undo : FuncData := mkF "undo" "Workshop.undo" s_Workshop_undo (.none) (.none) (.none) (.str "everysite.workshop" 1969) (.ref 1415) (.none)
theorem F_Workshop_undo (P : Params) : Fun (K0 P) "undo" "Workshop.undo" s_Workshop_undo a_Workshop_undo fd_Workshop_undo := fun_mk (oc := .type "function") (od := none) (osl := #[]) (by kernel_rfl) (by kernel_rfl) (by kernel_rfl)
theorem b_Workshop_undo (P : Params) : Binds (K0 P) fd_Workshop_undo ["self"] [] := (F_Workshop_undo P).binds fun _ _ _ _ _ _ us hl => match us, hl with | [_], _ => rfl
abbrev s_Workshop___len__ : Stmt := inClass (top 108) 15
abbrev a_Workshop___len__ : Addr := 1430
abbrev fd_Workshop___len__ : FuncData := mkF "__len__" "Workshop.__len__" s_Workshop___len__ (.none) (.none) (.none) (.str "everysite.workshop" 1969) (.ref 1429) (.none)
theorem F_Workshop___len__ (P : Params) : Fun (K0 P) "__len__" "Workshop.__len__" s_Workshop___len__ a_Workshop___len__ fd_Workshop___len__ := fun_mk (oc := .type "function") (od := none) (osl := #[]) (by kernel_rfl) (by kernel_rfl) (by kernel_rfl)
theorem b_Workshop___len__ (P : Params) : Binds (K0 P) fd_Workshop___len__ ["self"] [] := (F_Workshop___len__ P).binds fun _ _ _ _ _ _ us hl => match us, hl with | [_], _ => rfl
abbrev s_Workshop___repr__ : Stmt := inClass (top 108) 16
abbrev a_Workshop___repr__ : Addr := 1437
abbrev fd_Workshop___repr__ : FuncData := mkF "__repr__" "Workshop.__repr__" s_Workshop___repr__ (.none) (.none) (.none) (.str "everysite.workshop" 1969) (.ref 1436) (.none)
theorem F_Workshop___repr__ (P : Params) : Fun (K0 P) "__repr__" "Workshop.__repr__" s_Workshop___repr__ a_Workshop___repr__ fd_Workshop___repr__ := fun_mk (oc := .type "function") (od := none) (osl := #[]) (by kernel_rfl) (by kernel_rfl) (by kernel_rfl)
theorem b_Workshop___repr__ (P : Params) : Binds (K0 P) fd_Workshop___repr__ ["self"] [] := (F_Workshop___repr__ P).binds fun _ _ _ _ _ _ us hl => match us, hl with | [_], _ => rfl
abbrev s_SiteWorkshop_is_deed : Stmt := inClass (top 111) 1
abbrev a_SiteWorkshop_is_deed : Addr := 1472
abbrev fd_SiteWorkshop_is_deed : FuncData := { mkF "is_deed" "SiteWorkshop.is_deed" s_SiteWorkshop_is_deed (.none) (.none) (.none) (.str "everysite.workshop" 1969) (.ref 1471) (.ref 1465) with closure := [("__class__", 1460)] }
abbrev s_SiteWorkshop_change : Stmt := inClass (top 111) 3
abbrev a_SiteWorkshop_change : Addr := 1485
abbrev fd_SiteWorkshop_change : FuncData := { mkF "change" "SiteWorkshop.change" s_SiteWorkshop_change (.none) (.none) (.none) (.str "everysite.workshop" 1969) (.ref 1484) (.ref 1480) with closure := [("__class__", 1460)] }
abbrev s_SiteWorkshop_check_use : Stmt := inClass (top 111) 5
abbrev a_SiteWorkshop_check_use : Addr := 1495
abbrev fd_SiteWorkshop_check_use : FuncData := mkF "check_use" "SiteWorkshop.check_use" s_SiteWorkshop_check_use (.none) (.none) (.none) (.str "everysite.workshop" 1969) (.ref 1494) (.none)
theorem F_SiteWorkshop_check_use (P : Params) : Fun (K0 P) "check_use" "SiteWorkshop.check_use" s_SiteWorkshop_check_use a_SiteWorkshop_check_use fd_SiteWorkshop_check_use := fun_mk (oc := .type "function") (od := none) (osl := #[]) (by kernel_rfl) (by kernel_rfl) (by kernel_rfl)
theorem b_SiteWorkshop_check_use (P : Params) : Binds (K0 P) fd_SiteWorkshop_check_use ["self", "word", "value"] [] := (F_SiteWorkshop_check_use P).binds fun _ _ _ _ _ _ us hl => match us, hl with | [_, _, _], _ => rfl
abbrev s_SiteWorkshop_move : Stmt := inClass (top 111) 6
abbrev a_SiteWorkshop_move : Addr := 1501
abbrev fd_SiteWorkshop_move : FuncData := { mkF "move" "SiteWorkshop.move" s_SiteWorkshop_move (.none) (.none) (.none) (.str "everysite.workshop" 1969) (.ref 1500) (.ref 1496) with closure := [("__class__", 1460)] }
end K76
set_option maxHeartbeats 4000000
/-! Ed: what a reading evaluates to, told by data (PyData), leaving what is known. -/
namespace Ed
open PySem L2 Evl

/-! ### data in a growing heap -/
section
variable {K : PySem.W.Frag} {H H' : Hp}
mutual
theorem dp_mono (e : Ex H H') : ∀ (d : PyData) (v : V), Dp K H v d → Dp K H' v d
  | .none, _, h => by cases h; exact .non
  | .bool b, _, h => by cases h; exact .bl b
  | .int i, _, h => by cases h; exact .int i
  | .str x, _, h => by cases h; exact .str x
  | .list ds, _, h => by
    cases h with
    | lst hs ha => exact .lst (ex_l e hs) (dpAll_mono e ds _ ha)
  | .tuple ds, _, h => by
    cases h with
    | tup hs ha => exact .tup (ex_t e hs) (dpAll_mono e ds _ ha)
  | .dict _, _, h => by cases h
theorem dpAll_mono (e : Ex H H') : ∀ (ds : List PyData) (vs : List V), DpAll K H vs ds → DpAll K H' vs ds
  | [], _, h => by cases h; exact .nil
  | d :: ds, _, h => by
    cases h with
    | cons h1 h2 => exact .cons (dp_mono e d _ h1) (dpAll_mono e ds _ h2)
end
theorem _root_.L2.Dp.ex {v : V} {d : PyData} (h : Dp K H v d) (e : Ex H H') : Dp K H' v d := dp_mono e d v h
theorem _root_.L2.DpAll.ex {vs : List V} {ds : List PyData} (h : DpAll K H vs ds) (e : Ex H H') : DpAll K H' vs ds := dpAll_mono e ds vs h
theorem _root_.L2.DpAll.len : ∀ {vs : List V} {ds : List PyData}, DpAll K H vs ds → vs.length = ds.length
  | _, _, .nil => rfl
  | _, _, .cons _ h => by rw [List.length_cons, List.length_cons, h.len]
theorem dpa_get : ∀ {vs : List V} {ds : List PyData} {i : Nat} {d : PyData}, DpAll K H vs ds → ds[i]? = some d → ∃ v, vs[i]? = some v ∧ Dp K H v d
  | _, _, _, _, .nil, e => by simp at e
  | _, _, 0, _, .cons h _, e => by simp at e; subst e; exact ⟨_, rfl, h⟩
  | _, _, i + 1, d, .cons _ t, e => by
    obtain ⟨v, h1, h2⟩ := dpa_get (i := i) (d := d) t (by simpa using e)
    exact ⟨v, by simpa using h1, h2⟩
theorem dpa_getV : ∀ {vs : List V} {ds : List PyData} {i : Nat} {v : V}, DpAll K H vs ds → vs[i]? = some v → ∃ d, ds[i]? = some d ∧ Dp K H v d
  | _, _, _, _, .nil, e => by simp at e
  | _, _, 0, _, .cons h _, e => by simp at e; subst e; exact ⟨_, rfl, h⟩
  | _, _, i + 1, v, .cons _ t, e => by
    obtain ⟨d, h1, h2⟩ := dpa_getV (i := i) (v := v) t (by simpa using e)
    exact ⟨d, by simpa using h1, h2⟩
theorem dpa_app : ∀ {vs us : List V} {ds es : List PyData}, DpAll K H vs ds → DpAll K H us es → DpAll K H (vs ++ us) (ds ++ es)
  | _, _, _, _, .nil, h => h
  | _, _, _, _, .cons a t, h => .cons a (dpa_app t h)
theorem _root_.L2.DpAll.one {v : V} {d : PyData} (h : Dp K H v d) : DpAll K H [v] [d] := .cons h .nil
theorem _root_.L2.DpAll.get {vs : List V} {ds : List PyData} {i : Nat} {d : PyData} (h : DpAll K H vs ds) (e : ds[i]? = some d) : ∃ v, vs[i]? = some v ∧ Dp K H v d := dpa_get h e
theorem _root_.L2.DpAll.getV {vs : List V} {ds : List PyData} {i : Nat} {v : V} (h : DpAll K H vs ds) (e : vs[i]? = some v) : ∃ d, ds[i]? = some d ∧ Dp K H v d := dpa_getV h e
theorem _root_.L2.DpAll.app {vs us : List V} {ds es : List PyData} (h : DpAll K H vs ds) (k : DpAll K H us es) : DpAll K H (vs ++ us) (ds ++ es) := dpa_app h k
theorem dpAll_ints : ∀ ns : List Int, DpAll K H (ns.map V.int) (ns.map PyData.int)
  | [] => .nil
  | n :: ns => .cons (.int n) (dpAll_ints ns)
theorem dpAll_strs : ∀ ns : List Str, DpAll K H (ns.map V.str) (ns.map PyData.str)
  | [] => .nil
  | n :: ns => .cons (.str n) (dpAll_strs ns)
/-- scalars' values -/
theorem dp_int {v : V} {i : Int} (h : Dp K H v (.int i)) : v = .int i := by cases h; rfl
theorem dp_str {v : V} {x : Str} (h : Dp K H v (.str x)) : v = .str x := by cases h; rfl
theorem dp_bool {v : V} {b : Bool} (h : Dp K H v (.bool b)) : v = .bl b := by cases h; rfl
theorem dp_none {v : V} (h : Dp K H v .none) : v = .non := by cases h; rfl
theorem dp_tup {v : V} {ds : List PyData} (h : Dp K H v (.tuple ds)) : ∃ a xs, v = .ref a ∧ SqT K H a xs ∧ DpAll K H xs ds := by
  cases h with
  | tup hs ha => exact ⟨_, _, rfl, hs, ha⟩
theorem dp_lst {v : V} {ds : List PyData} (h : Dp K H v (.list ds)) : ∃ a xs, v = .ref a ∧ SqL K H a xs ∧ DpAll K H xs ds := by
  cases h with
  | lst hs ha => exact ⟨_, _, rfl, hs, ha⟩
theorem dpAll_strs_of : ∀ {xs : List Str} {vs : List V}, DpAll K H vs (xs.map PyData.str) → vs = xs.map V.str
  | [], _, h => by cases h; rfl
  | x :: xs, _, h => by
    cases h with
    | cons a t => rw [dp_str a, dpAll_strs_of t]; rfl
theorem dpAll_ints_of : ∀ {xs : List Int} {vs : List V}, DpAll K H vs (xs.map PyData.int) → vs = xs.map V.int
  | [], _, h => by cases h; rfl
  | x :: xs, _, h => by
    cases h with
    | cons a t => rw [dp_int a, dpAll_ints_of t]; rfl
end

/-! ### what evaluates to data -/
def EvD (K : PySem.W.Frag) (te : TE) (σ : L2.St) (H : Hp) (d : PyData) : Prop := ∀ H1, Ex H H1 → ∀ Q : VK, (∀ v H2, Ex H1 H2 → Dp K H2 v d → Q v H2) → te σ H1 Q
def EvAD (K : PySem.W.Frag) (ta : TA) (σ : L2.St) (H : Hp) (ds : List PyData) : Prop := ∀ H1, Ex H H1 → ∀ Q : List V → Hp → Prop, (∀ vs H2, Ex H1 H2 → DpAll K H2 vs ds → Q vs H2) → ta σ H1 Q
/-- a new list of data -/
def EvLD (K : PySem.W.Frag) (te : TE) (σ : L2.St) (H : Hp) (ds : List PyData) : Prop := ∀ H1, Ex H H1 → ∀ Q : VK, (∀ p xs H2, H1 p = none → Ex H1 H2 → H2 p = some (.lst xs) → DpAll K H2 xs ds → Q (.ref p) H2) → te σ H1 Q
section
variable {K : PySem.W.Frag} {σ : L2.St} {H H' : Hp} {ta tb te tx : TE} {t u : TT} {x y z v : V} {r : R2} {tr : TA} {d d1 d2 : PyData} {ds es : List PyData} {D : Ends} {tu tw tz : TS}
theorem EvD.mono (e : Ex H H') (h : EvD K te σ H d) : EvD K te σ H' d := fun H1 a Q q => h H1 (e.trans a) Q q
theorem EvAD.mono (e : Ex H H') (h : EvAD K tr σ H ds) : EvAD K tr σ H' ds := fun H1 a Q q => h H1 (e.trans a) Q q
theorem EvLD.mono (e : Ex H H') (h : EvLD K te σ H ds) : EvLD K te σ H' ds := fun H1 a Q q => h H1 (e.trans a) Q q
theorem ed_ev (h : Ev te σ H v) (hd : Dp K H v d) : EvD K te σ H d := fun H1 e Q q => h H1 e Q fun H2 e2 => q v H2 e2 (hd.ex (e.trans e2))
theorem ed_var {i : Nat} (h : σ[i]? = some (some v)) (hd : Dp K H v d) : EvD K (tVar i) σ H d := ed_ev (ev_var h) hd
/-- scalars are values -/
theorem ev_int {i : Int} (h : EvD K te σ H (.int i)) : Ev te σ H (.int i) := fun H1 e Q q => h H1 e Q fun v H2 e2 hd => by rw [dp_int hd]; exact q H2 e2
theorem ev_str {i : Str} (h : EvD K te σ H (.str i)) : Ev te σ H (.str i) := fun H1 e Q q => h H1 e Q fun v H2 e2 hd => by rw [dp_str hd]; exact q H2 e2
theorem ev_bool {i : Bool} (h : EvD K te σ H (.bool i)) : Ev te σ H (.bl i) := fun H1 e Q q => h H1 e Q fun v H2 e2 hd => by rw [dp_bool hd]; exact q H2 e2
theorem ev_none (h : EvD K te σ H .none) : Ev te σ H .non := fun H1 e Q q => h H1 e Q fun v H2 e2 hd => by rw [dp_none hd]; exact q H2 e2
theorem ed_int {i : Int} (h : Ev te σ H (.int i)) : EvD K te σ H (.int i) := ed_ev h (.int i)
theorem ed_str {i : Str} (h : Ev te σ H (.str i)) : EvD K te σ H (.str i) := ed_ev h (.str i)
theorem ed_bool {i : Bool} (h : Ev te σ H (.bl i)) : EvD K te σ H (.bool i) := ed_ev h (.bl i)
theorem ed_none (h : Ev te σ H .non) : EvD K te σ H .none := ed_ev h .non
theorem ed_to (h : EvD K te σ H d1) (e : d1 = d2) : EvD K te σ H d2 := by rw [← e]; exact h
theorem ea_nilD : EvAD K tNil σ H [] := fun H1 _ _ q => q _ H1 (Ex.refl H1) .nil
theorem ea_consD (h : EvD K ta σ H d) (hr : EvAD K tr σ H ds) : EvAD K (tCons ta tr) σ H (d :: ds) := fun H1 e _ q =>
  h H1 e _ fun v H2 e2 hd => hr H2 (e.trans e2) _ fun vs H3 e3 hs => q _ H3 (e2.trans e3) (.cons (hd.ex e3) hs)
theorem ed_tup (h : EvAD K tr σ H ds) (hl : ds.length ≤ 100000) : EvD K (tTup tr) σ H (.tuple ds) := fun H1 e _ q =>
  h H1 e _ fun vs H2 e2 hs => ⟨sz_of (by rw [hs.len]; exact hl), fun p hp => q _ _ (e2.trans (Ex.new hp)) (.tup (SqT.of upd_same) (hs.ex (Ex.new hp)))⟩
theorem eld_lst (h : EvAD K tr σ H ds) (hl : ds.length ≤ 100000) : EvLD K (tLst tr) σ H ds := fun H1 e _ q =>
  h H1 e _ fun vs H2 e2 hs => ⟨sz_of (by rw [hs.len]; exact hl), fun p hp => q p vs _ (fresh_back e2 hp) (e2.trans (Ex.new hp)) upd_same (hs.ex (Ex.new hp))⟩
theorem ed_ld (h : EvLD K te σ H ds) : EvD K te σ H (.list ds) := fun H1 e _ q => h H1 e _ fun p xs H2 _ e2 hp hs => q _ H2 e2 (.lst (SqL.of hp) hs)
theorem eld_l {ns : List V} (h : EvL te σ H ns) (hd : DpAll K H ns ds) : EvLD K te σ H ds := fun H1 e _ q => h H1 e _ fun p H2 hn e2 hp => q p ns H2 hn e2 hp (hd.ex (e.trans e2))
theorem el_ldStr {xs : List Str} (h : EvLD K te σ H (xs.map PyData.str)) : EvL te σ H (xs.map V.str) := fun H1 e Q q => h H1 e Q fun p vs H2 hn e2 hp hs => by
  rw [dpAll_strs_of hs] at hp
  exact q p H2 hn e2 hp
theorem el_ldInt {xs : List Int} (h : EvLD K te σ H (xs.map PyData.int)) : EvL te σ H (xs.map V.int) := fun H1 e Q q => h H1 e Q fun p vs H2 hn e2 hp hs => by
  rw [dpAll_ints_of hs] at hp
  exact q p H2 hn e2 hp
/-- conditional -/
theorem ed_if {b : Bool} (h : EvT t σ H b) (h1 : b = true → EvD K ta σ H d) (h2 : b = false → EvD K tb σ H d) : EvD K (tIf t ta tb) σ H d := fun H1 e Q q => h H1 e _ fun H2 e2 => by
  cases b with
  | true =>
    show ta σ H2 Q
    exact h1 rfl H2 (e.trans e2) Q fun v H3 e3 => q v H3 (e2.trans e3)
  | false =>
    show tb σ H2 Q
    exact h2 rfl H2 (e.trans e2) Q fun v H3 e3 => q v H3 (e2.trans e3)
/-! calls -/
/-- a def that makes data of data -/
def spM (K : PySem.W.Frag) (m : List PyData → PyData → Prop) : Sp := fun vs H Q _ => ∃ ds d, DpAll K H vs ds ∧ m ds d ∧ ∀ v H', Ex H H' → Dp K H' v d → Q v H'
theorem ed_call {m : List PyData → PyData → Prop} {E : XK} (h : EvAD K tr σ H ds) (hm : m ds d) : EvD K (tCall (spM K m) [] E tr) σ H d := fun H1 e Q q =>
  h H1 e _ fun vs H2 e2 hs => ⟨ds, d, by rw [List.append_nil]; exact hs, hm, fun v H3 e3 hd => q v H3 (e2.trans e3) hd⟩
/-! items -/
theorem ed_ixT {a : Addr} {i : Nat} {xs : List V} (ha : Ev ta σ H (.ref a)) (hi : Ev tb σ H (.int (i : Int))) (hs : SqT K H a xs) (hd : DpAll K H xs ds) (h : ds[i]? = some d) : EvD K (tOp (rIxT K) ta tb) σ H d := by
  obtain ⟨v, h1, h2⟩ := hd.get h
  exact ed_ev (ev_op ha hi (rv_ixT hs (atI_nat h1))) h2
theorem ed_ixL {a : Addr} {i : Nat} {xs : List V} (ha : Ev ta σ H (.ref a)) (hi : Ev tb σ H (.int (i : Int))) (hs : SqL K H a xs) (hd : DpAll K H xs ds) (h : ds[i]? = some d) : EvD K (tOp (rIxL K) ta tb) σ H d := by
  obtain ⟨v, h1, h2⟩ := hd.get h
  exact ed_ev (ev_op ha hi (rv_ixL hs (atI_nat h1))) h2
/-- d[i] of any reading of a tuple -/
theorem ed_ixTD {i : Nat} (ha : EvD K ta σ H (.tuple ds)) (hi : ∀ H', Ex H H' → Ev tb σ H' (.int (i : Int))) (h : ds[i]? = some d) : EvD K (tOp (rIxT K) ta tb) σ H d := fun H1 e Q q =>
  ha H1 e _ fun v H2 e2 hd => by
    obtain ⟨a, xs, rfl, hs, hx⟩ := dp_tup hd
    obtain ⟨w, h1, h2⟩ := hx.get h
    exact hi H2 (e.trans e2) H2 (Ex.refl H2) _ fun H3 e3 => ⟨a, xs, (i : Int), w, rfl, rfl, ex_t e3 hs, atI_nat h1, q w H3 (e2.trans e3) (h2.ex e3)⟩
theorem ed_ixLD {i : Nat} (ha : EvD K ta σ H (.list ds)) (hi : ∀ H', Ex H H' → Ev tb σ H' (.int (i : Int))) (h : ds[i]? = some d) : EvD K (tOp (rIxL K) ta tb) σ H d := fun H1 e Q q =>
  ha H1 e _ fun v H2 e2 hd => by
    obtain ⟨a, xs, rfl, hs, hx⟩ := dp_lst hd
    obtain ⟨w, h1, h2⟩ := hx.get h
    exact hi H2 (e.trans e2) H2 (Ex.refl H2) _ fun H3 e3 => ⟨a, xs, (i : Int), w, rfl, rfl, ex_l e3 hs, atI_nat h1, q w H3 (e2.trans e3) (h2.ex e3)⟩
theorem ev_cI {i : Nat} : ∀ H', Ex H H' → Ev (tC (.int (i : Int))) σ H' (.int (i : Int)) := fun _ _ => ev_c
/-- == of data -/
theorem ev_eqD (ha : EvD K ta σ H d1) (hb : EvD K tb σ H d2) (s1 : SeqAt.shaped d1 = true) (s2 : SeqAt.shaped d2 = true) : Ev (tOp (rEqD K) ta tb) σ H (.bl (PyData.eqv d1 d2)) := fun H1 e Q q =>
  ha H1 e _ fun v H2 e2 h1 => hb H2 (e.trans e2) _ fun w H3 e3 h2 => ⟨d1, d2, h1.ex e3, h2, s1, s2, q H3 (e2.trans e3)⟩
theorem ev_neD (ha : EvD K ta σ H d1) (hb : EvD K tb σ H d2) (s1 : SeqAt.shaped d1 = true) (s2 : SeqAt.shaped d2 = true) : Ev (tOp (rNeD K) ta tb) σ H (.bl (!PyData.eqv d1 d2)) := fun H1 e Q q =>
  ha H1 e _ fun v H2 e2 h1 => hb H2 (e.trans e2) _ fun w H3 e3 h2 => ⟨d1, d2, h1.ex e3, h2, s1, s2, q H3 (e2.trans e3)⟩
/-- a chain of int comparisons -/
theorem ev_chainI {p q : Int → Int → Bool} {tc : TE} {a b c : Int} (ha : Ev ta σ H (.int a)) (hb : Ev tb σ H (.int b)) (hc : Ev tc σ H (.int c)) :
    Ev (tChain (rI0 fun i j => .bl (p i j)) (rI0 fun i j => .bl (q i j)) ta tb tc) σ H (.bl (p a b && q b c)) := fun H1 e Q k =>
  ha H1 e _ fun H2 e2 => hb H2 (e.trans e2) _ fun H3 e3 => ⟨a, b, rfl, rfl, p a b, rfl, by
    cases h : p a b with
    | true =>
      rw [h] at k
      exact hc H3 ((e.trans e2).trans e3) _ fun H4 e4 => ⟨b, c, rfl, rfl, k H4 ((e2.trans e3).trans e4)⟩
    | false =>
      rw [h] at k
      exact k H3 (e2.trans e3)⟩
/-! statements -/
theorem s_retD (h : EvD K te σ H d) (k : ∀ v H1, Ex H H1 → Dp K H1 v d → D.rt v H1) : tRet te D σ H := h H (Ex.refl H) _ k
theorem s_asgD {i : Nat} (h : EvD K te σ H d) (k : ∀ v H1, Ex H H1 → Dp K H1 v d → D.nx (σ.set i (some v)) H1) : tAsg te (gName i) D σ H := h H (Ex.refl H) _ k
theorem q_asgD {i : Nat} (h : EvD K te σ H d) (k : ∀ v H1, Ex H H1 → Dp K H1 v d → tz D (σ.set i (some v)) H1) : tSeq (tAsg te (gName i)) tz D σ H := s_asgD (D := { D with nx := tz D }) h k
theorem s_asgLD {i : Nat} (h : EvLD K te σ H ds) (k : ∀ p xs H1, H p = none → Ex H H1 → H1 p = some (.lst xs) → DpAll K H1 xs ds → D.nx (σ.set i (some (.ref p))) H1) : tAsg te (gName i) D σ H := h H (Ex.refl H) _ k
theorem q_asgLD {i : Nat} (h : EvLD K te σ H ds) (k : ∀ p xs H1, H p = none → Ex H H1 → H1 p = some (.lst xs) → DpAll K H1 xs ds → tz D (σ.set i (some (.ref p))) H1) : tSeq (tAsg te (gName i)) tz D σ H := s_asgLD (D := { D with nx := tz D }) h k
theorem s_dropD (h : EvD K te σ H d) (k : ∀ v H1, Ex H H1 → Dp K H1 v d → D.nx σ H1) : tDrop te D σ H := h H (Ex.refl H) _ k
theorem q_dropD (h : EvD K te σ H d) (k : ∀ v H1, Ex H H1 → Dp K H1 v d → tz D σ H1) : tSeq (tDrop te) tz D σ H := s_dropD (D := { D with nx := tz D }) h k
/-- xs.append(e) of data -/
theorem s_appD {l : Addr} {xs : List V} (hl : H l = some (.lst xs)) (ha : Ev ta σ H (.ref l)) (h : EvD K te σ H d) (hz : xs.length < 100000) (k : ∀ v H1, Ex H H1 → Dp K H1 v d → D.nx σ (upd H1 l (.lst (xs ++ [v])))) :
    tDrop (tBM K "list" rAppend ta (tCons te tNil)) D σ H := ha H (Ex.refl H) _ fun H1 e1 =>
  ⟨Or.inl ⟨rfl, xs, sq_of (e1 l _ hl)⟩, h H1 e1 _ fun v H2 e2 hd => ⟨l, xs, v, rfl, rfl, e2 l _ (e1 l _ hl), sz_lt hz, k v H2 (e1.trans e2) hd⟩⟩
theorem q_appD {l : Addr} {xs : List V} (hl : H l = some (.lst xs)) (ha : Ev ta σ H (.ref l)) (h : EvD K te σ H d) (hz : xs.length < 100000) (k : ∀ v H1, Ex H H1 → Dp K H1 v d → tz D σ (upd H1 l (.lst (xs ++ [v])))) :
    tSeq (tDrop (tBM K "list" rAppend ta (tCons te tNil))) tz D σ H := s_appD (D := { D with nx := tz D }) hl ha h hz k
/-! isinstance -/
def tyN : PyData → String
  | .none => "NoneType"
  | .bool _ => "bool"
  | .int _ => "int"
  | .str _ => "str"
  | .list _ => "list"
  | .tuple _ => "tuple"
  | .dict _ => "dict"
theorem tyX_l {a : Addr} {xs : List V} (h : SqL K H a xs) : TyX K H (.ref a) (.type "list") := by
  rcases h with (h | ⟨o, h⟩) | ⟨o, its, n, h1, h2, _⟩
  · exact .base (.lst h)
  · exact .base (.frz h)
  · exact .kList h1 h2
theorem tyX_t {a : Addr} {xs : List V} (h : SqT K H a xs) : TyX K H (.ref a) (.type "tuple") := by
  rcases h with (h | ⟨o, h⟩) | ⟨o, its, n, h1, h2, _⟩
  · exact .base (.tup h)
  · exact .fTuple h
  · exact .kTuple h1 h2
theorem dp_ty {v : V} {d : PyData} (h : Dp K H v d) : TyX K H v (.type (tyN d)) := by
  cases h with
  | non => exact .base .non
  | bl b => exact .base (.bl b)
  | int i => exact .base (.int i)
  | str x => exact .base (.str x)
  | lst hs _ => exact tyX_l hs
  | tup hs _ => exact tyX_t hs
/-- isinstance of data and a built-in class -/
def isD (d : PyData) (T : String) : Bool := (kitB (tyN d) T).getD false
theorem ev_isi {T : String} (h : EvD K ta σ H d) (hT : Ev tb σ H (.ty T)) (hk : (kitB (tyN d) T).isSome = true) : Ev (tCB (rIsi K) (tCons ta (tCons tb tNil))) σ H (.bl (isD d T)) := fun H1 e Q q =>
  h H1 e _ fun v H2 e2 hd => hT H2 (e.trans e2) _ fun H3 e3 => ⟨v, .ty T, .type (tyN d), .type T, isD d T, rfl, .ty T, dp_ty (hd.ex e3), by
    obtain ⟨b, hb⟩ := Option.isSome_iff_exists.mp hk
    unfold isD
    rw [hb]
    exact kit_ty hb, q H3 (e2.trans e3)⟩
theorem kitAll : ∀ a ∈ ["NoneType", "bool", "int", "str", "list", "tuple", "dict"], ∀ T ∈ ["int", "bool", "str", "tuple"], kitB a T = some (a == T || (a == "bool" && T == "int")) := by decide +kernel
theorem tyN_mem (d : PyData) : tyN d ∈ ["NoneType", "bool", "int", "str", "list", "tuple", "dict"] := by
  cases d <;> simp [tyN]
theorem kitD (d : PyData) {T : String} (hT : T ∈ ["int", "bool", "str", "tuple"]) : kitB (tyN d) T = some (tyN d == T || (tyN d == "bool" && T == "int")) := kitAll _ (tyN_mem d) _ hT
theorem isD_of (d : PyData) {T : String} (hT : T ∈ ["int", "bool", "str", "tuple"]) : isD d T = (tyN d == T || (tyN d == "bool" && T == "int")) := by
  unfold isD
  rw [kitD d hT]
  rfl
theorem kit_int (d : PyData) : (kitB (tyN d) "int").isSome = true := by rw [kitD d (by decide)]; rfl
theorem kit_bool (d : PyData) : (kitB (tyN d) "bool").isSome = true := by rw [kitD d (by decide)]; rfl
theorem kit_str (d : PyData) : (kitB (tyN d) "str").isSome = true := by rw [kitD d (by decide)]; rfl
theorem kit_tup (d : PyData) : (kitB (tyN d) "tuple").isSome = true := by rw [kitD d (by decide)]; rfl
def isStrD : PyData → Bool
  | .str _ => true
  | _ => false
def isTupD : PyData → Bool
  | .tuple _ => true
  | _ => false
def isIntD : PyData → Bool
  | .int _ => true
  | _ => false
theorem isD_str (d : PyData) : isD d "str" = isStrD d := by rw [isD_of d (by decide)]; cases d <;> simp [tyN, isStrD]
theorem isD_tup (d : PyData) : isD d "tuple" = isTupD d := by rw [isD_of d (by decide)]; cases d <;> simp [tyN, isTupD]
theorem isD_intb (d : PyData) : (isD d "int" && !isD d "bool") = isIntD d := by rw [isD_of d (by decide), isD_of d (by decide)]; cases d <;> simp [tyN, isIntD]
theorem ev_isS (h : EvD K ta σ H d) : Ev (tCB (rIsi K) (tCons ta (tCons (tC (.ty "str")) tNil))) σ H (.bl (isStrD d)) := by
  have q := ev_isi h (ev_c (σ := σ) (H := H) (v := .ty "str")) (kit_str d)
  rw [isD_str] at q
  exact q
theorem ev_isTp (h : EvD K ta σ H d) : Ev (tCB (rIsi K) (tCons ta (tCons (tC (.ty "tuple")) tNil))) σ H (.bl (isTupD d)) := by
  have q := ev_isi h (ev_c (σ := σ) (H := H) (v := .ty "tuple")) (kit_tup d)
  rw [isD_tup] at q
  exact q
/-- len of data -/
theorem ev_lenT {a : Addr} {xs : List V} (ha : Ev ta σ H (.ref a)) (h : SqT K H a xs) : Ev (tCB (rLenS K) (tCons ta tNil)) σ H (.int (xs.length : Int)) := fun H1 e Q q =>
  ha H1 e _ fun H2 e2 => ⟨a, xs, rfl, Or.inr (ex_t (e.trans e2) h), q H2 e2⟩
theorem ev_lenTD (ha : EvD K ta σ H (.tuple ds)) : Ev (tCB (rLenS K) (tCons ta tNil)) σ H (.int (ds.length : Int)) := fun H1 e Q q =>
  ha H1 e _ fun v H2 e2 hd => by
    obtain ⟨a, xs, rfl, hs, hx⟩ := dp_tup hd
    refine ⟨a, xs, rfl, Or.inr hs, ?_⟩
    rw [hx.len]
    exact q H2 e2
theorem ev_lenLD (ha : EvD K ta σ H (.list ds)) : Ev (tCB (rLenS K) (tCons ta tNil)) σ H (.int (ds.length : Int)) := fun H1 e Q q =>
  ha H1 e _ fun v H2 e2 hd => by
    obtain ⟨a, xs, rfl, hs, hx⟩ := dp_lst hd
    refine ⟨a, xs, rfl, Or.inl hs, ?_⟩
    rw [hx.len]
    exact q H2 e2
end
/-! ### data that never change: no list within -/
mutual
def immD : PyData → Bool
  | .list _ => false
  | .dict _ => false
  | .tuple ds => immAll ds
  | _ => true
def immAll : List PyData → Bool
  | [] => true
  | d :: ds => immD d && immAll ds
end
theorem immAll_iff : ∀ {ds : List PyData}, immAll ds = true ↔ ∀ d ∈ ds, immD d = true
  | [] => by simp [immAll]
  | d :: ds => by rw [immAll, Bool.and_eq_true, immAll_iff]; simp
theorem immAll_app {ds es : List PyData} (h : immAll ds = true) (k : immAll es = true) : immAll (ds ++ es) = true := by
  rw [immAll_iff] at h k ⊢
  intro d hd
  rcases List.mem_append.mp hd with hd | hd
  · exact h d hd
  · exact k d hd
theorem immAll_map {α : Type} {f : α → PyData} (h : ∀ a, immD (f a) = true) (l : List α) : immAll (l.map f) = true := by
  rw [immAll_iff]
  intro d hd
  obtain ⟨a, _, rfl⟩ := List.mem_map.mp hd
  exact h a
/-- tuples stand as they stood -/
def Tx (H H' : Hp) : Prop := ∀ a xs, Rd H a (.tup xs) → Rd H' a (.tup xs)
section
variable {K : PySem.W.Frag} {H H' : Hp}
theorem Tx.refl (H : Hp) : Tx H H := fun _ _ h => h
theorem Tx.trans {H2 : Hp} (a : Tx H H') (b : Tx H' H2) : Tx H H2 := fun x o h => b x o (a x o h)
theorem Tx.of (e : Ex H H') : Tx H H' := fun _ _ h => ex_rd e h
theorem Tx.chg {a : Addr} {o u : HO} (h : H a = some o) (hu : ∀ xs, o ≠ .tup xs) (hf : ∀ p xs, o ≠ .frz p (.tup xs)) : Tx H (upd H a u) := fun b xs r => by
  rcases r with r | ⟨p, r⟩
  · have hb : b ≠ a := fun z => by
      rw [z, h] at r
      exact hu xs (Option.some.inj r)
    exact .inl ((upd_ne hb).trans r)
  · have hb : b ≠ a := fun z => by
      rw [z, h] at r
      exact hf p xs (Option.some.inj r)
    exact .inr ⟨p, (upd_ne hb).trans r⟩
theorem Tx.lst {a : Addr} {xs : List V} {u : HO} (h : H a = some (.lst xs)) : Tx H (upd H a u) := Tx.chg h (fun _ z => by cases z) (fun _ _ z => by cases z)
theorem Tx.ins {a C dx : Addr} {fs : List (Str × V)} {u : HO} (h : H a = some (.ins C dx fs)) : Tx H (upd H a u) := Tx.chg h (fun _ z => by cases z) (fun _ _ z => by cases z)
theorem tx_t {a : Addr} {xs : List V} (e : Tx H H') (h : SqT K H a xs) : SqT K H' a xs := by
  rcases h with h | h
  · exact Or.inl (e _ _ h)
  · exact Or.inr h
mutual
theorem dp_tx (e : Tx H H') : ∀ (d : PyData) (v : V), immD d = true → Dp K H v d → Dp K H' v d
  | .none, _, _, h => by cases h; exact .non
  | .bool b, _, _, h => by cases h; exact .bl b
  | .int i, _, _, h => by cases h; exact .int i
  | .str x, _, _, h => by cases h; exact .str x
  | .list ds, _, i, _ => by simp [immD] at i
  | .tuple ds, _, i, h => by
    rw [immD] at i
    cases h with
    | tup hs ha => exact .tup (tx_t e hs) (dpAll_tx e ds _ i ha)
  | .dict _, _, i, _ => by simp [immD] at i
theorem dpAll_tx (e : Tx H H') : ∀ (ds : List PyData) (vs : List V), immAll ds = true → DpAll K H vs ds → DpAll K H' vs ds
  | [], _, _, h => by cases h; exact .nil
  | d :: ds, _, i, h => by
    rw [immAll, Bool.and_eq_true] at i
    cases h with
    | cons h1 h2 => exact .cons (dp_tx e d _ i.1 h1) (dpAll_tx e ds _ i.2 h2)
end
theorem _root_.L2.Dp.tx {v : V} {d : PyData} (h : Dp K H v d) (i : immD d = true) (e : Tx H H') : Dp K H' v d := dp_tx e d v i h
theorem _root_.L2.DpAll.tx {vs : List V} {ds : List PyData} (h : DpAll K H vs ds) (i : immAll ds = true) (e : Tx H H') : DpAll K H' vs ds := dpAll_tx e ds vs i h
end
/-! ### comprehensions over any walk -/
def givenD (n : Nat) (f : Nat → Bool) (d : Nat → PyData) : List PyData := ((List.range n).filter f).map d
theorem givenD_yes {n : Nat} {f : Nat → Bool} {v : Nat → PyData} (h : f n = true) : givenD (n + 1) f v = givenD n f v ++ [v n] := by
  unfold givenD
  rw [List.range_succ, List.filter_append, List.map_append, List.filter_cons, if_pos h] <;> rfl
theorem givenD_no {n : Nat} {f : Nat → Bool} {v : Nat → PyData} (h : f n = false) : givenD (n + 1) f v = givenD n f v := by
  unfold givenD
  rw [List.range_succ, List.filter_append, List.map_append, List.filter_cons, if_neg (by rw [h]; decide)]
  show _ ++ [] = _
  rw [List.append_nil]
theorem givenD_len (n : Nat) (f : Nat → Bool) (v : Nat → PyData) : (givenD n f v).length ≤ n := by
  unfold givenD
  rw [List.length_map]
  have h := List.length_filter_le f (List.range n)
  rw [List.length_range] at h
  exact h
/-- no test: an element a turn -/
theorem givenD_all {α : Type} (l : List α) (g : α → PyData) (d : Nat → PyData) (h : ∀ i a, l[i]? = some a → d i = g a) : givenD l.length (fun _ => true) d = l.map g := by
  apply List.ext_getElem?
  intro i
  have e : givenD l.length (fun _ => true) d = (List.range l.length).map d := by
    unfold givenD
    rw [List.filter_eq_self.mpr (fun _ _ => rfl)]
  rw [e, List.getElem?_map, List.getElem?_map]
  by_cases hi : i < l.length
  · rw [List.getElem?_range hi, List.getElem?_eq_getElem hi]
    simp [h i l[i] (List.getElem?_eq_getElem hi)]
    try rfl
  · rw [List.getElem?_eq_none (by simpa using hi), List.getElem?_eq_none (by omega)]
    rfl
section
variable {K : PySem.W.Frag} {σ : L2.St} {H H1 : Hp} {te tl : TE} {t : TT} {J : It} {n j : Nat} {G : Hp → Prop} {Yv : Nat → V → Prop} {vs : List Nat}
def CwD (K : PySem.W.Frag) (H : Hp) (f : Nat → Bool) (d : Nat → PyData) (Dl : Addr) (i : Nat) (H' : Hp) : Prop := H Dl = none ∧ Ex H H' ∧ ∃ xs, H' Dl = some (.lst xs) ∧ DpAll K H' xs (givenD i f d)
theorem lcD_core (w : Walk J n G (fun i H x H' => H' = H ∧ Yv i x)) (hG : ∀ H', Ex H1 H' → G H') (hn : n ≤ 40000) (f : Nat → Bool) (d : Nat → PyData) (hi : ∀ i, immD (d i) = true) (hw : ∀ x, wipe ((wipe σ vs).set j (some x)) vs = wipe σ vs)
    (ht : ∀ i x, i < n → Yv i x → EvT t ((wipe σ vs).set j (some x)) H1 (f i)) (he : ∀ i x, i < n → Yv i x → f i = true → EvD K te ((wipe σ vs).set j (some x)) H1 (d i)) {Dl : Addr} (hD : H1 Dl = none) {Qd : Hp → Prop}
    (hq : ∀ xs H2, Ex H1 H2 → H2 Dl = some (.lst xs) → DpAll K H2 xs (givenD n f d) → Qd H2) :
    ∃ W : Nat → Nat → Hp → Prop, (∃ m, W 0 m (upd H1 Dl (.lst []))) ∧ ∀ i m H, W i m H →
      (J.stop i H ∧ Qd H) ∨ (J.go i H ∧ ∃ Nx : Hp → Prop, (∀ H', Nx H' → ∃ m', m' < m ∧ W (i + 1) m' H') ∧ ∀ x H', J.yld i H x H' → gName j x (wipe σ vs) H' fun σ2 H2 => wipe σ2 vs = wipe σ vs ∧ t σ2 H2 fun b H3 =>
        if b = true then te σ2 H3 fun y H4 => ∃ acc, H4 Dl = some (.lst acc) ∧ acc.length < sizeLine ∧ Nx (upd H4 Dl (.lst (acc ++ [y]))) else Nx H3) := by
  have imm : ∀ i, immAll (givenD i f d) = true := fun i => immAll_map hi _
  refine lc_it w (g := gName j) (CwD K H1 f d Dl) ⟨hD, Ex.new hD, [], upd_same, .nil⟩ (fun i H' _ p => hG H' p.2.1) (fun i x H2 H3 hi2 p y => ?_) (fun H' p => ?_)
  · obtain ⟨rfl, hy⟩ := y
    obtain ⟨p1, p2, xs, p3, p4⟩ := p
    refine ⟨hw x, ht i x hi2 hy _ p2 _ fun H4 e4 => ?_⟩
    cases hf : f i with
    | true =>
      show te _ H4 _
      refine he i x hi2 hy hf H4 (p2.trans e4) _ fun v H5 e5 hv => ⟨xs, e5 _ _ (e4 _ _ p3), sz_lt ?_, p1, Ex.mut ((p2.trans e4).trans e5) p1, xs ++ [v], upd_same, ?_⟩
      · have h1 := givenD_len i f d
        have h2 := p4.len
        omega
      · rw [givenD_yes hf]
        have tx : Tx H5 (upd H5 Dl (.lst (xs ++ [v]))) := Tx.lst (e5 _ _ (e4 _ _ p3))
        exact (((p4.ex e4).ex e5).tx (imm i) tx).app (.cons (hv.tx (hi i) tx) .nil)
    | false =>
      show CwD K H1 f d Dl (i + 1) H4
      refine ⟨p1, p2.trans e4, xs, e4 _ _ p3, ?_⟩
      rw [givenD_no hf]
      exact p4.ex e4
  · obtain ⟨p1, p2, xs, p3, p4⟩ := p
    exact hq xs H' p2 p3 p4
/-- over a list -/
theorem eld_lcL {xs : List V} (f : Nat → Bool) (d : Nat → PyData) (hi : ∀ i, immD (d i) = true) {a : Addr} (h : Ev tl σ H (.ref a)) (hx : SqL K H a xs) (hz : xs.length ≤ 40000) (hw : ∀ x, wipe ((wipe σ vs).set j (some x)) vs = wipe σ vs)
    (ht : ∀ i x H1, Ex H H1 → xs[i]? = some x → EvT t ((wipe σ vs).set j (some x)) H1 (f i)) (he : ∀ i x H1, Ex H H1 → xs[i]? = some x → f i = true → EvD K te ((wipe σ vs).set j (some x)) H1 (d i)) :
    EvLD K (tLc (iList K tl) (gName j) t te vs) σ H (givenD xs.length f d) := fun H0 e Q q => h H0 e _ fun H1 e1 => ⟨a, rfl, ⟨xs, ex_l (e.trans e1) hx⟩, fun Dl hD =>
  lcD_core (Yv := fun i x => xs[i]? = some x) walk_list (fun H' e2 => ex_l ((e.trans e1).trans e2) hx) hz f d hi hw (fun i x _ y => ht i x H1 (e.trans e1) y) (fun i x _ y => he i x H1 (e.trans e1) y) hD fun ys H2 e2 h2 hd => q Dl ys H2 (fresh_back e1 hD) (e1.trans e2) h2 hd⟩
/-- over a tuple -/
theorem eld_lcT {xs : List V} (f : Nat → Bool) (d : Nat → PyData) (hi : ∀ i, immD (d i) = true) {a : Addr} (h : Ev tl σ H (.ref a)) (hx : SqT K H a xs) (hz : xs.length ≤ 40000) (hw : ∀ x, wipe ((wipe σ vs).set j (some x)) vs = wipe σ vs)
    (ht : ∀ i x H1, Ex H H1 → xs[i]? = some x → EvT t ((wipe σ vs).set j (some x)) H1 (f i)) (he : ∀ i x H1, Ex H H1 → xs[i]? = some x → f i = true → EvD K te ((wipe σ vs).set j (some x)) H1 (d i)) :
    EvLD K (tLc (iTup K tl) (gName j) t te vs) σ H (givenD xs.length f d) := fun H0 e Q q => h H0 e _ fun H1 e1 => ⟨a, rfl, ⟨xs, ex_t (e.trans e1) hx⟩, fun Dl hD =>
  lcD_core (Yv := fun i x => xs[i]? = some x) walk_tup (fun H' e2 => ex_t ((e.trans e1).trans e2) hx) hz f d hi hw (fun i x _ y => ht i x H1 (e.trans e1) y) (fun i x _ y => he i x H1 (e.trans e1) y) hD fun ys H2 e2 h2 hd => q Dl ys H2 (fresh_back e1 hD) (e1.trans e2) h2 hd⟩
/-- over a text -/
theorem eld_lcS {z : Str} (f : Nat → Bool) (d : Nat → PyData) (hi : ∀ i, immD (d i) = true) (h : Ev tl σ H (.str z)) (hz : z.cps.size ≤ 40000) (hw : ∀ x, wipe ((wipe σ vs).set j (some x)) vs = wipe σ vs)
    (ht : ∀ i c H1, Ex H H1 → z.cps[i]? = some c → EvT t ((wipe σ vs).set j (some (.str ⟨#[c]⟩))) H1 (f i)) (he : ∀ i c H1, Ex H H1 → z.cps[i]? = some c → f i = true → EvD K te ((wipe σ vs).set j (some (.str ⟨#[c]⟩))) H1 (d i)) :
    EvLD K (tLc (iStr tl) (gName j) t te vs) σ H (givenD z.cps.size f d) := fun H0 e Q q => h H0 e _ fun H1 e1 => ⟨z, rfl, fun Dl hD =>
  lcD_core (Yv := fun i v => ∃ c, z.cps[i]? = some c ∧ v = .str ⟨#[c]⟩) walk_str (fun H' e2 => True.intro) hz f d hi hw (fun i x _ ⟨c, y, z⟩ => by rw [z]; exact ht i c H1 (e.trans e1) y) (fun i x _ ⟨c, y, z⟩ => by rw [z]; exact he i c H1 (e.trans e1) y) hD
    fun ys H2 e2 h2 hd => q Dl ys H2 (fresh_back e1 hD) (e1.trans e2) h2 hd⟩
theorem et_yes : EvT tYes σ H true := fun H1 _ _ q => q H1 (Ex.refl H1)
/-- all(..) of a new list of truth values -/
theorem dpAll_bools_of {H : Hp} : ∀ {bs : List Bool} {vs : List V}, DpAll K H vs (bs.map PyData.bool) → vs = bs.map V.bl
  | [], _, h => by cases h; rfl
  | x :: xs, _, h => by
    cases h with
    | cons a t => rw [dp_bool a, dpAll_bools_of t]; rfl
theorem ev_all {bs : List Bool} (h : EvLD K te σ H (bs.map PyData.bool)) : Ev (tCB (rAll K) (tCons te tNil)) σ H (.bl (bs.all id)) := fun H1 e Q q =>
  h H1 e _ fun p xs H2 _ e2 hp hs => by
    rw [dpAll_bools_of hs] at hp
    exact ⟨p, bs, rfl, SqL.of hp, q H2 e2⟩
end
section
variable {K : PySem.W.Frag} {σ : L2.St} {H : Hp} {te tl : TE} {j : Nat} {vs : List Nat}
theorem givenD_trues : ∀ n : Nat, givenD n (fun _ => true) (fun _ => .bool true) = (List.replicate n true).map PyData.bool := fun n => by
  have h := givenD_all (List.replicate n true) PyData.bool (fun _ => .bool true) fun i a e => by
    obtain ⟨_, h⟩ := List.mem_replicate.mp (List.mem_of_getElem? e)
    rw [h]
  rw [List.length_replicate] at h
  exact h
theorem all_trues (n : Nat) : (List.replicate n true).all id = true := List.all_eq_true.mpr fun x h => by
  obtain ⟨_, h⟩ := List.mem_replicate.mp h
  exact h
/-- all([e for x in t]), all true -/
theorem ev_allT {xs : List V} {a : Addr} (h : Ev tl σ H (.ref a)) (hx : SqT K H a xs) (hz : xs.length ≤ 40000) (hw : ∀ x, wipe ((wipe σ vs).set j (some x)) vs = wipe σ vs)
    (he : ∀ (i : Nat) (x : V) (H1 : Hp), Ex H H1 → xs[i]? = some x → EvD K te ((wipe σ vs).set j (some x)) H1 (.bool true)) : Ev (tCB (rAll K) (tCons (tLc (iTup K tl) (gName j) tYes te vs) tNil)) σ H (.bl true) := by
  have h1 := eld_lcT (K := K) (te := te) (t := tYes) (fun _ => true) (fun _ => .bool true) (fun _ => rfl) h hx hz hw (fun i x H1 _ _ => et_yes) (fun i x H1 e1 e2 _ => he i x H1 e1 e2)
  rw [givenD_trues] at h1
  have h2 := ev_all h1
  rw [all_trues] at h2
  exact h2
theorem ev_allS {z : Str} (h : Ev tl σ H (.str z)) (hz : z.cps.size ≤ 40000) (hw : ∀ x, wipe ((wipe σ vs).set j (some x)) vs = wipe σ vs)
    (he : ∀ (i c : Nat) (H1 : Hp), Ex H H1 → z.cps[i]? = some c → EvD K te ((wipe σ vs).set j (some (.str ⟨#[c]⟩))) H1 (.bool true)) : Ev (tCB (rAll K) (tCons (tLc (iStr tl) (gName j) tYes te vs) tNil)) σ H (.bl true) := by
  have h1 := eld_lcS (K := K) (te := te) (t := tYes) (fun _ => true) (fun _ => .bool true) (fun _ => rfl) h hz hw (fun i x H1 _ _ => et_yes) (fun i x H1 e1 e2 _ => he i x H1 e1 e2)
  rw [givenD_trues] at h1
  have h2 := ev_all h1
  rw [all_trues] at h2
  exact h2
/-- all([e for x in t]) of a reading of a tuple of data, all true -/
theorem ev_allTD {ds : List PyData} (h : EvD K tl σ H (.tuple ds)) (hz : ds.length ≤ 40000) (hw : ∀ x, wipe ((wipe σ vs).set j (some x)) vs = wipe σ vs)
    (he : ∀ d ∈ ds, ∀ x H1, Ex H H1 → Dp K H1 x d → EvD K te ((wipe σ vs).set j (some x)) H1 (.bool true)) : Ev (tCB (rAll K) (tCons (tLc (iTup K tl) (gName j) tYes te vs) tNil)) σ H (.bl true) := fun H0 e0 Q q => h H0 e0 _ fun v H1 e1 hd => by
  obtain ⟨a, xs, rfl, hs, hx⟩ := dp_tup hd
  exact ev_allT (tl := fun σ H Q => Q (.ref a) H) (fun H2 e2 Q q => q H2 (Ex.refl H2)) hs (by rw [hx.len]; exact hz) hw (fun i x H2 e2 hi => by
    obtain ⟨d, h1, h2⟩ := hx.getV hi
    exact he d (List.mem_of_getElem? h1) x H2 ((e0.trans e1).trans e2) (h2.ex e2)) H1 (Ex.refl H1) Q fun H2 e2 => q H2 (e1.trans e2)
/-- a sign within a text -/
theorem ev_inSign {ta tb : TE} {c : Nat} {z : Str} (ha : Ev ta σ H (.str ⟨#[c]⟩)) (hb : Ev tb σ H (.str z)) :
    Ev (tOp (fun x y H Q => ∃ (c : Nat) (z : Str), x = .str ⟨#[c]⟩ ∧ y = .str z ∧ Q (.bl (decide (c ∈ z.cps.toList))) H) ta tb) σ H (.bl (decide (c ∈ z.cps.toList))) := fun H1 e Q q =>
  ha H1 e _ fun H2 e2 => hb H2 (e.trans e2) _ fun H3 e3 => ⟨c, z, rfl, rfl, q H3 (e2.trans e3)⟩
theorem ev_lenS {ta : TE} {z : Str} (ha : Ev ta σ H (.str z)) (hz : z.length ≤ 100000) : Ev (tCB (fun xs H Q => ∃ z : Str, xs = [.str z] ∧ z.length ≤ sizeLine ∧ Q (.int z.length) H) (tCons ta tNil)) σ H (.int (z.length : Int)) := fun H1 e Q q =>
  ha H1 e _ fun H2 e2 => ⟨z, rfl, sz_of hz, q H2 e2⟩
end
section
variable {X : Cx}
/-- a built-in class by its name -/
theorem pe_tyN {x : Str} {T : String} {pos : Pos} (hg : Gl X x) (hm : X.mg x = none) (hv : bootBuiltins x = some (.type T)) (hn : x ≠ "__name__" := by decide) (hd : (x == ("__debug__" : Str)) = false := by decide) : PE X (.Name x pos) (tC (.ty T)) :=
  pe_bltn hg hm hv rfl hn hd
end
end Ed
set_option maxHeartbeats 4000000
namespace K76
open PySem PySem.W PySem.Calls PyProof.Rows L2 Evl Ed
abbrev PR : Program := R.prog
abbrev Kw (w : World) : PySem.W.Frag := K0 w.params
abbrev Ok (w : World) (mg : Str → Option Value) (base : Heap) (CX : CXT) (k : Nat) (f : Addr) (fd : FuncData) (ps : List Str) (sp : Sp) : Prop := FnOk PR w (Kw w) mg base CX k f fd ps sp
theorem dpa0 {K : PySem.W.Frag} {H : Hp} {vs : List V} (h : DpAll K H vs []) : vs = [] := by cases h; rfl
theorem dpa1 {K : PySem.W.Frag} {H : Hp} {vs : List V} {d : PyData} (h : DpAll K H vs [d]) : ∃ v, vs = [v] ∧ Dp K H v d := by
  cases h with
  | cons a t => cases t; exact ⟨_, rfl, a⟩
theorem dpa2 {K : PySem.W.Frag} {H : Hp} {vs : List V} {d e : PyData} (h : DpAll K H vs [d, e]) : ∃ v u, vs = [v, u] ∧ Dp K H v d ∧ Dp K H u e := by
  cases h with
  | cons a t =>
    obtain ⟨u, rfl, hu⟩ := dpa1 t
    exact ⟨_, u, rfl, a, hu⟩
theorem dpa3 {K : PySem.W.Frag} {H : Hp} {vs : List V} {d e f : PyData} (h : DpAll K H vs [d, e, f]) : ∃ v u z, vs = [v, u, z] ∧ Dp K H v d ∧ Dp K H u e ∧ Dp K H z f := by
  cases h with
  | cons a t =>
    obtain ⟨u, z, rfl, hu, hz⟩ := dpa2 t
    exact ⟨_, u, z, rfl, a, hu, hz⟩
section
variable {w : World} {mg : Str → Option Value} {base : Heap}
/-! ### is_integer -/
theorem sc_is_integer : FnScope ["value"] ["value"] (defScope s_is_integer) := ⟨rfl, rfl, rfl, by decide +kernel, rfl, by decide +kernel, by decide +kernel⟩
def m_is_integer : List PyData → PyData → Prop := fun ds d => ∃ x, ds = [x] ∧ d = .bool (isIntD x)
theorem ok_is_integer (W : Wd w.params mg) : Ok w mg base CX0 1 a_is_integer fd_is_integer ["value"] (spM (Kw w) m_is_integer) := by
  refine (F_is_integer w.params).ok sc_is_integer (fun vs H Q E h => ?_) (fun cdv A outer s H vs Q E hr h => ?_)
  · obtain ⟨ds, d, hd, ⟨x, rfl, rfl⟩, _⟩ := h
    exact hd.len
  · obtain ⟨ds, d, hd, ⟨x, rfl, rfl⟩, k⟩ := h
    obtain ⟨v, rfl, hv⟩ := dpa1 hd
    refine ⟨_, pss_one (ps_ret (pe_and (pe_callB call_isi rfl (n_isinstance W) boot_isinstance (pa_cons (pv 0) (pa_cons (pe_tyN rfl (n_int W) boot_int) pa_nil)))
      (pe_one (pe_not (pe_callB call_isi rfl (n_isinstance W) boot_isinstance (pa_cons (pv 0) (pa_cons (pe_tyN rfl (n_bool W) boot_bool) pa_nil))))))), ?_⟩
    exact s_retD (ed_to (ed_bool (ev_andV (ev_isi (ed_var rfl hv) ev_c (kit_int x)) fun _ => ev_notV (ev_isi (ed_var rfl hv) ev_c (kit_bool x)))) (by rw [isD_intb])) k
/-! ### is_number -/
theorem sc_is_number : FnScope ["value", "least", "most"] ["value", "least", "most"] (defScope s_is_number) := ⟨rfl, rfl, rfl, by decide +kernel, rfl, by decide +kernel, by decide +kernel⟩
def isNum (x : PyData) (lo hi : Int) : Bool := match x with
  | .int i => decide (lo ≤ i) && decide (i ≤ hi)
  | _ => false
def m_is_number : List PyData → PyData → Prop := fun ds d => ∃ x lo hi, ds = [x, .int lo, .int hi] ∧ d = .bool (isNum x lo hi)
theorem ok_is_number (W : Wd w.params mg) : Ok w mg base CX0 2 a_is_number fd_is_number ["value", "least", "most"] (spM (Kw w) m_is_number) := by
  refine (F_is_number w.params).ok sc_is_number (fun vs H Q E h => ?_) (fun cdv A outer s H vs Q E hr h => ?_)
  · obtain ⟨ds, d, hd, ⟨x, lo, hi, rfl, rfl⟩, _⟩ := h
    exact hd.len
  · obtain ⟨ds, d, hd, ⟨x, lo, hi, rfl, rfl⟩, k⟩ := h
    obtain ⟨v, u, z, rfl, hv, hu, hz⟩ := dpa3 hd
    obtain rfl := dp_int hu
    obtain rfl := dp_int hz
    refine ⟨_, pss_one (ps_ret (pe_and (pe_call (ok_is_integer W) hr rfl (g_is_integer W) (F_is_integer _).kp (b_is_integer _) .nil pass0 (pa_cons (pv 0) pa_nil)) (pe_one (pe_chain op_le op_le (pv 1) (pv 0) (pv 2))))), ?_⟩
    refine s_retD (d := .bool (isNum x lo hi)) (ed_to (ed_bool (ev_andV (b := isNum x lo hi) (ev_bool (ed_call (ea_consD (ed_var rfl hv) ea_nilD) ⟨x, rfl, rfl⟩)) fun hx => ?_)) ?_) k
    · cases x with
      | int i =>
        obtain rfl := dp_int hv
        exact ev_chainI (ev_var rfl) (ev_var rfl) (ev_var rfl)
      | _ => cases hx
    · cases x <;> rfl
end
end K76
set_option maxHeartbeats 4000000
/-! EnT: enumerate(tuple). -/
namespace EnT
open PySem
open Sem (wp)
open AutoSeq1 (wpAny_loadPart')
theorem meets_enumerate_newT (l : Addr) (items : Array Value) (n : Nat) (dct : Option Addr) (sl : Array (Option Value)) :
    Meets (Builtin.«enumerate.__new__» ⟨[.type "enumerate", .ref l], []⟩) (fun _ R s => s.heap.get? l = some { cls := .type "tuple", dict := dct, data := .seq items n, slots := sl } ∧
      R (.ok (.ret (.ref (s.heap.push { cls := .type "tuple_iterator", data := .fields #[.ref l, .int 0 0] }).objs.size)))
        { s with heap := (s.heap.push { cls := .type "tuple_iterator", data := .fields #[.ref l, .int 0 0] }).push { cls := .type "enumerate", data := .fields #[.none, .bool false, .ref s.heap.objs.size, rawInt 0, .none, .none] } }) :=
  .of_wp fun prog w A R s h => by
    obtain ⟨hp, g, d, tk, os⟩ := s; obtain ⟨hl, h⟩ := h
    have hsub := sub_enumerate
    have hL : Heap.IsTuple (Shared.heap ⟨hp, g, d, tk, os⟩) l items := ⟨_, hl, rfl, n, rfl⟩
    wp_walk using wpAny_loadPart' hl
    refine wpAny_stack_any fun st => wpAny_pure ?_
    split
    · rename_i c _ _ _ _ _
      cases (c == Value.type "enumerate")
      · wp_walk using wpAny_loadPart' hl, wpAny_pyIter_tuple hL
        exact ⟨_, rfl, h⟩
      · wp_walk using wpAny_loadPart' hl, wpAny_pyIter_tuple hL
        exact ⟨_, rfl, h⟩
    · wp_walk using wpAny_loadPart' hl, wpAny_pyIter_tuple hL
      exact ⟨_, rfl, h⟩
section
variable {prog : Program} {w : World} {A : Around} {E : Value → Shared → Prop} {s : Shared}
theorem call_enumerate_tup {l : Addr} {items : Array Value} {Q : Value → Shared → Prop} (hL : s.heap.IsTuple l items)
    (h : ∀ h', IsEnum h' (s.heap.objs.size + 1) s.heap.objs.size 0 .none → h'.IsTupleIter s.heap.objs.size l 0 → h'.objs.size = s.heap.objs.size + 2 →
      (∀ b o, s.heap.get? b = some o → h'.get? b = some o) → Q (.ref (s.heap.objs.size + 1)) { s with heap := h' }) :
    wpAny (model prog w) A (call (.type "enumerate") [.ref l]) Q E s := by
  obtain ⟨⟨c, dct, dt, sl⟩, hl, hc, n, hd⟩ := hL
  replace hc : c = .type "tuple" := hc
  replace hd : dt = .seq items n := hd
  subst hc hd
  refine callType_new F.called_enumerate (by decide) (F.typeCall_enumerate_1 _) (F.newCall_enumerate_1 _) (fun obj => F.args_object_init_2 obj _) F.entry_enumerate_new
    (meets_enumerate_newT l items n dct sl) ⟨hl, ?_⟩
  have hz : (s.heap.push { cls := .type "tuple_iterator", data := .fields #[.ref l, .int 0 0] }).objs.size = s.heap.objs.size + 1 := Heap.size_push ..
  show _ ∧ _
  rw [hz]
  have he : IsEnum ((s.heap.push { cls := .type "tuple_iterator", data := .fields #[.ref l, .int 0 0] }).push
      { cls := .type "enumerate", data := .fields #[.none, .bool false, .ref s.heap.objs.size, rawInt 0, .none, .none] }) (s.heap.objs.size + 1) s.heap.objs.size 0 .none := by
    have := Heap.get?_push_size (s.heap.push { cls := .type "tuple_iterator", data := .fields #[.ref l, .int 0 0] })
      (o := { cls := .type "enumerate", data := .fields #[.none, .bool false, .ref s.heap.objs.size, rawInt 0, .none, .none] }) rfl
    rw [hz] at this; exact this
  refine ⟨⟨_, he, rfl⟩, h _ he ⟨_, Heap.get?_push_of_some _ (Heap.get?_push_size _ rfl), rfl, rfl⟩ (by rw [Heap.size_push, hz]) fun b o x => Heap.get?_push_of_some _ (Heap.get?_push_of_some _ x)⟩
end
end EnT
namespace L2
open PySem PyProof.Rows
/-- the items of the tuple at a, each in a new pair with its number -/
def Itet (K : PySem.W.Frag) (a : Addr) (n : Nat) : It :=
  ⟨fun i H => i < n ∧ ∃ xs : List V, SqT K H a xs ∧ xs.length = n, fun i H v H' => ∃ T x, v = .ref T ∧ H T = none ∧ H' = upd H T (.tup [.int (i : Nat), x]) ∧ ∀ xs, SqT K H a xs → xs[i]? = some x, fun i H => i = n ∧ ∃ xs : List V, SqT K H a xs ∧ xs.length = n⟩
theorem turn_enumT {P : Program} {w : World} {K : PySem.W.Frag} {elts : List Expr} {kk : Nat} {tpos : Pos} {n : Nat} (a e it : Addr) (hai : a ≠ it) (hae : a ≠ e) :
    Turn P w K (.Tuple elts kk tpos) (Itet K a n) [e, it] e (fun i h => (∃ old, IsEnum h e it ((i : Nat) : Int) old) ∧ h.IsTupleIter it a i ∧ e ≠ it) where
  mem := by simp
  obj := fun i h st b hb => by
    obtain ⟨⟨old, he⟩, ⟨o, ho, hc, hd⟩, _⟩ := st
    have e' : b = e ∨ b = it := by simpa using hb
    rcases e' with z | z
    · rw [z]; exact ⟨_, he, fun v q => nomatch q⟩
    · rw [z]; exact ⟨o, ho, fun v q => by rw [hd] at q; cases q⟩
  keep := fun i h h' st k => let ⟨⟨old, he⟩, hi, hne⟩ := st; ⟨⟨old, k e (by simp) _ he⟩, hi.at fun o q => k it (by simp) o q, hne⟩
  item := by
    intro X hP hw hK hc i pins s σ H E I hf st hg
    subst hP hw hK
    obtain ⟨⟨old, he⟩, hit, hne⟩ := st
    obtain ⟨hin, xs, hq, hxn⟩ := hg
    obtain ⟨its, rv, p, hz⟩ := I.tuple hq
    have hT : s.heap.IsTuple a its.toArray := p
    have hlen := rv.length
    have hel : e < s.heap.objs.size := Heap.lt_size he
    have hil : it < s.heap.objs.size := by obtain ⟨_, q, _⟩ := hit; exact Heap.lt_size q
    refine wpAny_pyNext_enum_itemD (Draws.tuple (show (X.A.in1).handled = none from I.ok.hd hc) it a hai its.toArray) he ⟨hit, hT⟩ (by simp; omega) hne (by simp [hne, Ne.symm hae]) fun u h' tk hu ho hst hT2 hsz hk => ?_
    have hxi : ∃ x, xs[i]? = some x := ⟨_, List.getElem?_eq_getElem (by omega)⟩
    obtain ⟨x, hx⟩ := hxi
    obtain ⟨u', hu', ru⟩ := rv.get hx
    have hu2 : its[i]? = some u := by simpa using hu
    rw [hu2] at hu'
    cases hu'
    refine ⟨_, rfl, wpAny_letOwnedTupleGo_enum (s := { s with heap := h', toks := tk + 1 }) ho fun h'' he' sb => ?_⟩
    have hT3 : h''.get? s.heap.objs.size = some { cls := .type "tuple", data := .seq #[.int i tk, u] } := (sb.2 _ (Nat.ne_of_gt hel)).trans hT2
    have new : ObjOk X.prog X.w (upd H s.heap.objs.size (.tup [.int (i : Nat), x])) h'' s.heap.objs.size (.tup [.int (i : Nat), x]) :=
      ⟨by show 2 ≤ sizeLine; decide, [.int i tk, u], .cons ⟨_, rfl⟩ (.cons ru .nil), ⟨_, hT3, rfl, _, rfl⟩⟩
    have I1 : Inv X pins σ (upd H s.heap.objs.size (.tup [.int (i : Nat), x])) { s with heap := h'', toks := tk + 1 } :=
      I.turnedNew (ch := [e, it]) (fun b ob hb q => (sb.2 b (fun z => hb (by simp [z]))).trans (hk b ob (fun z => hb (by simp [z])) (fun z => hb (by simp [z])) q)) hf (Nat.le_refl _) new
    refine ⟨.ref s.heap.objs.size, _, I1, rfl, ⟨_, x, rfl, I.hok.fresh (Nat.le_refl _), rfl, fun ys hy => by rw [I.tuple_inj hy hq]; exact hx⟩, ⟨⟨u, ?_⟩, hst.1.at fun o q => (sb.2 it (Ne.symm hne)).trans q, hne⟩, fun b hb => ?_⟩
    · have e1 : ((i + 1 : Nat) : Int) = (i : Int) + 1 := by omega
      rw [e1]; exact he'
    · have hb' : b < s.heap.objs.size := by
        have e' : b = e ∨ b = it := by simpa using hb
        rcases e' with z | z
        · rw [z]; exact hel
        · rw [z]; exact hil
      rw [upd_ne (Nat.ne_of_lt hb')]
      exact (hf b hb).1
  done := by
    intro X hP hw hK hc i pins s σ H E I hf st hg
    subst hP hw hK
    obtain ⟨⟨old, he⟩, hit, hne⟩ := st
    obtain ⟨hin, xs, hq, hxn⟩ := hg
    obtain ⟨its, rv, p, hz⟩ := I.tuple hq
    have hT : s.heap.IsTuple a its.toArray := p
    obtain ⟨f0, f1, f2, f3, f4, f5⟩ := hf it (by simp)
    have hl := rv.length
    have hi : i = its.toArray.size := by simp; omega
    subst hi
    exact wpAny_pyNext_enum_endD (Draws.tuple (show (X.A.in1).handled = none from I.ok.hd hc) it a hai its.toArray) he ⟨hit, hT⟩ fun h' eb => ⟨rfl, I.turned (t' := s.toks) (fun b o hb q => eb b o hb q) f0 f1 f3 f4 f5⟩
  self := fun A i s Q E st h => let ⟨⟨_, he⟩, _⟩ := st; wpAny_pyIter_enum he h
def iEnumT (K : PySem.W.Frag) (ta : TA) : TI := fun σ H R => ta σ H fun vs H1 => ∃ a xs, vs = [.ref a] ∧ SqT K H1 a xs ∧ R (Itet K a xs.length) H1
theorem pi_enumT {X : Cx} {e : Expr} {ta : TA} {p pos tpos : Pos} {elts : List Expr} {kk : Nat} (hg : Gl X "enumerate") (hm : X.mg "enumerate" = none) (ha : PA X [e] ta) (hs : starEach [e] X.env = [(false, eval e X.env)] := by rfl) :
    PI X (.Tuple elts kk tpos) (.Call (.Name "enumerate" p) [e] [] pos) (iEnumT X.K ta) := by
  refine ⟨fun pins s σ H R I h => ?_⟩
  refine Call_ (ld_blt I hg hm boot_enumerate (PyProof.Rows.callWith_type1 (thn (ha.run pos pins s σ H _ I h) fun us s1 ⟨vs, H1, I1, r1, q1⟩ => ?_) hs rfl))
  obtain ⟨a, xs, ex, hq, q⟩ := q1
  subst ex
  cases r1 with
  | cons r rr =>
    cases rr
    cases r
    obtain ⟨its, rv, p', hz⟩ := I1.tuple hq
    have hT : s1.heap.IsTuple a its.toArray := p'
    have hal : a < s1.heap.objs.size := by obtain ⟨o, ho, _⟩ := hT; exact Heap.lt_size ho
    refine EnT.call_enumerate_tup hT fun h' he hit hsz hk => wpAny_pyIter_enum he ?_
    have I2 : Inv X pins σ H1 { s1 with heap := h' } := I1.kept (t' := s1.toks) hk
    refine ⟨s1.heap.objs.size + 1, [s1.heap.objs.size + 1, s1.heap.objs.size], _, _, H1, rfl, I2, turn_enumT a (s1.heap.objs.size + 1) s1.heap.objs.size (Nat.ne_of_lt hal) (Nat.ne_of_lt (Nat.lt_succ_of_lt hal)), ⟨⟨.none, he⟩, hit, Nat.succ_ne_self _⟩, fun b hb => ?_, q⟩
    have e' : b = s1.heap.objs.size + 1 ∨ b = s1.heap.objs.size := by simpa using hb
    have hle : s1.heap.objs.size ≤ b := by
      rcases e' with z | z
      · rw [z]; exact Nat.le_add_right _ _
      · rw [z]; exact Nat.le_refl _
    exact I1.fpOk hle (I1.hok.fresh hle)
theorem walk_enumT {K : PySem.W.Frag} {a : Addr} {xs : List V} : Walk (Itet K a xs.length) xs.length (fun H => SqT K H a xs) (YPair (fun i => some (.int (i : Nat))) (fun i => xs[i]?)) := by
  refine ⟨fun i _ hi q => ⟨hi, xs, q, rfl⟩, fun _ q => ⟨rfl, xs, q, rfl⟩, fun i H v H' _ q y => ?_⟩
  obtain ⟨T, x, h1, h2, h3, h4⟩ := y
  exact ⟨T, .int (i : Nat), x, h1, h2, h3, rfl, h4 xs q⟩
end L2
set_option maxHeartbeats 4000000
/-! Ed2: unpacking, loops over tuples of data. -/
namespace Ed
open PySem L2 Evl
section
variable {K : PySem.W.Frag} {σ : L2.St} {H : Hp} {te tl : TE} {v : V} {ts : TGs} {tu tz : TS} {D : Ends} {g : TG} {ds : List PyData} {n j : Nat} {r : List V} {Q : L2.St → Hp → Prop}
theorem q_unpack {i : Nat} {a : Addr} {xs : List V} (hi : σ[i]? = some (some (.ref a))) (hs : SqT K H a xs) (hl : xs.length = n) (k : ts xs σ H (tz D)) : tSeq (tAsg (tVar i) (gTup K n ts)) tz D σ H := ⟨_, hi, a, xs, rfl, hs, hl, k⟩
theorem g_tup {a : Addr} {xs : List V} (hs : SqT K H a xs) (hl : xs.length = n) (k : ts xs σ H Q) : gTup K n ts (.ref a) σ H Q := ⟨a, xs, rfl, hs, hl, k⟩
theorem g_cons (k : ts r (σ.set j (some v)) H Q) : gCons (gName j) ts (v :: r) σ H Q := ⟨v, r, rfl, k⟩
theorem g_nil (k : Q σ H) : gNil [] σ H Q := ⟨rfl, k⟩
/-- a loop over a tuple of data that never change -/
theorem s_forTX (h : EvD K tl σ H (.tuple ds)) (hi : immAll ds = true) (Pv : Nat → L2.St → Hp → Prop) (h0 : ∀ H1, Ex H H1 → Pv 0 σ H1)
    (hs : ∀ H0, Ex H H0 → ∀ (i : Nat) (d : PyData) (x : V) (σ' : L2.St) (H' : Hp), ds[i]? = some d → Tx H0 H' → Dp K H' x d → Pv i σ' H' →
      g x σ' H' fun σ2 H2 => tu { D with nx := fun σ3 H3 => Tx H0 H3 ∧ Pv (i + 1) σ3 H3, ct := fun σ3 H3 => Tx H0 H3 ∧ Pv (i + 1) σ3 H3, bk := D.nx } σ2 H2)
    (hd : ∀ σ' H', Pv ds.length σ' H' → D.nx σ' H') : tFor (iTup K tl) g tu D σ H := h H (Ex.refl H) _ fun v H1 e1 hv => by
  obtain ⟨a, xs, rfl, hq, hx⟩ := dp_tup hv
  refine ⟨a, rfl, ⟨xs, hq⟩, for_tup (fun i σ' H' => Tx H1 H' ∧ Pv i σ' H') ⟨Tx.refl H1, h0 H1 e1⟩ (fun i σ' H' _ p => tx_t p.1 hq) (fun i x σ' H' hx1 p => ?_) fun σ' H' p => hd σ' H' ?_⟩
  · obtain ⟨d, h1, h2⟩ := hx.getV hx1
    exact hs H1 e1 i d x σ' H' h1 p.1 (h2.tx (immAll_iff.mp hi d (List.mem_of_getElem? h1)) p.1) p.2
  · rw [hx.len] at p
    exact p.2
theorem q_forTX (h : EvD K tl σ H (.tuple ds)) (hi : immAll ds = true) (Pv : Nat → L2.St → Hp → Prop) (h0 : ∀ H1, Ex H H1 → Pv 0 σ H1)
    (hs : ∀ H0, Ex H H0 → ∀ (i : Nat) (d : PyData) (x : V) (σ' : L2.St) (H' : Hp), ds[i]? = some d → Tx H0 H' → Dp K H' x d → Pv i σ' H' →
      g x σ' H' fun σ2 H2 => tu { D with nx := fun σ3 H3 => Tx H0 H3 ∧ Pv (i + 1) σ3 H3, ct := fun σ3 H3 => Tx H0 H3 ∧ Pv (i + 1) σ3 H3, bk := tz D } σ2 H2)
    (hd : ∀ σ' H', Pv ds.length σ' H' → tz D σ' H') : tSeq (tFor (iTup K tl) g tu) tz D σ H := s_forTX (D := { D with nx := tz D }) h hi Pv h0 hs hd
/-- for i, x in enumerate(t), t a tuple of data that never change -/
theorem s_forEnX {p q : Nat} (h : EvD K tl σ H (.tuple ds)) (hi : immAll ds = true) (Pv : Nat → L2.St → Hp → Prop) (hm : ∀ i σ' H' H'', Ex H' H'' → Pv i σ' H' → Pv i σ' H'') (h0 : Pv 0 σ H)
    (hs : ∀ H0, Ex H H0 → ∀ (i : Nat) (d : PyData) (x : V) (σ' : L2.St) (H' : Hp), ds[i]? = some d → Tx H0 H' → Dp K H' x d → Pv i σ' H' →
      tu { D with nx := fun σ3 H3 => Tx H0 H3 ∧ Pv (i + 1) σ3 H3, ct := fun σ3 H3 => Tx H0 H3 ∧ Pv (i + 1) σ3 H3, bk := D.nx } ((σ'.set p (some (.int (i : Int)))).set q (some x)) H')
    (hd : ∀ σ' H', Pv ds.length σ' H' → D.nx σ' H') : tFor (iEnumT K (tCons tl tNil)) (gTup K 2 (gCons (gName p) (gCons (gName q) gNil))) tu D σ H := h H (Ex.refl H) _ fun v H1 e1 hv => by
  obtain ⟨a, xs, rfl, hq, hx⟩ := dp_tup hv
  refine ⟨a, xs, rfl, hq, for_it walk_enumT (fun i σ' H' => Tx H1 H' ∧ Pv i σ' H') ⟨Tx.refl H1, hm _ _ _ _ e1 h0⟩ (fun i σ' H' _ p => tx_t p.1 hq) (fun i y σ' H' H'' hlt p yy => ?_) fun σ' H' p => hd σ' H' ?_⟩
  · obtain ⟨T, y1, x, rfl, hT, rfl, h1, h2⟩ := yy
    cases h1
    obtain ⟨d, h3, h4⟩ := hx.getV h2
    have e2 : Ex H' (upd H' T (.tup [.int (i : Int), x])) := Ex.new hT
    refine ⟨T, _, rfl, SqT.of upd_same, rfl, _, _, rfl, _, _, rfl, rfl, ?_⟩
    exact hs H1 e1 i d x σ' _ h3 (p.1.trans (Tx.of e2)) ((h4.tx (immAll_iff.mp hi d (List.mem_of_getElem? h3)) p.1).ex e2) (hm _ _ _ _ e2 p.2)
  · rw [hx.len] at p
    exact p.2
theorem q_forEnX {p q : Nat} (h : EvD K tl σ H (.tuple ds)) (hi : immAll ds = true) (Pv : Nat → L2.St → Hp → Prop) (hm : ∀ i σ' H' H'', Ex H' H'' → Pv i σ' H' → Pv i σ' H'') (h0 : Pv 0 σ H)
    (hs : ∀ H0, Ex H H0 → ∀ (i : Nat) (d : PyData) (x : V) (σ' : L2.St) (H' : Hp), ds[i]? = some d → Tx H0 H' → Dp K H' x d → Pv i σ' H' →
      tu { D with nx := fun σ3 H3 => Tx H0 H3 ∧ Pv (i + 1) σ3 H3, ct := fun σ3 H3 => Tx H0 H3 ∧ Pv (i + 1) σ3 H3, bk := tz D } ((σ'.set p (some (.int (i : Int)))).set q (some x)) H')
    (hd : ∀ σ' H', Pv ds.length σ' H' → tz D σ' H') : tSeq (tFor (iEnumT K (tCons tl tNil)) (gTup K 2 (gCons (gName p) (gCons (gName q) gNil))) tu) tz D σ H := s_forEnX (D := { D with nx := tz D }) h hi Pv hm h0 hs hd
/-- all([e for x in t]), e a truth value by x -/
theorem ev_allF {α : Type} {l : List α} {gD : α → PyData} {vs : List Nat} (f : α → Bool) (h : EvD K tl σ H (.tuple (l.map gD))) (hz : l.length ≤ 40000) (hw : ∀ x, wipe ((wipe σ vs).set j (some x)) vs = wipe σ vs)
    (he : ∀ a ∈ l, ∀ x H1, Ex H H1 → Dp K H1 x (gD a) → EvD K te ((wipe σ vs).set j (some x)) H1 (.bool (f a))) : Ev (tCB (rAll K) (tCons (tLc (iTup K tl) (gName j) tYes te vs) tNil)) σ H (.bl (l.all f)) := fun H0 e0 Q q => h H0 e0 _ fun v H1 e1 hd => by
  obtain ⟨a, xs, rfl, hs, hx⟩ := dp_tup hd
  have hlen : xs.length = l.length := by rw [hx.len, List.length_map]
  have h1 := eld_lcT (K := K) (te := te) (t := tYes) (tl := fun σ H Q => Q (.ref a) H) (σ := σ) (H := H1) (j := j) (vs := vs) (fun _ => true) (fun i => .bool ((l[i]?.map f).getD true)) (fun _ => rfl) (fun H2 e2 Q q => q H2 (Ex.refl H2)) hs (by rw [hlen]; exact hz) hw (fun i x H1 _ _ => et_yes)
    (fun i x H2 e2 hi _ => by
      obtain ⟨d, h3, h4⟩ := hx.getV hi
      rw [List.getElem?_map, Option.map_eq_some_iff] at h3
      obtain ⟨b, hb, rfl⟩ := h3
      rw [hb]
      exact he b (List.mem_of_getElem? hb) x H2 ((e0.trans e1).trans e2) (h4.ex e2))
  have h5 := givenD_all (l.map f) PyData.bool (fun i => .bool ((l[i]?.map f).getD true)) fun i b hb => by
    rw [List.getElem?_map] at hb
    rw [hb] <;> rfl
  rw [List.length_map] at h5
  rw [hlen, h5] at h1
  refine ev_all h1 H1 (Ex.refl H1) Q fun H2 e2 => ?_
  rw [show (l.map f).all id = l.all f by rw [List.all_map] <;> rfl]
  exact q H2 (e1.trans e2)
end
/-! rules with K said (within a comprehension) -/
section
variable {X : Cx} {K : PySem.W.Frag}
theorem ix_tupK (h : X.K = K) : IxR X (rIxT K) := h ▸ ix_tup
theorem ix_listK (h : X.K = K) : IxR X (rIxL K) := h ▸ ix_list
theorem op_in_seqK (h : X.K = K) : OpR X (compareOp .In) (rIn K false) := h ▸ op_in_seq
theorem op_notIn_seqK (h : X.K = K) : OpR X (compareOp .NotIn) (rIn K true) := h ▸ op_notIn_seq
theorem call_len_seqK (h : X.K = K) : CallR X (.builtin "len") (rLenS K) := h ▸ call_len_seq
theorem op_eqDK (h : X.K = K) (hu : X.A.units + 64 < cLine) : OpR X (compareOp .Eq) (rEqD K) := h ▸ op_eqD hu
theorem op_neDK (h : X.K = K) (hu : X.A.units + 64 < cLine) : OpR X (compareOp .NotEq) (rNeD K) := h ▸ op_neD hu
theorem call_isiK (h : X.K = K) : CallR X (.builtin "isinstance") (rIsi K) := h ▸ call_isi
end
end Ed
set_option maxHeartbeats 4000000
/-! Ed3: comprehensions with any target, f-strings, joins, extends. -/
namespace Ed
open PySem L2 Evl
section
variable {K : PySem.W.Frag} {σ : L2.St} {H H1 : Hp} {te tl ta tb : TE} {J : It} {n : Nat} {G : Hp → Prop} {Yv : Nat → V → Prop} {vs : List Nat} {g : TG}
theorem lcG_core (w : Walk J n G (fun i H x H' => H' = H ∧ Yv i x)) (hG : ∀ H', Ex H1 H' → G H') (hn : n ≤ 40000) (d : Nat → PyData) (hi : ∀ i, immD (d i) = true)
    (hb : ∀ i x H', i < n → Yv i x → Ex H1 H' → ∃ σ2, (∀ Q : L2.St → Hp → Prop, Q σ2 H' → g x (wipe σ vs) H' Q) ∧ wipe σ2 vs = wipe σ vs ∧ EvD K te σ2 H' (d i)) {Dl : Addr} (hD : H1 Dl = none) {Qd : Hp → Prop}
    (hq : ∀ xs H2, Ex H1 H2 → H2 Dl = some (.lst xs) → DpAll K H2 xs (givenD n (fun _ => true) d) → Qd H2) :
    ∃ W : Nat → Nat → Hp → Prop, (∃ m, W 0 m (upd H1 Dl (.lst []))) ∧ ∀ i m H, W i m H →
      (J.stop i H ∧ Qd H) ∨ (J.go i H ∧ ∃ Nx : Hp → Prop, (∀ H', Nx H' → ∃ m', m' < m ∧ W (i + 1) m' H') ∧ ∀ x H', J.yld i H x H' → g x (wipe σ vs) H' fun σ2 H2 => wipe σ2 vs = wipe σ vs ∧ tYes σ2 H2 fun b H3 =>
        if b = true then te σ2 H3 fun y H4 => ∃ acc, H4 Dl = some (.lst acc) ∧ acc.length < sizeLine ∧ Nx (upd H4 Dl (.lst (acc ++ [y]))) else Nx H3) := by
  have imm : ∀ i, immAll (givenD i (fun _ => true) d) = true := fun i => immAll_map hi _
  refine lc_it w (g := g) (CwD K H1 (fun _ => true) d Dl) ⟨hD, Ex.new hD, [], upd_same, .nil⟩ (fun i H' _ p => hG H' p.2.1) (fun i x H2 H3 hi2 p y => ?_) (fun H' p => ?_)
  · obtain ⟨rfl, hy⟩ := y
    obtain ⟨p1, p2, xs, p3, p4⟩ := p
    obtain ⟨σ2, hg, hw, he⟩ := hb i x _ hi2 hy p2
    refine hg _ ⟨hw, ?_⟩
    show te σ2 _ _
    refine he _ (Ex.refl _) _ fun v H5 e5 hv => ⟨xs, e5 _ _ p3, sz_lt ?_, p1, Ex.mut (p2.trans e5) p1, xs ++ [v], upd_same, ?_⟩
    · have h1 := givenD_len i (fun _ => true) d
      have h2 := p4.len
      omega
    · rw [givenD_yes rfl]
      have tx : Tx H5 (upd H5 Dl (.lst (xs ++ [v]))) := Tx.lst (e5 _ _ p3)
      exact ((p4.ex e5).tx (imm i) tx).app (.cons (hv.tx (hi i) tx) .nil)
  · obtain ⟨p1, p2, xs, p3, p4⟩ := p
    exact hq xs H' p2 p3 p4
/-- [e for (..) in t], t a tuple of data -/
theorem eld_lcTG {α : Type} {l : List α} {gD eD : α → PyData} (h : EvD K tl σ H (.tuple (l.map gD))) (hz : l.length ≤ 40000) (he : ∀ a, immD (eD a) = true)
    (hb : ∀ a ∈ l, ∀ x H', Ex H H' → Dp K H' x (gD a) → ∃ σ2, (∀ Q : L2.St → Hp → Prop, Q σ2 H' → g x (wipe σ vs) H' Q) ∧ wipe σ2 vs = wipe σ vs ∧ EvD K te σ2 H' (eD a)) : EvLD K (tLc (iTup K tl) g tYes te vs) σ H (l.map eD) := fun H0 e0 Q q => h H0 e0 _ fun v H1 e1 hd => by
  obtain ⟨a, xs, rfl, hs, hx⟩ := dp_tup hd
  have hlen : xs.length = l.length := by rw [hx.len, List.length_map]
  refine ⟨a, rfl, ⟨xs, hs⟩, fun Dl hD => ?_⟩
  have imm : ∀ i : Nat, immD ((l[i]?.map eD).getD .none) = true := fun i => by
    cases l[i]? with
    | none => rfl
    | some b => exact he b
  refine lcG_core (K := K) (te := te) (Yv := fun i x => xs[i]? = some x) walk_tup (fun H' e2 => ex_t e2 hs) (by rw [hlen]; exact hz) (fun i : Nat => (l[i]?.map eD).getD .none) imm (fun i x H' _ hi e2 => ?_) hD fun ys H2 e2 h2 hd2 => q Dl ys H2 (fresh_back e1 hD) (e1.trans e2) h2 ?_
  · obtain ⟨d, h3, h4⟩ := hx.getV hi
    rw [List.getElem?_map, Option.map_eq_some_iff] at h3
    obtain ⟨b, hb1, rfl⟩ := h3
    obtain ⟨σ2, h5, h6, h7⟩ := hb b (List.mem_of_getElem? hb1) x H' ((e0.trans e1).trans e2) (h4.ex e2)
    exact ⟨σ2, h5, h6, by rw [hb1]; exact h7⟩
  · rw [hlen, givenD_all l eD _ fun i b hb1 => by rw [hb1] <;> rfl] at hd2
    exact hd2
/-- .. with one name -/
theorem eld_lcTN {α : Type} {j : Nat} {l : List α} {gD eD : α → PyData} (h : EvD K tl σ H (.tuple (l.map gD))) (hz : l.length ≤ 40000) (he : ∀ a, immD (eD a) = true) (hw : ∀ x, wipe ((wipe σ vs).set j (some x)) vs = wipe σ vs)
    (hb : ∀ a ∈ l, ∀ x H', Ex H H' → Dp K H' x (gD a) → EvD K te ((wipe σ vs).set j (some x)) H' (eD a)) : EvLD K (tLc (iTup K tl) (gName j) tYes te vs) σ H (l.map eD) :=
  eld_lcTG h hz he fun a ha x H' e hx => ⟨_, fun Q q => q, hw x, hb a ha x H' e hx⟩
/-! f-strings -/
inductive EvJ (σ : L2.St) (H : Hp) : List TE → List Str → Prop where
  | nil : EvJ σ H [] []
  | cons {t : TE} {ts : List TE} {y : Str} {ys : List Str} (h : Ev t σ H (.str y)) (r : EvJ σ H ts ys) : EvJ σ H (t :: ts) (y :: ys)
theorem EvJ.mono {H' : Hp} {ts : List TE} {ys : List Str} (e : Ex H H') (h : EvJ σ H ts ys) : EvJ σ H' ts ys := by
  induction h with
  | nil => exact .nil
  | cons h r ih => exact .cons (h.mono e) ih
theorem js_run {ts : List TE} {ys : List Str} (h : EvJ σ H ts ys) : ∀ (acc : Str) (H1 : Hp) (Q : Str → Hp → Prop), Ex H H1 → (∀ k, k ≤ ys.length → ((ys.take k).foldl (· ++ ·) acc).length ≤ 100000) → (∀ H2, Ex H1 H2 → Q (ys.foldl (· ++ ·) acc) H2) → tJs ts acc σ H1 Q := by
  induction h with
  | nil => exact fun acc H1 Q _ _ q => q H1 (Ex.refl H1)
  | @cons t ts y ys h r ih =>
    intro acc H1 Q e hz q
    refine h H1 e _ fun H2 e2 => ⟨y, rfl, sz_of ?_, ih (acc ++ y) H2 Q (e.trans e2) (fun k hk => ?_) fun H3 e3 => q H3 (e2.trans e3)⟩
    · exact hz 1 (by simp)
    · exact hz (k + 1) (by simpa using hk)
theorem str_app_len (a b : Str) : (a ++ b).length = a.length + b.length := by
  show (a.cps ++ b.cps).size = _
  rw [Array.size_append] <;> rfl
theorem fold_str_len : ∀ (ys : List Str) (acc : Str), (ys.foldl (· ++ ·) acc).length = acc.length + (ys.map (·.length)).sum
  | [], acc => rfl
  | y :: ys, acc => by
    rw [List.foldl_cons, fold_str_len ys, str_app_len, List.map_cons, List.sum_cons]
    omega
theorem sum_take_le : ∀ (l : List Nat) (k : Nat), (l.take k).sum ≤ l.sum
  | [], k => by simp
  | x :: l, 0 => by simp
  | x :: l, k + 1 => by
    rw [List.take_succ_cons, List.sum_cons, List.sum_cons]
    have := sum_take_le l k
    omega
def fstr (ys : List Str) : Str := ys.foldl (· ++ ·) Str.empty
theorem fstr_len (ys : List Str) : (fstr ys).length = (ys.map (·.length)).sum := by
  unfold fstr
  rw [fold_str_len]
  exact Nat.zero_add _
theorem ev_joined {ts : List TE} {ys : List Str} (h : EvJ σ H ts ys) (hz : (ys.map (·.length)).sum ≤ 100000) : Ev (fun σ H Q => tJs ts Str.empty σ H fun out H1 => Q (.str out) H1) σ H (.str (fstr ys)) := fun H1 e Q q =>
  js_run h Str.empty H1 _ e (fun k _ => by
    rw [fold_str_len, List.map_take]
    have := sum_take_le (ys.map (·.length)) k
    have e0 : Str.empty.length = 0 := rfl
    omega) fun H2 e2 => q H2 e2
theorem ev_fmtS {y : Str} (h : Ev te σ H (.str y)) (hz : y.length ≤ 100000) : Ev (tFmt te) σ H (.str y) := fun H1 e Q q => h H1 e _ fun H2 e2 => Or.inl ⟨y, rfl, sz_of hz, q H2 e2⟩
theorem ev_fmtI {i : Int} (h : Ev te σ H (.int i)) (hz : i.natAbs.log2 < 1920) : Ev (tFmt te) σ H (.str (toString i)) := fun H1 e Q q => h H1 e _ fun H2 e2 => Or.inr ⟨i, rfl, hz, q H2 e2⟩
/-- sep.join(list of texts) -/
theorem ev_join {a : Str} {ys : List Str} (ha : Ev ta σ H (.str a)) (hl : EvLD K tb σ H (ys.map PyData.str)) (hz : (ys.map (·.length)).sum + ys.length * a.length ≤ 16777216) :
    Ev (tM1 (fun x xs H Q => ∃ a p, ∃ ys : List Str, x = .str a ∧ xs = [.ref p] ∧ (SqL K H p (ys.map V.str) ∨ SqT K H p (ys.map V.str)) ∧ (ys.map (·.length)).sum + ys.length * a.length ≤ 16777216 ∧ Q (.str (Txt.join a ys)) H) ta tb) σ H (.str (Txt.join a ys)) := fun H1 e Q q =>
  ha H1 e _ fun H2 e2 => ⟨⟨a, rfl⟩, hl H2 (e.trans e2) _ fun p xs H3 _ e3 hp hd => by
    rw [dpAll_strs_of hd] at hp
    exact ⟨a, p, ys, rfl, rfl, Or.inl (SqL.of hp), hz, q H3 (e2.trans e3)⟩⟩
theorem ev_joinV {a : Str} {p : Addr} {ys : List Str} (ha : Ev ta σ H (.str a)) (hl : Ev tb σ H (.ref p)) (hs : SqL K H p (ys.map V.str)) (hz : (ys.map (·.length)).sum + ys.length * a.length ≤ 16777216) :
    Ev (tM1 (fun x xs H Q => ∃ a p, ∃ ys : List Str, x = .str a ∧ xs = [.ref p] ∧ (SqL K H p (ys.map V.str) ∨ SqT K H p (ys.map V.str)) ∧ (ys.map (·.length)).sum + ys.length * a.length ≤ 16777216 ∧ Q (.str (Txt.join a ys)) H) ta tb) σ H (.str (Txt.join a ys)) := fun H1 e Q q =>
  ha H1 e _ fun H2 e2 => ⟨⟨a, rfl⟩, hl H2 (e.trans e2) _ fun H3 e3 => ⟨a, p, ys, rfl, rfl, Or.inl (ex_l ((e.trans e2).trans e3) hs), hz, q H3 (e2.trans e3)⟩⟩
/-- xs + ys of new lists -/
theorem eld_cat {ds es : List PyData} (ha : EvLD K ta σ H ds) (hb : EvLD K tb σ H es) (hi : immAll ds = true) (hz : ds.length + es.length ≤ 100000) : EvLD K (tOp rCat ta tb) σ H (ds ++ es) := fun H1 e Q q =>
  ha H1 e _ fun p xs H2 hp e2 h2 hd => hb H2 (e.trans e2) _ fun p' ys H3 hp' e3 h3 hd' => ⟨p, p', xs, ys, rfl, rfl, e3 _ _ h2, h3, sz_of (by rw [hd.len, hd'.len]; exact hz), fun r hr => by
    have e4 := Ex.new (o := .lst (xs ++ ys)) hr
    exact q r (xs ++ ys) _ (fresh_back (e2.trans e3) hr) ((e2.trans e3).trans e4) upd_same (((hd.ex e3).ex e4).app (hd'.ex e4))⟩
/-- a new list has been tracked: anything of it, for statements -/
theorem eld_is {ds es : List PyData} (h : EvLD K te σ H ds) (e : ds = es) : EvLD K te σ H es := e ▸ h
theorem s_extD {l : Addr} {xs : List V} {ds : List PyData} {D : Ends} (hl : H l = some (.lst xs)) (ha : Ev ta σ H (.ref l)) (h : EvLD K te σ H ds) (hz : xs.length + ds.length ≤ 100000) (k : ∀ vs H1, Ex H H1 → DpAll K H1 vs ds → D.nx σ (upd H1 l (.lst (xs ++ vs)))) :
    tDrop (tBM K "list" rExtend ta (tCons te tNil)) D σ H := ha H (Ex.refl H) _ fun H1 e1 =>
  ⟨Or.inl ⟨rfl, xs, sq_of (e1 l _ hl)⟩, h H1 e1 _ fun p ys H2 hp e2 h2 hd => ⟨l, p, xs, ys, rfl, rfl, e2 l _ (e1 l _ hl), h2, sz_of (by rw [hd.len]; exact hz), k ys H2 (e1.trans e2) hd⟩⟩
theorem q_extD {l : Addr} {xs : List V} {ds : List PyData} {D : Ends} {tz : TS} (hl : H l = some (.lst xs)) (ha : Ev ta σ H (.ref l)) (h : EvLD K te σ H ds) (hz : xs.length + ds.length ≤ 100000) (k : ∀ vs H1, Ex H H1 → DpAll K H1 vs ds → tz D σ (upd H1 l (.lst (xs ++ vs)))) :
    tSeq (tDrop (tBM K "list" rExtend ta (tCons te tNil))) tz D σ H := s_extD (D := { D with nx := tz D }) hl ha h hz k
/-- tuple(list) -/
theorem ed_tupleOf {ds : List PyData} (h : EvLD K te σ H ds) : EvD K (tCB (fun xs H Q => ∃ p ys, xs = [.ref p] ∧ ((SqL K H p ys ∧ ∀ l, H l = none → Q (.ref l) (upd H l (.tup ys))) ∨ (SqT K H p ys ∧ Q (.ref p) H))) (tCons te tNil)) σ H (.tuple ds) := fun H1 e Q q =>
  h H1 e _ fun p xs H2 _ e2 h2 hd => ⟨p, xs, rfl, Or.inl ⟨SqL.of h2, fun r hr => q _ _ (e2.trans (Ex.new hr)) (.tup (SqT.of upd_same) (hd.ex (Ex.new hr)))⟩⟩
end
section
variable {X : Cx} {K : PySem.W.Frag} {o e tg : Expr} {to te : TE} {apos pos : Pos}
theorem pe_joinK (h : X.K = K) (ho : PE X o to) (he : PE X e te) (hs : starEach [e] X.env = [(false, eval e X.env)] := by rfl) (hbase : attributeBase o "join" X.env (eval o X.env) = eval o X.env := by rfl) (hline : (apos.endLine == pos.line) = true := by rfl) :
    PE X (.Call (.Attribute o "join" apos) [e] [] pos) (tM1 (fun x xs H Q => ∃ a p, ∃ ys : List Str, x = .str a ∧ xs = [.ref p] ∧ (SqL K H p (ys.map V.str) ∨ SqT K H p (ys.map V.str)) ∧ (ys.map (·.length)).sum + ys.length * a.length ≤ 16777216 ∧ Q (.str (Txt.join a ys)) H) to te) := h ▸ pe_join ho he hs hbase hline
theorem pg_tupK {es : List Expr} {k : Nat} {t : TGs} {n : Nat} (hK : X.K = K) (hc : X.calm = true) (h : PGs X es t) (hn : (assignEach es X.env).length = n := by rfl) (hst : (assignEach es X.env).findIdx? (·.1) = none := by rfl) : PG X (.Tuple es k pos) (gTup K n t) := hK ▸ pg_tup hc h hn hst
theorem pi_tupK (h : X.K = K) (hl : PE X e te) : PI X tg e (iTup K te) := h ▸ pi_tup hl
theorem pi_listK (h : X.K = K) (hl : PE X e te) : PI X tg e (iList K te) := h ▸ pi_list hl
end
theorem join_len (a : Str) : ∀ ys : List Str, (Str.join a ys).length ≤ (ys.map (·.length)).sum + ys.length * a.length
  | [] => by show (0 : Nat) ≤ _; exact Nat.zero_le _
  | [y] => by show y.length ≤ _; simp
  | x :: z :: r => by
    show (x ++ a ++ Str.join a (z :: r)).length ≤ _
    have h := join_len a (z :: r)
    rw [str_app_len, str_app_len, List.map_cons, List.sum_cons, List.length_cons (a := x), Nat.succ_mul]
    omega
theorem txt_join_len (a : Str) (ys : List Str) : (Txt.join a ys).length ≤ (ys.map (·.length)).sum + ys.length * a.length := by
  rw [TL.join_eq]
  exact join_len a ys
theorem sum_le {l : List Nat} {b : Nat} (h : ∀ x ∈ l, x ≤ b) : l.sum ≤ l.length * b := by
  induction l with
  | nil => simp
  | cons x l ih =>
    rw [List.sum_cons, List.length_cons, Nat.succ_mul]
    have h1 := h x (by simp)
    have h2 := ih fun y hy => h y (by simp [hy])
    omega
end Ed
set_option maxHeartbeats 4000000
/-! Ed4: heaps that change at a few places; fields. -/
namespace Ed
open PySem L2 Evl
/-- all that stood elsewhere stands -/
def Off (l : List Addr) (H H' : Hp) : Prop := ∀ b o, b ∉ l → H b = some o → H' b = some o
section
variable {K : PySem.W.Frag} {H H' H2 : Hp} {l l' : List Addr} {a : Addr} {o u : HO}
theorem Off.refl (l : List Addr) (H : Hp) : Off l H H := fun _ _ _ h => h
theorem Off.trans (x : Off l H H') (y : Off l H' H2) : Off l H H2 := fun b o hb h => y b o hb (x b o hb h)
theorem Off.of (e : Ex H H') : Off l H H' := fun b o _ h => e b o h
theorem Off.mono (x : Off l H H') (h : ∀ a ∈ l, a ∈ l') : Off l' H H' := fun b o hb => x b o fun z => hb (h b z)
theorem Off.upd (h : a ∈ l) : Off l H (L2.upd H a u) := fun b o hb e => (upd_ne (show b ≠ a from fun z => hb (z.symm ▸ h))).trans e
theorem Off.at_ (x : Off l H H') (h : H a = some o) (hn : a ∉ l) : H' a = some o := x a o hn h
/-- what was not yet there may be changed too -/
theorem Off.drop (x : Off (a :: l) H H') (h : H a = none) : Off l H H' := fun b o hb e => x b o (fun z => by
  rcases List.mem_cons.mp z with z | z
  · subst z
    rw [h] at e
    cases e
  · exact hb z) e
theorem Off.ex (x : Off [] H H') : Ex H H' := fun b o e => x b o (by simp) e
theorem Off.tx (x : Off l H H') (h : ∀ a ∈ l, ∀ xs, ¬ Rd H a (.tup xs)) : Tx H H' := fun b xs r => by
  have hb : b ∉ l := fun z => h b z xs r
  rcases r with r | ⟨p, r⟩
  · exact .inl (x b _ hb r)
  · exact .inr ⟨p, x b _ hb r⟩
theorem Off.free (x : Off l H H') (hl : ∀ a ∈ l, H a ≠ none → H' a ≠ none) {p : Addr} (h : H' p = none) : H p = none := by
  by_cases hp : p ∈ l
  · by_cases e : H p = none
    · exact e
    · exact absurd h (hl p hp e)
  · cases e : H p with
    | none => rfl
    | some o => rw [x p o hp e] at h; cases h
theorem no_tup_ins {C dx : Addr} {fs : List (Str × V)} (h : H a = some (.ins C dx fs)) (xs : List V) : ¬ Rd H a (.tup xs) := fun r => by
  rcases r with r | ⟨p, r⟩
  · rw [h] at r; cases r
  · rw [h] at r; cases r
theorem no_tup_lst {ys : List V} (h : H a = some (.lst ys)) (xs : List V) : ¬ Rd H a (.tup xs) := fun r => by
  rcases r with r | ⟨p, r⟩
  · rw [h] at r; cases r
  · rw [h] at r; cases r
theorem no_tup_none (h : H a = none) (xs : List V) : ¬ Rd H a (.tup xs) := fun r => by
  rcases r with r | ⟨p, r⟩
  · rw [h] at r; cases r
  · rw [h] at r; cases r
end
section
variable {K : PySem.W.Frag} {σ : L2.St} {H : Hp} {te ta : TE} {d : PyData} {D : Ends} {tz : TS} {a C dx : Addr} {fs : List (Str × V)} {f : Str} {v : V}
/-- o.f = e -/
theorem s_fldD (hv : EvD K te σ H d) (ho : Ev ta σ H (.ref a)) (ha : H a = some (.ins C dx fs)) (c : Cls K C) (n : NoAttr K C f) (hl : fs.length < 1000)
    (k : ∀ v H1, Ex H H1 → Dp K H1 v d → H1 a = some (.ins C dx fs) → D.nx σ (upd H1 a (.ins C dx (putF f v fs)))) : sFld K ta te f D σ H :=
  hv H (Ex.refl H) _ fun v H1 e1 hd => ho H1 e1 _ fun H2 e2 => ⟨a, C, dx, fs, rfl, e2 _ _ (e1 _ _ ha), c, n, hl, k v H2 (e1.trans e2) (hd.ex e2) (e2 _ _ (e1 _ _ ha))⟩
theorem q_fldD (hv : EvD K te σ H d) (ho : Ev ta σ H (.ref a)) (ha : H a = some (.ins C dx fs)) (c : Cls K C) (n : NoAttr K C f) (hl : fs.length < 1000)
    (k : ∀ v H1, Ex H H1 → Dp K H1 v d → H1 a = some (.ins C dx fs) → tz D σ (upd H1 a (.ins C dx (putF f v fs)))) : tSeq (sFld K ta te f) tz D σ H := s_fldD (D := { D with nx := tz D }) hv ho ha c n hl k
/-- o.f = e, e a value -/
theorem s_fld (hv : Ev te σ H v) (ho : Ev ta σ H (.ref a)) (ha : H a = some (.ins C dx fs)) (c : Cls K C) (n : NoAttr K C f) (hl : fs.length < 1000)
    (k : ∀ H1, Ex H H1 → H1 a = some (.ins C dx fs) → D.nx σ (upd H1 a (.ins C dx (putF f v fs)))) : sFld K ta te f D σ H :=
  hv H (Ex.refl H) _ fun H1 e1 => ho H1 e1 _ fun H2 e2 => ⟨a, C, dx, fs, rfl, e2 _ _ (e1 _ _ ha), c, n, hl, k H2 (e1.trans e2) (e2 _ _ (e1 _ _ ha))⟩
theorem q_fld (hv : Ev te σ H v) (ho : Ev ta σ H (.ref a)) (ha : H a = some (.ins C dx fs)) (c : Cls K C) (n : NoAttr K C f) (hl : fs.length < 1000)
    (k : ∀ H1, Ex H H1 → H1 a = some (.ins C dx fs) → tz D σ (upd H1 a (.ins C dx (putF f v fs)))) : tSeq (sFld K ta te f) tz D σ H := s_fld (D := { D with nx := tz D }) hv ho ha c n hl k
/-- o.f -/
theorem ev_fld (ho : Ev ta σ H (.ref a)) (ha : H a = some (.ins C dx fs)) (c : Cls K C) (n : NoAttr K C f) (hl : fs.lookup f = some v) : Ev (tFld K ta f) σ H v := fun H1 e Q q =>
  ho H1 e _ fun H2 e2 => ⟨a, C, dx, fs, v, rfl, e2 _ _ (e _ _ ha), c, n, hl, q H2 e2⟩
theorem ed_fld (ho : Ev ta σ H (.ref a)) (ha : H a = some (.ins C dx fs)) (c : Cls K C) (n : NoAttr K C f) (hl : fs.lookup f = some v) (hd : Dp K H v d) : EvD K (tFld K ta f) σ H d := ed_ev (ev_fld ho ha c n hl) hd
/-- a class constant -/
theorem ev_con {u : Value} (ho : Ev ta σ H (.ref a)) (ha : H a = some (.ins C dx fs)) (c : Cls K C) (n : Con K C f v u) (hl : fs.lookup f = none) : Ev (tCon K ta f) σ H v := fun H1 e Q q =>
  ho H1 e _ fun H2 e2 => ⟨a, C, dx, fs, v, u, rfl, e2 _ _ (e _ _ ha), c, n, hl, q H2 e2⟩
end
end Ed
set_option maxHeartbeats 2000000
/-! ExA: an own exception class, two deep over ANY plain built-in exception class, whose __init__ keeps one field (turned from skel 42). -/
namespace PySem
namespace ExA
open PySem.W PySem.Calls PyProof.Rows PySem.HandSPX
/-! ### the text of __init__ -/
def iA (f : Str) (p1 p2 : Pos) : Arguments := { posonlyargs := [], args := [{ arg := "self", annotation := none, pos := p1 }, { arg := f, annotation := none, pos := p2 }], vararg := none, kwonlyargs := [], kw_defaults := [], kwarg := none, defaults := [] }
def iB (f : Str) (q1 q2 q3 q4 : Pos) : List Stmt := [.Assign [.Attribute (.Name "self" q1) f q2] (.Name f q3) q4]
def iS (f : Str) : Scope := { kind := .function, names := [(PySem.Str.ofString "self", .local), (f, .local)], isGenerator := false, isCoroutine := false, more := [] }
/-- bases' facts: what the chain of classes says of a store and of `in` -/
structure Chain (bm bmB : List Value) : Prop where
  has : ∀ X : String, bm.contains (.type X) = bmB.contains (.type X)
  pass : ∀ self : Value, refuseLoop self "__setattr__" bm = pure ()
  ne : bm.isEmpty = false
  ob : bm.contains (.type "object") = true
theorem Chain.ref {bm bmB : List Value} {c : Addr} (h : Chain bm bmB) : Chain (.ref c :: bm) bmB :=
  ⟨fun X => by rw [List.contains_cons, h.has X]; rfl, fun self => by rw [refuseLoop_ref]; exact h.pass self, rfl, by rw [List.contains_cons, h.ob]; rfl⟩
/-- what the written part says of the class nm, at C, with the one field f, and of its __init__, at fI -/
structure Txt (K : Frag) (mg : Str → Option Value) (nm f : Str) (C fI : Addr) (B newId initId : String) (bmB : List Value) : Prop where
  base : ExcBaseFacts B newId initId bmB
  gC : mg nm = some (.ref C)
  cls : ∃ nm q N bs bm sn sub ab col dd k0 k1 k2 k3 k5, K.lookup C = some (excClassObj nm q C N bs bm true sn sub ab col dd k0 k1 k2 k3 k5 newId) ∧ Chain bm bmB
  sa : findIn K (.ref C) "__setattr__" = some (some (.builtin "object.__setattr__"))
  ga : findIn K (.ref C) "__getattribute__" = some (some (.builtin "BaseException.__getattribute__"))
  gg : findIn K (.ref C) "__getattr__" = some none
  noN : findIn K (.ref C) f = some none
  iC : findIn K (.ref C) "__init__" = some (some (.ref fI))
  tC : typeIn K (.ref fI) = some (.type "function")
  kC : keepIn K (.ref C) = true
  exC : subIn K (.ref C) (.type "BaseException") = some true
  tyC : typeIn K (.ref C) = some (.type "type")
  hdC : hasDictIn K C = true
  kf : ∀ (name : Str) (L a : Addr) (cd : Value), (envOfC name (iS f) L a cd).kindOf f = some .local
  ks : ∀ (name : Str) (L a : Addr) (cd : Value), (envOfC name (iS f) L a cd).kindOf "self" = some .local
  ka : ∀ x v : Value, ([(("self" : Str), x), (f, v)].all fun y => (iS f).names.lookup y.1 == some .local || (iS f).names.lookup y.1 == some .cell) = true
  ml : ∀ (name : Str) (L a : Addr) (cd x v : Value), bindL (envOfC name (iS f) L a cd).kindOf [(("self" : Str), x), (f, v)] (fun _ => none) "self" = some x ∧ bindL (envOfC name (iS f) L a cd).kindOf [(("self" : Str), x), (f, v)] (fun _ => none) f = some v
  df : (f == ("__debug__" : Str)) = false
  bf : ∀ (qn : Str) (kV doc pm : Value) (an : Option Addr) (cdv ct x v : Value) (p1 p2 q1 q2 q3 q4 : Pos), bindArgs (fnOf "__init__" qn (iA f p1 p2) (iB f q1 q2 q3 q4) (iS f) .none kV doc pm an cdv ct) ⟨[x, v], []⟩ = pure [(("self" : Str), x), (f, v)]
  fn : ∃ (qn : Str) (oc : Value) (od : Option Addr) (kV doc pm : Value) (an : Option Addr) (cdv ct : Value) (osl : Array (Option Value)) (p1 p2 q1 q2 q3 q4 : Pos),
    K.lookup fI = some ⟨oc, od, .func (fnOf "__init__" qn (iA f p1 p2) (iB f q1 q2 q3 q4) (iS f) .none kV doc pm an cdv ct), osl⟩ ∧ codeIn K cdv qn = true
theorem one_size (v : Value) : [v].length ≤ sizeLine := by
  rw [sizeLine_eq]
  exact (by decide : 1 ≤ 16777216)
theorem ldC {M : Model} {s : Shared} {name : Str} {scope : Scope} {L a : Addr} {cd : Value} {m : Str → Option Value} {x : Str} {pos : Pos} {v : Value} {Q : Value → Shared → Prop} {A : Around} {E : Value → Shared → Prop} (hn : s.heap.Ns L m) (hv : m x = some v) (h : Q v s)
    (hk : scope.kind = .function) (hl : (envOfC name scope L a cd).kindOf x = some .local) (hd : (x == ("__debug__" : Str)) = false) :
    wpAny M A (eval (.Name x pos) (envOfC name scope L a cd)) Q E s := wpAny_Name (wpAny_loadName_local hk hl hn hv h) hd
/-- what __init__ leaves of a fresh exception at x -/
structure InitEnd (f : Str) (h h' : Heap) (x C dx t1 : Addr) (v : Value) : Prop where
  keep : ∀ b o, b ≠ x → h.get? b = some o → h'.get? b = some o
  obj : h'.get? x = some { cls := .ref C, dict := some dx, data := .fields #[.ref t1, .none, .none, .none, .bool false, .none] }
  dbig : h.objs.size ≤ dx
  dne : dx ≠ x
  ns : h'.Ns1 dx (fun y => if y = f then some v else none)
/-- a made exception -/
structure OwnMade (f : Str) (h h' : Heap) (e C d : Addr) (v : Value) : Prop where
  keep : ∀ b o, h.get? b = some o → h'.get? b = some o
  new : h.objs.size ≤ e
  obj : ∃ oe vs, h'.get? e = some oe ∧ oe.cls = .ref C ∧ oe.dict = some d ∧ oe.data = .fields vs ∧ vs[1]? = some .none ∧ vs[2]? = some .none
  dbig : h.objs.size ≤ d
  dne : d ≠ e
  ns : h'.Ns1 d (fun y => if y = f then some v else none)
section
variable {prog : Program} {w : World} {A : Around} {E : Value → Shared → Prop} {R : Result → Shared → Prop} {hp : Heap} {g : Array GenState} {d : Drawn} {t : Nat} {os : OsState}
/-- the first field of an exception of a class of such a chain -/
theorem osa_chain {K : W.Frag} {name : Str} {tk : Tok} {v : Value} {x C : Addr} {fv : Array Value} {cd : ClassData} {bmB : List Value}
    (X : K.In hp) (hx : hp.get? x = some { cls := .ref C, data := .fields fv }) (hcd : W.clsIn K C = some cd) (hm : Chain cd.mro bmB) (hh : cd.hasDict = true) (ha : W.findIn K (.ref C) name = some none)
    (hq : ∀ h' tk' dx, (∀ b o, b ≠ x → hp.get? b = some o → h'.get? b = some o) → hp.objs.size ≤ dx → dx ≠ x → h'.get? x = some { cls := .ref C, dict := some dx, data := .fields fv } →
      h'.Ns1 dx (fun y => if y = name then some v else none) → R (.ok (.ret .none)) ⟨h', g, d, tk', os⟩) :
    codeAny (model prog w) A (.call (.builtin "object.__setattr__") ⟨[.ref x, .str name tk, v], []⟩) R ⟨hp, g, d, t, os⟩ := by
  have I : W.InstAt hp x { cls := .ref C, data := .fields fv } C none := ⟨hx, rfl, rfl, trivial⟩
  have hxs : x ≠ hp.objs.size := Nat.ne_of_lt (Heap.lt_size hx)
  have look : W.Looks (model prog w) hp (isInstance (.ref x) (.type "object")) true := I.type.andThen (W.looks_mroIn X (by unfold W.mroIn; rw [hcd, Option.bind_some, if_neg (by rw [hm.ne]; decide), hm.ob]))
  have mro : W.Looks (model prog w) hp (mroOf (.ref C)) cd.mro := (W.looks_clsIn X hcd).andThen .now
  have taker : W.Looks (model prog w) hp (Builtin.ObjectAttr.storeTaker? none) none := .now
  have cls : W.Looks (model prog w) hp (classData C) cd := W.looks_clsIn X hcd
  refine codeAny_call_builtin F.store_object.slot.plain F.store_object.entry (@W.check_slot (model prog w) _ _ ⟨hp, g, d, t, os⟩ "object.__setattr__" "object" "__setattr__" (.ref x) [.str name tk, v] [] _ F.store_object.kind F.store_object.split look (F.store_object.args (.ref x) (.str name tk) v) ?_)
  rw [W.osa_eq, refuse_eq]
  refine wpAny_bind (wpAny_bind (I.type.at (wpAny_bind (mro.at ?_))))
  rw [hm.pass]
  refine wpAny_pure (wpAny_bind (I.type.at (wpAny_bind ((W.looks_findIn X ha).at (wpAny_bind (taker.at ?_))))))
  show wpAny _ _ (Builtin.ObjectAttr.storeInOwnDict (.ref x) (.ref C) (.str name tk) name v false) _ _ _
  obtain ⟨nm, bs, mr, ns, qn, hd, sn, sb, ab, col, del⟩ := cd
  dsimp only at hh
  subst hh
  unfold Builtin.ObjectAttr.storeInOwnDict Builtin.ObjectAttr.ownDictForStores
  repeat (first | with_reducible refine store_in_new ?_ ?_ | with_reducible refine wpAny_loadPart_at hx ?_ | with_reducible refine cls.at ?_ | wp_step)
  · exact ⟨_, #[], _, (Heap.get?_update_ne _ _ _ _ hxs.symm).trans (Heap.get?_push_at rfl rfl), rfl, fun e he => absurd he (by simp), fun _ => rfl⟩
  · intro h' tk' hn' hs
    have hx₁ : (hp.push { cls := .type "dict", data := .dict #[] }).get? x = some { cls := .ref C, data := .fields fv } := Heap.get?_push_of_some _ hx
    refine hq h' tk' hp.objs.size (fun b o hb ho => ?_) (Nat.le_refl _) hxs.symm ?_ hn'
    · exact (hs.2 b (Nat.ne_of_lt (Heap.lt_size ho))).trans ((Heap.get?_update_ne _ _ _ _ hb).trans (Heap.get?_push_of_some _ ho))
    · exact (hs.2 x hxs).trans (Heap.get?_update_self _ hx₁ rfl)
end
section
variable {prog : Program} {w : World} {A : Around} {E : Value → Shared → Prop} {R : Result → Shared → Prop} {s : Shared} {K : Frag} {mg : Str → Option Value} {nm f : Str} {C fI : Addr} {B newId initId : String} {bmB : List Value}
theorem init_run (T : Txt K mg nm f C fI B newId initId bmB) {x t0 : Addr} {v : Value} (X : K.In s.heap) (hlim : s.heap.NoLimit) (hx : s.heap.get? x = some (excO C t0)) (hroom : A.depth < recursionLimit)
    (hq : ∀ h' tk dx, InitEnd f s.heap h' x C dx t0 v → R (.ok (.ret .none)) { s with heap := h', toks := tk }) :
    codeAny (model prog w) A (.call (.ref fI) ⟨[.ref x, v], []⟩) R s := by
  obtain ⟨qn, oc, od, kV, doc, pm, an, cdv, ct, osl, p1, p2, q1, q2, q3, q4, ho, hcd⟩ := T.fn
  obtain ⟨nm', q, N, bs, bm, sn, sub, ab, col, dd, k0, k1, k2, k3, k5, hC, hbm⟩ := T.cls
  have hcl : clsIn K C = some { name := nm', bases := bs, mro := .ref C :: bm, ns := N, qualname := q, hasDict := true, slotNames := sn, subclasses := sub, abstract := ab, collection := col, hasDel := false } := by unfold clsIn; rw [hC] <;> rfl
  refine Att.call_fn (binds := [(("self" : Str), .ref x), (f, v)]) X hlim ho hcd hroom (BindsTo.of_eq (T.bf qn kV doc pm an cdv ct (.ref x) v p1 p2 q1 q2 q3 q4)) (T.ka _ _) (fun s₁ IC => ?_) rfl rfl rfl
  obtain ⟨h₁, tk₁, rfl⟩ := IC.toInCall.same
  have k : ∀ b o, s.heap.get? b = some o → h₁.get? b = some o := IC.toInCall.keep
  have hn := IC.toInCall.ns
  have X₁ : K.In h₁ := X.keeps k
  have hx₁ := k _ _ hx
  obtain ⟨m1, m2⟩ := T.ml qn s.heap.objs.size fI cdv (.ref x) v
  show wpAny _ _ (execs _ _) _ _ _
  refine wpAny_execs_cons (plainObj_wpAny_Assign_Attribute ?_)
  refine ldC (v := v) hn m2 (ldC (v := .ref x) hn m1 ?_ rfl (T.ks _ _ _ _) (by decide)) rfl (T.kf _ _ _ _) T.df
  refine set_plain X₁ (ox := excO C t0) (od := none) ⟨hx₁, rfl, rfl, trivial⟩ T.sa ?_
  refine osa_chain X₁ hx₁ hcl hbm.ref rfl T.noN (fun h₃ tk₃ dx k₃ dn dne hx₃ hn₃ => ?_)
  show wpAny _ _ (execs _ _) _ _ _
  have z : s.heap.objs.size < h₁.objs.size := hn.lt
  exact wpAny_execs_nil (hq h₃ tk₃ dx ⟨fun b o hb e => k₃ b o hb (k b o e), hx₃, Nat.le_of_lt (Nat.lt_of_lt_of_le z dn), dne, hn₃⟩)
theorem made (T : Txt K mg nm f C fI B newId initId bmB) {v : Value} (X : K.In s.heap) (hlim : s.heap.NoLimit) (hroom : A.depth + 1 < recursionLimit)
    (hq : ∀ h' tk e d, OwnMade f s.heap h' e C d v → R (.ok (.ret (.ref e))) { s with heap := h', toks := tk }) :
    codeAny (model prog w) A (.call (.ref C) ⟨[v], []⟩) R s := by
  obtain ⟨nm', q, N, bs, bm, sn, sub, ab, col, dd, k0, k1, k2, k3, k5, hC, hbm⟩ := T.cls
  obtain ⟨hp, g, dr, tk, os⟩ := s
  have k : ∀ b o, hp.get? b = some o → ((hp.push (kdv_tup [v])).push (excO C hp.objs.size)).get? b = some o := fun b o e => Heap.get?_push_of_some _ (Heap.get?_push_of_some _ e)
  have hget : ((hp.push (kdv_tup [v])).push (excO C hp.objs.size)).get? (hp.objs.size + 1) = some (excO C hp.objs.size) := by heap_get
  refine call_own T.base hbm.has (X _ _ hC) (looks_findIn X T.iC) (fun self => bind_fn X self T.tC) (one_size v) ?_
  refine init_run (s := ⟨(hp.push (kdv_tup [v])).push (excO C hp.objs.size), g, dr, tk, os⟩) T (X.keeps k) (hlim.keeps k) hget hroom fun h' tk' dx ⟨k', hx, dn, dne, hns⟩ => ?_
  have old : ∀ b o, hp.get? b = some o → h'.get? b = some o := fun b o e => k' b o (Nat.ne_of_lt (Nat.lt_succ_of_lt (Heap.lt_size e))) (k b o e)
  have z : hp.objs.size + 1 + 1 ≤ dx := by
    first
      | (simpa only [Heap.size_push] using dn)
      | exact dn
      | (have q := dn; rw [Heap.size_push, Heap.size_push] at q; exact q)
  exact ⟨rfl, hq h' tk' (hp.objs.size + 1) dx ⟨old, Nat.le_succ _, ⟨_, _, hx, rfl, rfl, rfl, rfl, rfl⟩, Nat.le_trans (Nat.le_trans (Nat.le_succ _) (Nat.le_succ _)) z, dne, hns⟩⟩
end
end ExA
end PySem
namespace L2
open PySem PySem.Spec PyProof.Rows
theorem relO_one {f : Str} {v : V} {v' : Value} (r : RelV v v') (g : Str) : RelO (List.lookup g [(f, v)]) (if g = f then some v' else none) := relO_put (fs := []) (mA := fun _ => none) r (fun _ => True.intro) g
section
variable {X : Cx} {nm f : Str} {C fI : Addr} {B newId initId : String} {bmB : List Value}
/-- C(e) -/
def tMkA (C : Addr) (f : Str) (ta : TA) : St → Hp → XK → Prop := fun σ H Q => ta σ H fun vs H1 => ∃ v, vs = [v] ∧ ∀ d, H1 d = none → Q (.ref C) (some d) (upd H1 d (.xd [(f, v)]))
theorem pmk_A {a : Expr} {ta : TA} {p pos : Pos} {k : Nat} (T : PySem.ExA.Txt X.K X.mg nm f C fI B newId initId bmB) (hr : Room k X.A) (ha : PA X [a] ta) (hg : Gl X nm := by rfl) (hdb : (nm == ("__debug__" : Str)) = false := by decide)
    (he : starEach (a :: []) X.env = (false, eval a X.env) :: starEach [] X.env := by rfl) (hpl : (backTo pos (starEach [] X.env)).any (·.1) = false := by rfl) :
    PMk X (.Call (.Name nm p) [a] [] pos) (tMkA C f ta) := by
  intro pins s σ H Q I h
  refine wpAny_Call_Name_kw (ld_glob I hg T.gC ?_ hdb)
  refine PySem.W.callWith_K (h₀ := X.base) I.ok.mod.kin T.kC (thn (ha.run pos pins s σ H _ I h) fun us s1 hh => ?_) he hpl
  obtain ⟨vs, H1, I1, r1, v, ev, q1⟩ := hh
  subst ev
  refine ⟨I1.kIn, ?_⟩
  cases r1 with
  | cons rv rn =>
    rename_i v' us'
    cases rn
    show wpAny _ _ (call (.ref C) [v']) _ _ _
    have hlim := I1.nolimit
    obtain ⟨hp, g, dr, tk, os⟩ := s1
    refine wpAny_call (PySem.ExA.made T I1.kIn hlim (by have := hr.dp; omega) fun h' tk' e d M => ?_)
    show MkP X pins σ Q (.ref e) ⟨h', g, dr, tk', os⟩
    obtain ⟨oe, fv, hoe, hc, hd, hdat, h1, h2⟩ := M.obj
    have hns := M.ns
    obtain ⟨G', g1, g2⟩ := restrict h' fun b => decide (b ≠ e)
    have gk : ∀ b, b ≠ e → G'.get? b = h'.get? b := fun b hb => g1 b (decide_eq_true hb)
    have ge : G'.get? e = none := g2 e (by simp)
    have old : ∀ b o, hp.get? b = some o → G'.get? b = some o := fun b o q => (gk b (Nat.ne_of_lt (Nat.lt_of_lt_of_le (Heap.lt_size q) M.new))).trans (M.keep b o q)
    have ob : ObjOk X.prog X.w (upd H1 d (.xd [(f, v)])) G' d (.xd [(f, v)]) :=
      ⟨_, hns.at (fun o q => (gk d M.dne).trans q), fun f => relO_one rv f⟩
    have J : Inv X pins σ (upd H1 d (.xd [(f, v)])) ⟨G', g, dr, tk', os⟩ := I1.laid (t' := tk') old M.dbig ob
    refine ⟨e, oe, fv, ⟨G', g, dr, tk', os⟩, _, .ref C, some d, rfl, J, fun b o q => ?_, ge, hoe, ⟨hc, hd⟩, hdat, h1, ?_, rfl, I1.bare, raises_own T.exC T.tyC, q1 d (I1.hok.fresh M.dbig)⟩
    · by_cases hb : b = e
      · have q' : G'.get? b = some o := q
        rw [hb, ge] at q'; cases q'
      · exact (gk b hb).symm.trans q
    · rw [upd_ne (Ne.symm M.dne)]
      exact I1.hok.fresh M.new
/-- raise C(e) -/
def tRaiseA (C : Addr) (f : Str) (W : WX) (ta : TA) : TS := fun _ σ H => tMkA C f ta σ H fun cls d H' => W cls d σ H'
theorem ps_raiseA {a : Expr} {ta : TA} {W : WX} {p pos pos2 : Pos} {k : Nat} (hc : X.calm = true) (T : PySem.ExA.Txt X.K X.mg nm f C fI B newId initId bmB) (hr : Room k X.A) (tk : Takes X W) (ha : PA X [a] ta) (hg : Gl X nm := by rfl) (hdb : (nm == ("__debug__" : Str)) = false := by decide)
    (he : starEach (a :: []) X.env = (false, eval a X.env) :: starEach [] X.env := by rfl) (hpl : (backTo pos (starEach [] X.env)).any (·.1) = false := by rfl) :
    PS X (.Raise (some (.Call (.Name nm p) [a] [] pos)) none pos2) (tRaiseA C f W ta) := ps_raise hc tk (pmk_A T hr ha hg hdb he hpl)
/-! the same, with the context kept in mind -/
theorem pmk_AN {a : Expr} {ta : TA} {p pos : Pos} {k : Nat} (T : PySem.ExA.Txt X.K X.mg nm f C fI B newId initId bmB) (hr : Room k X.A) (ha : PA X [a] ta) (hg : Gl X nm := by rfl) (hdb : (nm == ("__debug__" : Str)) = false := by decide)
    (he : starEach (a :: []) X.env = (false, eval a X.env) :: starEach [] X.env := by rfl) (hpl : (backTo pos (starEach [] X.env)).any (·.1) = false := by rfl) :
    L2N.PMk X (.Call (.Name nm p) [a] [] pos) (tMkA C f ta) := by
  intro pins s σ H Q I h
  refine wpAny_Call_Name_kw (ld_glob I hg T.gC ?_ hdb)
  refine PySem.W.callWith_K (h₀ := X.base) I.ok.mod.kin T.kC (thn (ha.run pos pins s σ H _ I h) fun us s1 hh => ?_) he hpl
  obtain ⟨vs, H1, I1, r1, v, ev, q1⟩ := hh
  subst ev
  refine ⟨I1.kIn, ?_⟩
  cases r1 with
  | cons rv rn =>
    rename_i v' us'
    cases rn
    show wpAny _ _ (call (.ref C) [v']) _ _ _
    have hlim := I1.nolimit
    obtain ⟨hp, g, dr, tk, os⟩ := s1
    refine wpAny_call (PySem.ExA.made T I1.kIn hlim (by have := hr.dp; omega) fun h' tk' e d M => ?_)
    show L2N.MkP X pins σ Q (.ref e) ⟨h', g, dr, tk', os⟩
    obtain ⟨oe, fv, hoe, hc, hd, hdat, h1, h2⟩ := M.obj
    have hns := M.ns
    obtain ⟨G', g1, g2⟩ := restrict h' fun b => decide (b ≠ e)
    have gk : ∀ b, b ≠ e → G'.get? b = h'.get? b := fun b hb => g1 b (decide_eq_true hb)
    have ge : G'.get? e = none := g2 e (by simp)
    have old : ∀ b o, hp.get? b = some o → G'.get? b = some o := fun b o q => (gk b (Nat.ne_of_lt (Nat.lt_of_lt_of_le (Heap.lt_size q) M.new))).trans (M.keep b o q)
    have ob : ObjOk X.prog X.w (upd H1 d (.xd [(f, v)])) G' d (.xd [(f, v)]) :=
      ⟨_, hns.at (fun o q => (gk d M.dne).trans q), fun f => relO_one rv f⟩
    have J : Inv X pins σ (upd H1 d (.xd [(f, v)])) ⟨G', g, dr, tk', os⟩ := I1.laid (t' := tk') old M.dbig ob
    refine ⟨e, oe, fv, ⟨G', g, dr, tk', os⟩, _, .ref C, some d, rfl, J, fun b o q => ?_, ge, hoe, ⟨hc, hd, fun vs e => by rw [hdat] at e; cases e; exact h2⟩, hdat, h1, ?_, rfl, I1.bare, raises_own T.exC T.tyC, q1 d (I1.hok.fresh M.dbig)⟩
    · by_cases hb : b = e
      · have q' : G'.get? b = some o := q
        rw [hb, ge] at q'; cases q'
      · exact (gk b hb).symm.trans q
    · rw [upd_ne (Ne.symm M.dne)]
      exact I1.hok.fresh M.new
theorem ps_raiseAN {a : Expr} {ta : TA} {W : WX} {p pos pos2 : Pos} {k : Nat} (hc : X.calm = true) (T : PySem.ExA.Txt X.K X.mg nm f C fI B newId initId bmB) (hr : Room k X.A) (tk : L2N.Takes X W) (ha : PA X [a] ta) (hg : Gl X nm := by rfl) (hdb : (nm == ("__debug__" : Str)) = false := by decide)
    (he : starEach (a :: []) X.env = (false, eval a X.env) :: starEach [] X.env := by rfl) (hpl : (backTo pos (starEach [] X.env)).any (·.1) = false := by rfl) :
    PS X (.Raise (some (.Call (.Name nm p) [a] [] pos)) none pos2) (tRaiseA C f W ta) := L2N.ps_raise hc tk (pmk_AN T hr ha hg hdb he hpl)
/-- e.f, e the exception that the suite holds (at a; its class cls, its dict d) -/
def tFldX (C : Addr) (f : Str) (a : Addr) (cls : Value) (d : Option Addr) (te : TE) : TE := fun σ H Q => te σ H fun x H1 => x = .ref a ∧ cls = .ref C ∧ ∃ (dd : Addr) (v : V), d = some dd ∧ H1 dd = some (.xd [(f, v)]) ∧ Q v H1
theorem pe_fldX {a : Addr} {oe : Obj} {cls : Value} {d : Option Addr} {pn : List (Addr × Obj)} {e : Expr} {te : TE} {pos : Pos} (T : PySem.ExA.Txt X.K X.mg nm f C fI B newId initId bmB) (hz : Zc cls d oe) (hf : ∃ vs, oe.data = .fields vs) (he : PE (X.suite a ((a, oe) :: pn)) e te)
    (hb : attributeBase e f X.env (eval e X.env) = eval e X.env := by rfl) :
    PE (X.suite a ((a, oe) :: pn)) (.Attribute e f pos) (tFldX C f a cls d te) := by
  refine ⟨fun pins s σ H Q I h => ?_⟩
  refine attr_of hb (thn (he.run pins s σ H _ I h) fun u s1 hh => ?_)
  obtain ⟨x, H1, I1, rx, ex, ec, dd, v, ed, ea, q⟩ := hh
  subst ex
  obtain rfl : u = Value.ref a := rx
  subst ec
  subst ed
  obtain ⟨ha, _⟩ := I1.pin (a, oe) (List.mem_append_left _ List.mem_cons_self)
  obtain ⟨vs, hd⟩ := hf
  have hx : ObjOk X.prog X.w H1 s1.heap dd (.xd [(f, v)]) := I1.hok dd _ ea
  obtain ⟨mA, hns, hr⟩ := hx
  obtain ⟨od, ho, hl⟩ := lookIn_ns hns
  have l : List.lookup f [(f, v)] = some v := by simp [List.lookup]
  obtain ⟨u, hu, ru⟩ := RelO.some_of (v := v) (o := mA f) (by rw [← l]; exact hr f)
  have J : PySem.W.InstAt s1.heap a oe C (some od) := ⟨ha, hz.1, by unfold PySem.W.notCls; rw [hd] <;> rfl, by rw [hz.2]; exact ho⟩
  exact HandSPX.exc_get I1.kIn J T.ga T.gg T.exC (PySem.W.findObj_own T.hdC T.noN rfl (by rw [hl, hu])) (handed_of ru) ⟨v, H1, I1.tok _, ru, q⟩
end
end L2
set_option maxHeartbeats 4000000
/-! Ed5: raising. -/
namespace Ed
open PySem L2 Evl
section
variable {K : PySem.W.Frag} {σ : L2.St} {H : Hp} {ta : TA} {v : V} {C : Addr} {f : Str} {W : WX} {D : Ends}
theorem s_raiseA (h : EvA ta σ H [v]) (k : ∀ d H1, Ex H H1 → H1 d = some (.xd [(f, v)]) → W (.ref C) (some d) σ H1) : tRaiseA C f W ta D σ H :=
  h H (Ex.refl H) _ fun H1 e1 => ⟨v, rfl, fun d hd => k d _ (e1.trans (Ex.new hd)) upd_same⟩
end
end Ed
set_option maxHeartbeats 4000000
/-! EdS: lists of texts. -/
namespace Ed
open PySem L2 Evl
theorem inV_strs (x : Str) : ∀ l : List Str, inV (.str x) (l.map V.str) = decide (x ∈ l)
  | [] => by simp [inV]
  | y :: l => by
    have h := inV_strs x l
    unfold inV at h ⊢
    rw [List.map_cons, List.any_cons, h]
    by_cases e : x = y
    · subst e
      simp [eqV]
    · have e2 : ¬ y = x := fun z => e z.symm
      simp [eqV, e, e2]
theorem flat_strs (l : List Str) : (l.map V.str).all flatV = true := List.all_eq_true.mpr fun v hv => by
  obtain ⟨x, _, rfl⟩ := List.mem_map.mp hv
  rfl
end Ed
set_option maxHeartbeats 2000000
/-! Own: len, bool, in, repr, ==, != of own instances by their special methods. -/
namespace PySem.OwnS
open PySem PySem.W
section
variable {M : Model} {prog : Program} {w : World} {A : Around} {E : Value → Shared → Prop} {s : Shared} {K : Frag} {x C f : Addr} {ox : Obj} {od : Option Obj} {name : Str}
theorem special (X : K.In s.heap) (I : InstAt s.heap x ox C od) (hs : findIn K (.ref C) name = some (some (.ref f))) (hf : isFn K (.ref f) = true) {args : List Value} {Q : Option Value → Shared → Prop}
    (h : wpAny M A (call (.ref f) (.ref x :: args)) (fun v => Q (some v)) E s) : wpAny M A (callSpecial? (.ref x) name args) Q E s := by
  unfold callSpecial?
  refine wpAny_bind (wpAny_bind (I.type.here ((looks_findIn X hs).here ?_)))
  refine wpAny_holding (wpAny_bind ((bind_fn X _ (beq_iff_eq.mp hf)).here ?_))
  exact wpAny_bind (wpAny_mono (show wpAny M A (call (.ref f) ([.ref x] ++ args)) _ E s from h) (fun v s' h' => wpAny_pure h') fun _ _ h' => h')
theorem special_none (X : K.In s.heap) (I : InstAt s.heap x ox C od) (hs : findIn K (.ref C) name = some none) {args : List Value} {Q : Option Value → Shared → Prop} (h : Q none s) : wpAny M A (callSpecial? (.ref x) name args) Q E s := by
  unfold callSpecial?
  refine wpAny_bind (wpAny_bind (I.type.here ((looks_findIn X hs).here ?_)))
  exact wpAny_pure h
theorem specialOf_is (X : K.In s.heap) (I : InstAt s.heap x ox C od) {r : Option Value} (hs : findIn K (.ref C) name = some r) {Q : Option Value → Shared → Prop} (h : Q r s) : wpAny M A (specialOf (.ref x) name) Q E s :=
  wpAny_bind (I.type.here ((looks_findIn X hs).here h))
theorem special_unless (X : K.In s.heap) (I : InstAt s.heap x ox C od) (hs : findIn K (.ref C) name = some (some (.ref f))) (hf : isFn K (.ref f) = true) {args : List Value} {rf : Sem Value} {Q : Option Value → Shared → Prop}
    (h : wpAny M A (call (.ref f) (.ref x :: args)) (fun v => Q (some v)) E s) : wpAny M A (callSpecialUnlessNone? (.ref x) name args rf) Q E s := by
  unfold callSpecialUnlessNone?
  refine wpAny_bind (wpAny_bind (I.type.here ((looks_findIn X hs).here ?_)))
  refine wpAny_holding (wpAny_bind ((bind_fn X _ (beq_iff_eq.mp hf)).here ?_))
  show wpAny M A (if (Value.ref f == Value.none) = true then _ else _) Q E s
  rw [if_neg (show ¬ (Value.ref f == Value.none) = true from by simp)]
  exact wpAny_bind (wpAny_mono (show wpAny M A (call (.ref f) ([.ref x] ++ args)) _ E s from h) (fun v s' h' => wpAny_pure h') fun _ _ h' => h')
/-- len(x) -/
def LenBack (Q : Value → Shared → Prop) (r : Value) (s' : Shared) : Prop := ∃ n u, r = .int n u ∧ 0 ≤ n ∧ n < 2 ^ 62 ∧ ∀ t k, Q (.int n t) { s' with toks := k }
theorem len_insO (X : K.In s.heap) (I : InstAt s.heap x ox C od) (hs : findIn K (.ref C) "__len__" = some (some (.ref f))) (hf : isFn K (.ref f) = true) {Q : Value → Shared → Prop}
    (h : wpAny (model prog w) A.in1 (call (.ref f) [.ref x]) (LenBack Q) E s) : wpAny (model prog w) A (call (.builtin "len") [.ref x]) Q E s := by
  refine Calls.call_function_entry kind_len plain_len entry_len (args_len1 _) ?_
  unfold Builtin.«len»
  refine wpAny_bind (m := oneArg "len" _) (wpAny_pure ?_)
  refine wpAny_bind (m := callSpecial? (.ref x) (Str.ofString "__len__")) (special X I hs hf (wpAny_mono h (fun r s' hr => ?_) fun _ _ y => y))
  obtain ⟨n, u, rfl, h0, h1, hq⟩ := hr
  refine wpAny_bind (wpAny_holding (wpAny_pure ?_))
  refine wpAny_bind (wpAny_letGo ?_)
  show wpAny _ _ (if n < 0 then _ else _) _ _ _
  rw [if_neg (by omega)]
  show wpAny _ _ (if n ≥ 2 ^ 63 then _ else _) _ _ _
  rw [if_neg (by omega)]
  exact wpAny_bind (wpAny_mkInt (wpAny_pure ⟨_, rfl, hq _ _⟩))
/-- the truth of x, by __len__ -/
theorem truthy_ins (X : K.In s.heap) (I : InstAt s.heap x ox C od) (hb : findIn K (.ref C) "__bool__" = some none) (hs : findIn K (.ref C) "__len__" = some (some (.ref f))) (hf : isFn K (.ref f) = true) {Q : Bool → Shared → Prop}
    (h : wpAny (model prog w) A.in1 (call (.ref f) [.ref x]) (fun r s' => ∃ n u, r = .int n u ∧ 0 ≤ n ∧ n < 2 ^ 62 ∧ ∀ k, Q (n != 0) { s' with toks := k }) E s) : wpAny (model prog w) A (truthy (.ref x)) Q E s := by
  have key : wpAny (model prog w) A (runValue (.builtin "len" ⟨[.ref x], []⟩)) (fun r s' => ∃ n t, r = .int n t ∧ Q (n != 0) s') E s := by
    refine wpAny_runValue (codeAny_builtin entry_len ?_)
    rw [Around.under_plainId plain_len _]
    unfold Builtin.«len»
    refine wpAny_bind (m := oneArg "len" _) (wpAny_pure ?_)
    refine wpAny_bind (m := callSpecial? (.ref x) (Str.ofString "__len__")) (special X I hs hf (wpAny_mono h (fun r s' hr => ?_) fun _ _ y => y))
    obtain ⟨n, u, rfl, h0, h1, hq⟩ := hr
    refine wpAny_bind (wpAny_holding (wpAny_pure ?_))
    refine wpAny_bind (wpAny_letGo ?_)
    show wpAny _ _ (if n < 0 then _ else _) _ _ _
    rw [if_neg (by omega)]
    show wpAny _ _ (if n ≥ 2 ^ 63 then _ else _) _ _ _
    rw [if_neg (by omega)]
    exact wpAny_bind (wpAny_mkInt (wpAny_pure ⟨n, _, rfl, hq _⟩))
  unfold truthy
  first
    | refine wpAny_bind (special_none (name := Str.ofString "__bool__") X I hb ?_)
    | refine wpAny_bind (wpAny_pure (wpAny_bind (special_none (name := Str.ofString "__bool__") X I hb ?_)))
  first
    | refine wpAny_bind (specialOf_is X I hs ?_)
    | refine wpAny_bind (wpAny_pure (wpAny_bind (specialOf_is X I hs ?_)))
  first
    | exact wpAny_bind (wpAny_mono key (fun r s' h' => by obtain ⟨n, t, rfl, hq⟩ := h'; exact wpAny_pure hq) fun _ _ e => e)
    | exact wpAny_bind (wpAny_pure (wpAny_bind (wpAny_mono key (fun r s' h' => by obtain ⟨n, t, rfl, hq⟩ := h'; exact wpAny_pure hq) fun _ _ e => e)))
theorem meets_bool_ref (x : Addr) : MeetsIn prog w (Builtin.«bool.__new__» ⟨[.type "bool", .ref x], []⟩) (fun A R s => wpAny (model prog w) A.in1 (truthy (.ref x)) (fun b s' => R (.ok (.ret (.bool b))) s') (fun e s' => R (.error e) s') s) := by
  intro A R s h
  have f1 := F.conv_sub_bool
  obtain ⟨hp, g, d, tk, os⟩ := s
  unfold Builtin.«bool.__new__»
  repeat (any_goals (first | assumption | with_reducible refine wpAny_bind (wpAny_mono h (fun b s' hb => wpAny_pure ?_) fun _ _ e => e) | wp_step))
  all_goals first | exact hb | skip
theorem bool_ins (X : K.In s.heap) (I : InstAt s.heap x ox C od) (hb : findIn K (.ref C) "__bool__" = some none) (hs : findIn K (.ref C) "__len__" = some (some (.ref f))) (hf : isFn K (.ref f) = true) {Q : Value → Shared → Prop}
    (h : wpAny (model prog w) A.in1.in1.in1 (call (.ref f) [.ref x]) (fun r s' => ∃ n u, r = .int n u ∧ 0 ≤ n ∧ n < 2 ^ 62 ∧ ∀ k, Q (.bool (n != 0)) { s' with toks := k }) E s) : wpAny (model prog w) A (call (.type "bool") [.ref x]) Q E s := by
  refine callType_newIn F.called_bool F.newNe_bool (F.typeCall_bool_1 _) (F.newCall_bool_1 _) (fun obj => F.args_object_init_2 obj _) F.entry_bool_new (meets_bool_ref x) ?_
  refine truthy_ins X I hb hs hf (wpAny_mono h (fun r s' hr => ?_) fun _ _ e => e)
  obtain ⟨n, u, rfl, h0, h1, hq⟩ := hr
  exact ⟨n, u, rfl, h0, h1, fun k => ⟨rfl, hq k⟩⟩
/-- x in o -/
theorem in_ins (X : K.In s.heap) (I : InstAt s.heap x ox C od) (hs : findIn K (.ref C) "__contains__" = some (some (.ref f))) (hf : isFn K (.ref f) = true) {y : Value} {Q : Bool → Shared → Prop}
    (h : wpAny (model prog w) A (call (.ref f) [.ref x, y]) (fun r s' => ∃ b, r = .bool b ∧ Q b s') E s) : wpAny (model prog w) A (contains (.ref x) y) Q E s := by
  unfold contains
  refine wpAny_holding ?_
  have e0 : stdlibNamesSay? (.ref x) y = none := by
    unfold stdlibNamesSay?
    rfl
  rw [e0]
  refine wpAny_bind (specialOf_is X I hs ?_)
  rw [if_neg (by simp)]
  refine wpAny_bind (special_unless X I hs hf (wpAny_mono h (fun r s' hr => ?_) fun _ _ e => e))
  obtain ⟨b, rfl, hq⟩ := hr
  show wpAny _ _ (truthy (.bool b)) _ _ _
  unfold truthy
  exact wpAny_pure hq
/-- repr(x) -/
theorem repr_ins (hu : A.in1.units < cLine) (X : K.In s.heap) (I : InstAt s.heap x ox C od) (hs : findIn K (.ref C) "__repr__" = some (some (.ref f))) (hf : isFn K (.ref f) = true) {Q : Value → Shared → Prop}
    (h : wpAny (model prog w) A.in1 (call (.ref f) [.ref x]) (fun r s' => ∃ m tk, r = .str m tk ∧ Q (.str m tk) s') E s) : wpAny (model prog w) A (call (.builtin "repr") [.ref x]) Q E s := by
  refine Calls.call_function_entry F.kind_repr F.plain_repr F.entry_repr (F.args_repr1 _) ?_
  unfold Builtin.«repr»
  refine wpAny_bind (m := oneArg "repr" _) (wpAny_pure ?_)
  refine wpAny_bind (wpAny_cRoomFor hu ?_)
  refine wpAny_bind (specialOf_is X I hs ?_)
  show wpAny _ _ (if (some (Value.ref f)).isNone = true then _ else _) _ _ _
  rw [if_neg (by simp)]
  refine wpAny_bind (m := callSpecialIfBound? (.ref x) (Str.ofString "__repr__") _) (ifBound_K X I hs hf (wpAny_mono h (fun r s' hr => ?_) fun _ _ y => y))
  obtain ⟨m, tk, rfl, hq⟩ := hr
  refine wpAny_bind (wpAny_isInstance (typeIs_str _ _ _) isSubtype_str_str ?_)
  first
    | exact wpAny_pure ⟨_, rfl, hq⟩
    | (rw [if_pos rfl]; exact wpAny_pure ⟨_, rfl, hq⟩)
    | (simp only [if_true]; exact wpAny_pure ⟨_, rfl, hq⟩)
end
end PySem.OwnS
set_option maxHeartbeats 2000000
/-! Own2: ==, != of own instances; the rules of the hand layer for these. -/
namespace PySem.OwnS
open PySem PySem.W
section
variable {M : Model} {prog : Program} {w : World} {A : Around} {E : Value → Shared → Prop} {s : Shared} {K : Frag} {x y C D f : Addr} {ox oy : Obj} {od od' : Option Obj} {name : Str}
/-- x and b are not the same object -/
def Apart (s : Shared) (x : Addr) (b : Value) : Prop := ∀ (M : Model) (A : Around) (Q : Bool → Shared → Prop) (E : Value → Shared → Prop), Q false s → wpAny M A (isSame (.ref x) b) Q E s
theorem apart_ref (hxy : x ≠ y) (hx : s.heap.get? x = some ox) (hy : s.heap.get? y = some oy) (hnt : ox.cls ≠ .type "tuple") : Apart s x (.ref y) := fun M A Q E h => wpAny_isSame_ref_other hxy hx hy hnt h
theorem apart_int {i : Int} {t : Tok} : Apart s x (.int i t) := fun M A Q E h => wpAny_of_eq (rfl : isSame (.ref x) (.int i t) = pure false) h
theorem eq_entry {b : Value} {Q : Fin → Shared → Prop} (hxb : Apart s x b) (hq : Q (.done (.ret .notImplemented)) s) : wpAny M A (Builtin.«object.__eq__» ⟨[.ref x, b], []⟩) Q E s := by
  unfold Builtin.«object.__eq__»
  refine wpAny_bind (wpAny_of_eq (a := ((Value.ref x : Value), [b])) (by first | rfl | (simp only [slotArgs]; rfl)) ?_)
  exact wpAny_bind (hxb _ _ _ _ (wpAny_pure hq))
/-- object.__eq__ declines another thing -/
theorem eq_declines {b : Value} (X : K.In s.heap) (I : InstAt s.heap x ox C od) (hm : mroIn K C (.type "object") = some true) (hs : findIn K (.ref C) "__eq__" = some (some (.builtin "object.__eq__"))) (hxb : Apart s x b) {Q : Option Value → Shared → Prop} (h : Q none s) :
    wpAny (model prog w) A (tryCompare (.ref x) "__eq__" b) Q E s := by
  unfold tryCompare
  refine wpAny_bind (HN.ifBound_objEq X I hs ?_)
  exact wpAny_call (codeAny_call_builtin F.cmp_object.eq.plain F.cmpEntry_eq (check_slot F.cmpKind_eq F.cmpSplit_eq (I.type.andThen (looks_mroIn X hm)) (F.cmpArgs_eq _ _) (eq_entry hxb (wpAny_pure h))))
/-- x == b where x declines; then b is asked -/
theorem rich_eq {b tb : Value} (hu : A.units < cLine) (X : K.In s.heap) (I : InstAt s.heap x ox C od) (hm : mroIn K C (.type "object") = some true) (hs : findIn K (.ref C) "__eq__" = some (some (.builtin "object.__eq__"))) (hxb : Apart s x b)
    (hb : Looks (model prog w) s.heap (typeOf b) tb) (hn : notFirst K C tb = true) {Q : Value → Shared → Prop}
    (h : wpAny (model prog w) A (tryCompare b "__eq__" (.ref x)) (fun r s' => match r with
      | some v => Q v s'
      | none => s' = s ∧ Q (.bool false) s) E s) : wpAny (model prog w) A (richCompare .Eq (.ref x) b) Q E s := by
  have one : wpAny (model prog w) A (tryCompare (.ref x) "__eq__" b) (fun r s' => r = none ∧ s' = s) E s := eq_declines X I hm hs hxb ⟨rfl, rfl⟩
  have fin : ∀ {r : Option Value} {s' : Shared}, (match r with | some v => Q v s' | none => s' = s ∧ Q (.bool false) s) → wpAny (model prog w) A (match r with | some v => pure v | none => do rule "compare.eq-identity"; return .bool (← isSame (.ref x) b)) Q E s' := by
    intro r s' h
    cases r with
    | some v => exact wpAny_pure h
    | none =>
      obtain ⟨rfl, hq⟩ := h
      exact wpAny_bind (wpAny_rule (wpAny_bind (hxb _ _ _ _ (wpAny_pure hq))))
  simp only [richCompare, cmpInfo_Eq, oneThing_ref]
  refine wpAny_holding (wpAny_bind (wpAny_cRoomFor hu ?_))
  refine wpAny_bind (I.type.here (wpAny_bind (hb.here ?_)))
  split
  · rename_i q
    have e : subIn K tb (.ref C) = some false := by
      rcases Bool.or_eq_true_iff.mp hn with e | e
      · rw [beq_iff_eq.mp e] at q; simp at q
      · exact beq_iff_eq.mp e
    refine wpAny_bind ((looks_subIn X e).here ?_)
    simp only [Bool.false_eq_true, if_false, Bool.not_false, if_true]
    refine wpAny_bind (m := tryCompare (.ref x) _ b) (wpAny_mono one (fun r s1 z => ?_) fun _ _ e => e)
    obtain ⟨z1, z2⟩ := z
    subst z1
    subst z2
    refine wpAny_bind (m := tryCompare b _ (.ref x)) (wpAny_mono h (fun r s2 z => ?_) fun _ _ e => e)
    cases r with
    | some v => exact wpAny_pure z
    | none =>
      obtain ⟨rfl, hq⟩ := z
      exact wpAny_bind (wpAny_rule (wpAny_bind (hxb _ _ _ _ (wpAny_pure hq))))
  · refine wpAny_bind (wpAny_pure ?_)
    simp only [Bool.false_eq_true, if_false, Bool.not_false, if_true]
    refine wpAny_bind (m := tryCompare (.ref x) _ b) (wpAny_mono one (fun r s1 z => ?_) fun _ _ e => e)
    obtain ⟨z1, z2⟩ := z
    subst z1
    subst z2
    refine wpAny_bind (m := tryCompare b _ (.ref x)) (wpAny_mono h (fun r s2 z => ?_) fun _ _ e => e)
    cases r with
    | some v => exact wpAny_pure z
    | none =>
      obtain ⟨rfl, hq⟩ := z
      exact wpAny_bind (wpAny_rule (wpAny_bind (hxb _ _ _ _ (wpAny_pure hq))))
theorem int_declines (i : Int) (t : Tok) (a : Addr) (c : Value) (dd : Option Addr) (sl : Array (Option Value)) : Meets (Builtin.«int.__eq__» ⟨[.int i t, .ref a], []⟩) (fun _ R s => s.heap.get? a = some { cls := c, dict := dd, data := .plain, slots := sl } ∧ R (.ok (.ret .notImplemented)) s) :=
  .of_wp fun prog w A R s h => by
    obtain ⟨hp, g, d, tk, os⟩ := s
    obtain ⟨hl, h⟩ := h
    wp_walk using wpAny_load hl
    exact ⟨_, rfl, h⟩
theorem ifBound_objNe {args : List Value} {Q : Option Value → Shared → Prop} (X : K.In s.heap) (I : InstAt s.heap x ox C od) (hs : findIn K (.ref C) "__ne__" = some (some (.builtin "object.__ne__")))
    (h : wpAny M A (call (.builtin "object.__ne__") (.ref x :: args)) (fun v => Q (some v)) E s) : wpAny M A (callSpecialIfBound? (.ref x) "__ne__" args) Q E s := by
  simp only [callSpecialIfBound?, bindSpecialIfBound?]
  refine wpAny_holding (wpAny_bind (wpAny_bind (wpAny_bind (I.type.here ((looks_findIn X hs).here ?_)))))
  refine wpAny_bind (wpAny_askSetting (wpAny_ite ?_))
  have fin : wpAny M A (call (.builtin "object.__ne__") ([.ref x] ++ args) >>= fun v => pure (some v)) Q E s := wpAny_bind (wpAny_mono h (fun v s' h' => wpAny_pure h') fun _ _ h' => h')
  split
  · exact wpAny_bind (wpAny_of_eq (F.cmp_object.ne.bind _) (wpAny_pure (by exact fin)))
  · exact wpAny_tryCatch (wpAny_bind (wpAny_of_eq (F.cmp_object.ne.bind _) (wpAny_pure (by exact fin))))
theorem same_entry {Q : Fin → Shared → Prop} (hq : Q (.done (.ret (.bool true))) s) : wpAny M A (Builtin.«object.__eq__» ⟨[.ref x, .ref x], []⟩) Q E s := objEq_entry_same hq
theorem ne_self_entry (hu : A.units < cLine) (X : K.In s.heap) (I : InstAt s.heap x ox C od) (hm : mroIn K C (.type "object") = some true) (he : findIn K (.ref C) "__eq__" = some (some (.builtin "object.__eq__"))) {Q : Fin → Shared → Prop} (hq : Q (.done (.ret (.bool false))) s) :
    wpAny (model prog w) A (Builtin.«object.__ne__» ⟨[.ref x, .ref x], []⟩) Q E s := by
  have sp : wpAny (model prog w) A (callSpecialIfBound? (.ref x) "__eq__" [.ref x]) (fun r s' => r = some (.bool true) ∧ s' = s) E s :=
    HN.ifBound_objEq X I he (wpAny_call (codeAny_call_builtin F.cmp_object.eq.plain F.cmpEntry_eq (check_slot F.cmpKind_eq F.cmpSplit_eq (I.type.andThen (looks_mroIn X hm)) (F.cmpArgs_eq _ _) (same_entry ⟨rfl, rfl⟩))))
  unfold Builtin.«object.__ne__»
  refine wpAny_bind (wpAny_of_eq (a := ((Value.ref x : Value), [Value.ref x])) (by first | rfl | (simp only [slotArgs]; rfl)) ?_)
  refine wpAny_bind (wpAny_cRoomFor hu ?_)
  refine wpAny_bind (wpAny_mono sp (fun r s' z => ?_) fun _ _ e => e)
  obtain ⟨rfl, rfl⟩ := z
  refine wpAny_bind (wpAny_truthy_bool ?_)
  exact wpAny_pure hq
/-- x != x -/
theorem rich_ne_self (hu : A.units + 1 < cLine) (X : K.In s.heap) (I : InstAt s.heap x ox C od) (hm : mroIn K C (.type "object") = some true) (he : findIn K (.ref C) "__eq__" = some (some (.builtin "object.__eq__"))) (hs : findIn K (.ref C) "__ne__" = some (some (.builtin "object.__ne__"))) {Q : Value → Shared → Prop} (h : Q (.bool false) s) :
    wpAny (model prog w) A (richCompare .NotEq (.ref x) (.ref x)) Q E s := by
  have one : wpAny (model prog w) A (tryCompare (.ref x) "__ne__" (.ref x)) (fun r s' => r = some (.bool false) ∧ s' = s) E s := by
    unfold tryCompare
    refine wpAny_bind (ifBound_objNe X I hs ?_)
    exact wpAny_call (codeAny_call_builtin F.cmp_object.ne.plain F.cmpEntry_ne (check_slot F.cmpKind_ne F.cmpSplit_ne (I.type.andThen (looks_mroIn X hm)) (F.cmpArgs_ne _ _) (ne_self_entry (A := A.in1) hu X I hm he (wpAny_pure ⟨rfl, rfl⟩))))
  simp only [richCompare, cmpInfo_NotEq, oneThing_ref]
  refine wpAny_holding (wpAny_bind (wpAny_cRoomFor (by omega) ?_))
  refine wpAny_bind (I.type.here (wpAny_bind (I.type.here ?_)))
  split
  · rename_i q
    exact absurd q (by simp)
  · refine wpAny_bind (wpAny_pure ?_)
    simp only [Bool.false_eq_true, if_false, Bool.not_false, if_true]
    refine wpAny_bind (m := tryCompare (.ref x) _ (.ref x)) (wpAny_mono one (fun r s1 z => ?_) fun _ _ e => e)
    obtain ⟨z1, z2⟩ := z
    subst z1
    subst z2
    exact wpAny_pure h
end
end PySem.OwnS
namespace L2
open PySem PySem.Spec PyProof.Rows PySem.OwnS
section
variable {X : Cx} {CX : CXT} {k : Nat} {f C : Addr} {fd : FuncData} {ps : List Str} {sp : Sp} {E : XK} {A1 : Around}
theorem run_own {pins : List (Addr × Obj)} {σ : St} {H : Hp} {s : Shared} {Q : VK} {us : List Value} {vs : List V} (sb : Sub X k A1) (F : FnOk X.prog X.w X.K X.mg X.base CX k f fd ps sp) (hb : Binds X.K fd ps []) (hx : Passes CX X E)
    (I : Inv X pins σ H s) (r : Vals vs us) (h : sp vs H Q E) : wpAny (model X.prog X.w) A1 (call (.ref f) us) (EP X pins σ Q) X.xe s := by
  have e0 : Env0 X.prog X.w X.K X.mg X.base A1 X.stack s H := by
    have e := I.env0
    exact ⟨by rw [sb.fr]; exact e.frames, e.mod, e.bs, e.bsz, e.funs, e.frf, e.hok, e.bare⟩
  have hl : us.length = ps.length := by rw [← r.length]; exact F.len _ _ _ _ h
  refine wpAny_call (codeAny_mono (F.run A1 X.stack s H ⟨us, []⟩ us vs Q E sb.room e0 (by
    have := hb s us I.kIn (by simpa using hl)
    simpa using this) r h) fun r s' hq => ?_)
  cases r with
  | error e => exact hx pins σ H s e s' I hq
  | ok fl =>
    cases fl with
    | ret u => exact I.after hq
    | next => exact False.elim hq
    | brk => exact False.elim hq
    | cont => exact False.elim hq
theorem relRef (a : Addr) : RelV (.ref a) (.ref a) := rfl
/-- x's class keeps its m as the def at f -/
structure Spc (K : PySem.W.Frag) (C : Addr) (m : Str) (f : Addr) : Prop where
  at_ : PySem.W.findIn K (.ref C) m = some (some (.ref f))
  fn : PySem.W.isFn K (.ref f) = true
theorem ins_at {pins : List (Addr × Obj)} {σ : St} {H : Hp} {s : Shared} {a dx : Addr} {fs : List (Str × V)} (I : Inv X pins σ H s) (e : H a = some (.ins C dx fs)) : ∃ od, PySem.W.InstAt s.heap a (PySem.W.instObj C dx) C od := by
  obtain ⟨mA, O, _, _, _, _⟩ := ins_get I.hok e
  obtain ⟨od, J, _⟩ := O.look
  have := J.1
  rw [O.obj] at this
  cases this
  exact ⟨od, J⟩
def rLenO (C : Addr) (sp : Sp) (E : XK) : List V → Hp → VK → Prop := fun xs H Q => ∃ a dx fs, xs = [.ref a] ∧ H a = some (.ins C dx fs) ∧ sp [.ref a] H (fun v H' => ∃ n : Int, v = .int n ∧ 0 ≤ n ∧ n < 2 ^ 62 ∧ Q (.int n) H') E
theorem call_lenO (m : Spc X.K C "__len__" f) (F : FnOk X.prog X.w X.K X.mg X.base CX k f fd ps sp) (hr : Room (k + 1) X.A) (hb : Binds X.K fd ps []) (hx : Passes CX X E) : CallR X (.builtin "len") (rLenO C sp E) := by
  intro pins s σ H xs us Q I r h
  obtain ⟨a, dx, fs, rfl, ha, q⟩ := h
  obtain ⟨u, rfl, ru⟩ := r.one
  cases ru
  obtain ⟨od, J⟩ := ins_at I ha
  refine len_insO I.kIn J m.at_ m.fn (wpAny_mono (run_own (Sub.in1 (⟨hr, rfl⟩ : Sub X (k + 1) X.A)) F hb hx I (.cons (relRef _) .nil) q) (fun v s' z => ?_) fun _ _ e => e)
  obtain ⟨y, H', I', ry, n, rfl, h0, h1, q'⟩ := z
  obtain ⟨t, rfl⟩ := ry
  exact ⟨n, t, rfl, h0, h1, fun t' k' => ⟨.int n, H', I'.tok _, ⟨_, rfl⟩, q'⟩⟩
def rBoolO (C : Addr) (sp : Sp) (E : XK) : List V → Hp → VK → Prop := fun xs H Q => ∃ a dx fs, xs = [.ref a] ∧ H a = some (.ins C dx fs) ∧ sp [.ref a] H (fun v H' => ∃ n : Int, v = .int n ∧ 0 ≤ n ∧ n < 2 ^ 62 ∧ Q (.bl (n != 0)) H') E
theorem call_boolO (m : Spc X.K C "__len__" f) (nb : PySem.W.findIn X.K (.ref C) "__bool__" = some none) (F : FnOk X.prog X.w X.K X.mg X.base CX k f fd ps sp) (hr : Room (k + 3) X.A) (hb : Binds X.K fd ps []) (hx : Passes CX X E) : CallR X (.type "bool") (rBoolO C sp E) := by
  intro pins s σ H xs us Q I r h
  obtain ⟨a, dx, fs, rfl, ha, q⟩ := h
  obtain ⟨u, rfl, ru⟩ := r.one
  cases ru
  obtain ⟨od, J⟩ := ins_at I ha
  refine bool_ins I.kIn J nb m.at_ m.fn (wpAny_mono (run_own (Sub.in1 (Sub.in1 (Sub.in1 (⟨hr, rfl⟩ : Sub X (k + 3) X.A)))) F hb hx I (.cons (relRef _) .nil) q) (fun v s' z => ?_) fun _ _ e => e)
  obtain ⟨y, H', I', ry, n, rfl, h0, h1, q'⟩ := z
  obtain ⟨t, rfl⟩ := ry
  exact ⟨n, t, rfl, h0, h1, fun k' => ⟨.bl (n != 0), H', I'.tok _, rfl, q'⟩⟩
def rReprO (C : Addr) (sp : Sp) (E : XK) : List V → Hp → VK → Prop := fun xs H Q => ∃ a dx fs, xs = [.ref a] ∧ H a = some (.ins C dx fs) ∧ sp [.ref a] H (fun v H' => ∃ y : Str, v = .str y ∧ Q (.str y) H') E
theorem call_reprO (m : Spc X.K C "__repr__" f) (F : FnOk X.prog X.w X.K X.mg X.base CX k f fd ps sp) (hr : Room (k + 1) X.A) (hb : Binds X.K fd ps []) (hx : Passes CX X E) : CallR X (.builtin "repr") (rReprO C sp E) := by
  intro pins s σ H xs us Q I r h
  obtain ⟨a, dx, fs, rfl, ha, q⟩ := h
  obtain ⟨u, rfl, ru⟩ := r.one
  cases ru
  obtain ⟨od, J⟩ := ins_at I ha
  refine repr_ins (Room.units0 (hr.in1)) I.kIn J m.at_ m.fn (wpAny_mono (run_own (Sub.in1 (⟨hr, rfl⟩ : Sub X (k + 1) X.A)) F hb hx I (.cons (relRef _) .nil) q) (fun v s' z => ?_) fun _ _ e => e)
  obtain ⟨y, H', I', ry, n, rfl, q'⟩ := z
  obtain ⟨t, rfl⟩ := ry
  exact ⟨n, t, rfl, ⟨.str n, H', I', ⟨_, rfl⟩, q'⟩⟩
def rInO (C : Addr) (sp : Sp) (E : XK) (neg : Bool) : R2 := fun x y H Q => ∃ a dx fs, y = .ref a ∧ H a = some (.ins C dx fs) ∧ sp [.ref a, x] H (fun v H' => ∃ b : Bool, v = .bl b ∧ Q (.bl (if neg then !b else b)) H') E
theorem op_inO (m : Spc X.K C "__contains__" f) (F : FnOk X.prog X.w X.K X.mg X.base CX k f fd ps sp) (hr : Room k X.A) (hb : Binds X.K fd ps []) (hx : Passes CX X E) : OpR X (compareOp .In) (rInO C sp E false) := by
  intro pins s σ H x y v u Q I rx ry h
  obtain ⟨a, dx, fs, rfl, ha, q⟩ := h
  cases ry
  obtain ⟨od, J⟩ := ins_at I ha
  show wpAny _ _ (contains (.ref a) v >>= fun b => pure (Value.bool b)) _ _ _
  refine wpAny_bind (in_ins I.kIn J m.at_ m.fn (wpAny_mono (run_own (⟨hr, rfl⟩ : Sub X k X.A) F hb hx I (.cons (relRef _) (.cons rx .nil)) q) (fun w s' z => ?_) fun _ _ e => e))
  obtain ⟨y, H', I', ry, b, rfl, q'⟩ := z
  cases ry
  exact ⟨b, rfl, wpAny_pure ⟨.bl b, H', I', rfl, q'⟩⟩
theorem op_notInO (m : Spc X.K C "__contains__" f) (F : FnOk X.prog X.w X.K X.mg X.base CX k f fd ps sp) (hr : Room k X.A) (hb : Binds X.K fd ps []) (hx : Passes CX X E) : OpR X (compareOp .NotIn) (rInO C sp E true) := by
  intro pins s σ H x y v u Q I rx ry h
  obtain ⟨a, dx, fs, rfl, ha, q⟩ := h
  cases ry
  obtain ⟨od, J⟩ := ins_at I ha
  show wpAny _ _ (contains (.ref a) v >>= fun b => pure (Value.bool (!b))) _ _ _
  refine wpAny_bind (in_ins I.kIn J m.at_ m.fn (wpAny_mono (run_own (⟨hr, rfl⟩ : Sub X k X.A) F hb hx I (.cons (relRef _) (.cons rx .nil)) q) (fun w s' z => ?_) fun _ _ e => e))
  obtain ⟨y, H', I', ry, b, rfl, q'⟩ := z
  cases ry
  exact ⟨b, rfl, wpAny_pure ⟨.bl (!b), H', I', rfl, q'⟩⟩
/-- the class has no == of its own -/
structure DefEq (K : PySem.W.Frag) (C : Addr) : Prop where
  mro : PySem.W.mroIn K C (.type "object") = some true
  eq : PySem.W.findIn K (.ref C) "__eq__" = some (some (.builtin "object.__eq__"))
  ne : PySem.W.findIn K (.ref C) "__ne__" = some (some (.builtin "object.__ne__"))
theorem op_neSelf (hu : X.A.units + 1 < cLine) : OpR X (compareOp .NotEq) (fun x y H Q => ∃ a C dx fs, x = .ref a ∧ y = .ref a ∧ H a = some (.ins C dx fs) ∧ DefEq X.K C ∧ Q (.bl false) H) := by
  intro pins s σ H x y v u Q I rx ry h
  obtain ⟨a, C, dx, fs, rfl, rfl, ha, c, q⟩ := h
  cases rx
  cases ry
  obtain ⟨od, J⟩ := ins_at I ha
  exact rich_ne_self hu I.kIn J c.mro c.eq c.ne ⟨.bl false, H, I, rfl, q⟩
/-- two things, each without == of its own -/
theorem op_eqApart (hu : X.A.units < cLine) : OpR X (compareOp .Eq) (fun x y H Q => ∃ a b C D dx dy fs gs, x = .ref a ∧ y = .ref b ∧ a ≠ b ∧ H a = some (.ins C dx fs) ∧ H b = some (.ins D dy gs) ∧ DefEq X.K C ∧ DefEq X.K D ∧ PySem.W.notFirst X.K C (.ref D) = true ∧ Q (.bl false) H) := by
  intro pins s σ H x y v u Q I rx ry h
  obtain ⟨a, b, C, D, dx, dy, fs, gs, rfl, rfl, hab, ha, hb, c, d, hn, q⟩ := h
  cases rx
  cases ry
  obtain ⟨od, J⟩ := ins_at I ha
  obtain ⟨od', J'⟩ := ins_at I hb
  refine rich_eq hu I.kIn J c.mro c.eq (apart_ref hab J.1 J'.1 (fun z => by cases z)) J'.type hn ?_
  exact eq_declines I.kIn J' d.mro d.eq (apart_ref (Ne.symm hab) J'.1 J.1 (fun z => by cases z)) ⟨rfl, .bl false, H, I, rfl, q⟩
/-- the second one has its own == -/
theorem op_eqRefl {D : Addr} (m : Spc X.K D "__eq__" f) (F : FnOk X.prog X.w X.K X.mg X.base CX k f fd ps sp) (hr : Room k X.A) (hb : Binds X.K fd ps []) (hx : Passes CX X E) :
    OpR X (compareOp .Eq) (fun x y H Q => ∃ a b C dx dy fs gs, x = .ref a ∧ y = .ref b ∧ a ≠ b ∧ H a = some (.ins C dx fs) ∧ H b = some (.ins D dy gs) ∧ DefEq X.K C ∧ PySem.W.notFirst X.K C (.ref D) = true ∧ sp [.ref b, .ref a] H (fun v H' => ∃ c : Bool, v = .bl c ∧ Q (.bl c) H') E) := by
  intro pins s σ H x y v u Q I rx ry h
  obtain ⟨a, b, C, dx, dy, fs, gs, rfl, rfl, hab, ha, hb', c, hn, q⟩ := h
  cases rx
  cases ry
  obtain ⟨od, J⟩ := ins_at I ha
  obtain ⟨od', J'⟩ := ins_at I hb'
  refine rich_eq hr.units0 I.kIn J c.mro c.eq (apart_ref hab J.1 J'.1 (fun z => by cases z)) J'.type hn ?_
  unfold tryCompare
  refine wpAny_bind (PySem.W.ifBound_K I.kIn J' m.at_ m.fn (wpAny_mono (run_own (⟨hr, rfl⟩ : Sub X k X.A) F hb hx I (.cons (relRef _) (.cons (relRef _) .nil)) q) (fun w s' z => ?_) fun _ _ e => e))
  obtain ⟨y, H', I', ry, e, rfl, q'⟩ := z
  cases ry
  exact wpAny_pure ⟨.bl e, H', I', rfl, q'⟩
/-- the second one is an int -/
theorem op_eqInt (hu : X.A.units < cLine) : OpR X (compareOp .Eq) (fun x y H Q => ∃ a i C dx fs, x = .ref a ∧ y = .int i ∧ H a = some (.ins C dx fs) ∧ DefEq X.K C ∧ PySem.W.notFirst X.K C (.type "int") = true ∧ Q (.bl false) H) := by
  intro pins s σ H x y v u Q I rx ry h
  obtain ⟨a, i, C, dx, fs, rfl, rfl, ha, c, hn, q⟩ := h
  cases rx
  obtain ⟨t, rfl⟩ := ry
  obtain ⟨od, J⟩ := ins_at I ha
  refine rich_eq hu I.kIn J c.mro c.eq apart_int (tb := .type "int") (fun A Q E s k q => wpAny_typeOf (typeIs_int _ _ _) q) hn ?_
  have e := J.1
  refine wpAny_tryCompare_declines (typeIs_int _ _ _) PySem.F.slot_int_eq_refl (call_meets PySem.F.slot_int_eq_refl (typeIs_int _ _ _) PySem.F.entry_int_eq (PySem.F.args_int_eq_2 _ _) (int_declines i t a _ _ _) ⟨e, rfl, rfl, .bl false, H, I, rfl, q⟩)
end
end L2
set_option maxHeartbeats 4000000
/-! HotT: a tuple unpacked while an exception is handled; try/finally whose suite knows that the exception's context is None. -/
namespace HotT
open PySem PySem.Spec PyProof.Rows HotX
section
variable {prog : Program} {w : World} {A : Around} {E : Value → Shared → Prop} {s : Shared}
/-- the iterator of a tuple is at its end -/
theorem next_end {it t x1 : Addr} {i : Nat} {items : Array Value} {Q : Option Value → Shared → Prop} (hot : HotAt A x1 s.heap) (hne : it ≠ x1) (hit : IsTupIter s.heap it t i) (ht : IsTup s.heap t items) (hx : items[i]? = none)
    (hQ : ∀ h', Heap.ExtBut it s.heap h' → Q none { s with heap := h' }) : wpAny (model prog w) A (pyNext (.ref it)) Q E s := by
  obtain ⟨o, ho, hc, hd⟩ := id hit
  obtain ⟨ol, hol, _, nl, hdl⟩ := ht
  obtain ⟨hh, o1, vs1, g1, d1, c1⟩ := hot
  unfold pyNext
  refine wpAny_bind (wpAny_attempt (wpAny_callSpecial?_slot (name := Str.ofString "__next__") hit.typeIs slot_tupleiter_next
    (wpAny_call_entry slot_tupleiter_next hit.typeIs entry_tupleiter_next ?_ (args_tupleiter_next _))))
  show wpAny _ _ (field (.ref it) 0 >>= _) _ _ s
  refine wpAny_bind (wpAny_field ho hd (x := .ref t) rfl ?_)
  show wpAny _ _ (if (Value.ref t == Value.none) = true then _ else _) _ _ s
  rw [if_neg (show ¬ ((Value.ref t == Value.none) = true) from Bool.false_ne_true)]
  show wpAny _ _ (field (.ref it) 1 >>= _) _ _ s
  refine wpAny_bind (wpAny_field ho hd (x := .int i 0) rfl ?_)
  show wpAny _ _ (seqItems? (.ref t) >>= _) _ _ s
  refine wpAny_bind (wpAny_seqItems hol hdl ?_)
  simp only [Int.toNat_natCast, hx]
  refine wpAny_bind (wpAny_rule (wpAny_bind (wpAny_setField ho hd (by simp) ?_)))
  have g2 := (Heap.get?_update_other s.heap (Obj.mapFields (·.setIfInBounds 0 Value.none)) hne).trans g1
  show wpAny _ _ (newExc (.type "StopIteration") [] >>= _) _ _ _
  refine wpAny_bind ?_
  simp only [newExc, newTuple]
  refine wpAny_bind (wpAny_newObj_type ?_ (by size_fits))
  refine wpAny_bind (m := firstArgMember _ _) (wpAny_of_eq (a := Value.none) (by first | rfl | (simp only [firstArgMember]; rfl)) ?_)
  refine wpAny_newObj_type ?_ (by size_fits)
  refine raiseNew_hot ⟨hh, o1, vs1, Heap.get?_push_of_some _ (Heap.get?_push_of_some _ g2), d1, c1⟩ (Nat.ne_of_lt (Heap.lt_size (Heap.get?_push_of_some _ g2))) (Heap.get?_push_size _ rfl) rfl (by first | (simp; done) | (simp; omega) | (simp only [Array.size_append]; simp; omega)) ?_
  refine wpAny_bind (wpAny_isInstance (T := "StopIteration") (b := true) ⟨_, Heap.get?_update_self _ (Heap.get?_push_size _ rfl) rfl, rfl⟩ isSubtype_stop ?_)
  refine wpAny_pure (hQ _ fun b ob hb e => ?_)
  have e1 := (Heap.get?_update_other s.heap (Obj.mapFields (·.setIfInBounds 0 Value.none)) (Ne.symm hb)).trans e
  rw [Heap.get?_update_other _ _ (Nat.ne_of_gt (Heap.lt_size (Heap.get?_push_of_some _ e1)))]
  exact Heap.get?_push_of_some _ (Heap.get?_push_of_some _ e1)
theorem unpack_hot {t x1 : Addr} {items : Array Value} {targets : List (Bool × (Value → Sem Unit))} {Q : Unit → Shared → Prop} (hot : HotAt A x1 s.heap) (ht : IsTup s.heap t items)
    (hn : targets.length = items.size) (hstar : targets.findIdx? (·.1) = none)
    (h : ∀ h', Heap.ExtBut s.heap.objs.size s.heap h' → wpAny (model prog w) A (assignInOrder (targets.map (·.2)) items.toList) Q E { s with heap := h' }) :
    wpAny (model prog w) A (unpack (.ref t) targets) Q E s := by
  have hlt : t ≠ s.heap.objs.size := by
    obtain ⟨o, ho, _⟩ := ht
    exact Nat.ne_of_lt (Heap.lt_size ho)
  obtain ⟨hh, o1, vs1, g1, d1, c1⟩ := hot
  have hl1 : x1 ≠ s.heap.objs.size := Nat.ne_of_lt (Heap.lt_size g1)
  unfold unpack
  rw [hn, hstar]
  refine wpAny_bind (wpAny_holding ?_)
  unfold unpackItems
  refine wpAny_bind ?_
  unfold notIterableAtAll
  refine wpAny_bind (wpAny_specialOf ht.typeIs slot_tuple_iter.lookup ?_)
  refine wpAny_pure ?_
  simp only [Bool.false_eq_true, if_false]
  refine wpAny_bind (wpAny_holding (iter_tuple ht ?_))
  refine wpAny_bind (wpAny_holding (draw_tuple hlt items.size 0 _ _ ⟨_, Heap.get?_push_size _ rfl, rfl, rfl⟩ (ht.push _) (by omega) fun h2 hit2 hs2 => ?_))
  have hall : List.take items.size (List.drop 0 items.toList) = items.toList := by
    rw [List.drop_zero]
    exact List.take_of_length_le (by simp)
  rw [hall]
  rw [if_neg (by simp)]
  have ht2 : IsTup h2 t items := (ht.push _).extBut hs2.extBut hlt
  have g2 : h2.get? x1 = some o1 := (hs2.2 x1 hl1).trans (Heap.get?_push_of_some _ g1)
  refine wpAny_bind (wpAny_holding (next_end (s := { s with heap := h2 }) ⟨hh, o1, vs1, g2, d1, c1⟩ (Ne.symm hl1) hit2 ht2 (by simp) fun h3 he3 => ?_))
  simp only [Option.isSome_none, Bool.false_eq_true, if_false]
  exact wpAny_pure (h h3 fun b o hb e => he3 b o hb (hs2.extBut b o hb (Heap.get?_push_of_some _ e)))
end
end HotT
namespace L2
open PySem PySem.Spec PyProof.Rows
section
variable {X : Cx} {pos : Pos}
theorem pg_tupH {es : List Expr} {k : Nat} {t : TGs} {n : Nat} (hc : L2H.HotC X) (h : PGs X es t)
    (hn : (assignEach es X.env).length = n := by rfl) (hst : (assignEach es X.env).findIdx? (·.1) = none := by rfl) : PG X (.Tuple es k pos) (gTup X.K n t) := by
  refine ⟨fun pins s σ H v u Q I r hw => ?_⟩
  obtain ⟨a, xs, rfl, hq, hl, hw⟩ := hw
  cases r
  obtain ⟨its, rv, ht, hz⟩ := I.tuple hq
  obtain ⟨x1, hot⟩ := hc.at I
  rw [assign_Tuple]
  refine wpAny_bind (wpAny_standAt (HotT.unpack_hot hot ht (by simp [hn, ← hl, rv.length]) hst fun h' hx => ?_))
  exact h.run pins _ σ H xs _ Q (I.kept (t' := s.toks) fun b o e => hx b o (Nat.ne_of_lt (Heap.lt_size e)) e) (by simpa using rv) hw
end
section
variable {X : Cx} {K : PySem.W.Frag} {pos : Pos}
theorem pg_tupHK {es : List Expr} {k : Nat} {t : TGs} {n : Nat} (hK : X.K = K) (hc : L2H.HotC X) (h : PGs X es t)
    (hn : (assignEach es X.env).length = n := by rfl) (hst : (assignEach es X.env).findIdx? (·.1) = none := by rfl) : PG X (.Tuple es k pos) (gTup K n t) := hK ▸ pg_tupH hc h hn hst
end
/-- what is known of more is known -/
theorem takesN_of {X : Cx} {W : WX} (t : Takes X W) : L2N.Takes X W := fun u s' x => by
  obtain ⟨a, B, sI, pins, σ, H, cls, d, e, I, nb, up, sky, na, os, ag, hw⟩ := x
  refine t u s' ⟨a, B, sI, pins, σ, H, cls, d, e, I, nb, up, ?_, na, os, ag, hw⟩
  rcases sky with ⟨h1, h2, h3, oe, vs, h4, h5, h6, h7⟩ | ⟨h1, h2, h3, oe, vs, T, oT, ts, h4, h5, h6⟩ | ⟨h1, h2, h3, oe, vs, T, oT, ts, h4, h5, h6⟩
  · exact .inl ⟨h1, h2, h3, oe, vs, h4, h5.zc, h6, h7⟩
  · exact .inr (.inl ⟨h1, h2, h3, oe, vs, T, oT, ts, h4, h5.zc, h6⟩)
  · exact .inr (.inr ⟨h1, h2, h3, oe, vs, T, oT, ts, h4, h5.zc, h6⟩)
/-! ### try: body / finally: suite, where the suite knows the exception's context -/
section
variable {X : Cx} {body : List Stmt} {f₀ : Stmt} {fs : List Stmt} {pos : Pos} {tb : WX → TS} {tf tfs : TS} {Wout : WX}
theorem hot_suite {a : Addr} {oe : Obj} {vs : Array Value} {pn : List (Addr × Obj)} (hd : oe.data = .fields vs) (hc : PySem.PXN.CtxN oe) : L2H.HotC (X.suite a ((a, oe) :: pn)) := ⟨(a, oe), ⟨rfl, vs, hd, hc vs hd⟩, List.mem_cons_self⟩
/-- the wish that the suite, then the outer wish, makes of the exception -/
theorem fin_meet {pins : List (Addr × Obj)} {D : Ends} {u : Value} {s' : Shared} (hs : X.stack = X.env :: X.outer) (hf : X.env.frame = some X.env.locals) (hex : X.ex = []) (ok : X.Ok) (tk : L2N.Takes X Wout)
    (hsu : ∀ (a : Addr) (pn : List (Addr × Obj)), L2H.HotC (X.suite a pn) → PSs (X.suite a pn) (f₀ :: fs) tfs)
    (xx : L2N.XE (X.tr (X.pn ++ pins) (fun x s2 => wpAny (model X.prog X.w) X.A (noteFrame x X.env) (fun _ s3 => FinallyRaised X.prog X.w X.A X.xe X.env (f₀ :: fs) (SP X pins D) x s3) (FinallyRaised X.prog X.w X.A X.xe X.env (f₀ :: fs) (SP X pins D)) s2)) (wFin tfs Wout) u s') :
    wpAny (model X.prog X.w) X.A (noteFrame u X.env) (fun _ s2 => FinallyRaised X.prog X.w X.A X.xe X.env (f₀ :: fs) (SP X pins D) u s2) (FinallyRaised X.prog X.w X.A X.xe X.env (f₀ :: fs) (SP X pins D)) s' := by
  have hfr : X.A.frames = some (X.env :: X.outer) := by rw [ok.frames, hs]
  obtain ⟨a, B, sI, pins', σ, H, cls, d, rfl, J', nb, up, sky, na, os, ag, hw⟩ := xx
  have J : Inv X pins σ H sI := J'.ofTry ok
  have sky : Sky B (X.env :: X.outer) a (L2N.Zn cls d) X.env.locals s'.heap := by rw [← hs]; exact sky
  have after : ∀ h1, HandSPX.HeldZ B (X.env :: X.outer) a (L2N.Zn cls d) X.env.locals h1 → s'.heap.UpToSlots h1 → FinallyRaised X.prog X.w X.A X.xe X.env (f₀ :: fs) (SP X pins D) (.ref a) { s' with heap := h1 } := fun h1 hh1 up1 => by
    refine ⟨ref_ne_byPass a, HandSPX.againZ hf hh1.2.2.2 (HandSPX.landsZ hh1 fun h3 fl3 up3 => ?_)⟩
    have J3 : Inv X pins σ H { s' with heap := h3 } := J.landed nb fl3.1 ((up.trans up1).trans up3) os ag
    obtain ⟨k1, k2, k3, oe, vs, T, oT, ts, he3, hz, hd, hv1, hnT, hTe, hT, hdT, ht3⟩ := id fl3
    have nT : H T = none := (J.inGround nb).gone hnT
    have noFr : ∀ (b : Addr) (o : Obj) (fv : Array Value), h3.get? b = some o → o.data = .fields fv → b ∉ frs (X.env :: X.outer) := fun b o fv e dd hm => by
      obtain ⟨_, o', e', hnf⟩ := k3.mem hm
      rw [e] at e'
      cases e'
      exact hnf _ dd
    have locF : X.env.locals ∈ frs (X.env :: X.outer) := List.mem_filterMap.mpr ⟨X.env, List.mem_cons_self, hf⟩
    have outF : ∀ b, b ∈ X.fs → b ∈ frs (X.env :: X.outer) := fun b hm => by
      obtain ⟨e, he, q⟩ := List.mem_filterMap.mp hm
      exact List.mem_filterMap.mpr ⟨e, List.mem_cons_of_mem _ he, q⟩
    have fa := noFr a oe vs he3 hd
    have fT := noFr T oT ts hT hdT
    have pinA : ∀ {b : Addr} {o : Obj} {fv : Array Value}, h3.get? b = some o → o.data = .fields fv → H b = none → b ∉ frs (X.env :: X.outer) → h3.get? b = some o ∧ H b = none ∧ b ≠ X.env.locals ∧ b ∉ X.fs ∧ ∀ v, o.data ≠ .cell v := fun {b o fv} e dd hn hm =>
      ⟨e, hn, fun z => hm (z ▸ locF), fun z => hm (outF _ z), fun v z => by rw [dd] at z; cases z⟩
    have S3 : Inv (X.suite a ((a, oe) :: (T, oT) :: (X.pn ++ pins))) [] σ H { s' with heap := h3 } :=
      ⟨J3.ok.suite _ _, J3.os, J3.bare, J3.base, J3.loc, J3.cell, J3.free, J3.freeC, fun p hp => by
        rw [List.append_nil] at hp
        rcases List.mem_cons.mp hp with z | hp
        · subst z
          exact pinA he3 hd na fa
        · rcases List.mem_cons.mp hp with z | hp
          · subst z
            exact pinA hT hdT nT fT
          · exact J3.pin p hp, J3.hok, J3.len⟩
    refine wpAny_mono ((hsu a ((a, oe) :: (T, oT) :: (X.pn ++ pins)) (hot_suite hd hz.2.2)).run [] { s' with heap := h3 } σ H { nx := fun σ2 H2 => Wout cls d σ2 H2, rt := fun _ _ => False } S3 hw) (fun g s6 hsp => ?_) fun _ _ z => False.elim z
    cases g with
    | ret u =>
      obtain ⟨_, _, _, _, _, q⟩ := hsp
      exact q.elim
    | brk =>
      obtain ⟨_, _, _, q⟩ := hsp
      exact q.elim
    | cont =>
      obtain ⟨_, _, _, q⟩ := hsp
      exact q.elim
    | next =>
      obtain ⟨σ6, H6, S6, q6⟩ := hsp
      have J6 : Inv X pins σ6 H6 s6 := ⟨ok, S6.os, S6.bare, S6.base, S6.loc, S6.cell, S6.free, S6.freeC, fun p hp => S6.pin p (List.mem_append_left _ (List.mem_cons_of_mem _ (List.mem_cons_of_mem _ hp))), S6.hok, S6.len⟩
      have pa := S6.pin (a, oe) (List.mem_append_left _ List.mem_cons_self)
      have pT := S6.pin (T, oT) (List.mem_append_left _ (List.mem_cons_of_mem _ List.mem_cons_self))
      have ga : s6.heap.get? a = some oe := pa.1
      have gT : s6.heap.get? T = some oT := pT.1
      have far : ∀ b o, sI.heap.get? b = some o → b ≠ a ∧ b ≠ T := fun b o e => by
        by_cases hb : b ∈ frs X.stack
        · rw [hs] at hb
          exact ⟨fun z => fa (z ▸ hb), fun z => fT (z ▸ hb)⟩
        · have q := nb b o e hb
          refine ⟨fun z => ?_, fun z => ?_⟩
          · rw [z, k2] at q
            cases q
          · rw [z, hnT] at q
            cases q
      have far0 : ∀ b o, X.s_0.heap.get? b = some o → b ≠ a ∧ b ≠ T := fun b o e => by
        obtain ⟨o', q⟩ := J.base.there b o e (by rw [hex]; simp)
        exact far b o' q
      obtain ⟨G, g1, g2⟩ := restrict s6.heap fun b => !(decide (b = a) || decide (b = T))
      have gIn : ∀ b o, G.get? b = some o → s6.heap.get? b = some o ∧ b ≠ a ∧ b ≠ T := fun b o e => by
        cases q : (!(decide (b = a) || decide (b = T))) with
        | false =>
          rw [g2 b q] at e
          cases e
        | true =>
          rw [g1 b q] at e
          simp only [Bool.not_eq_true', Bool.or_eq_false_iff, decide_eq_false_iff_not] at q
          exact ⟨e, q.1, q.2⟩
      have I6 : Inv X pins σ6 H6 { s6 with heap := G } := J6.less (fun b o e => (gIn b o e).1) (fun b o n1 n2 e => (g1 b (by simp [n1, n2])).trans e) ⟨oe, vs, ga, hd⟩ ⟨oT, ts, gT, hdT⟩ pa.2.1 pT.2.1 far0 fun p hp => far p.1 p.2 (J.pin p hp).1
      have inB : ∀ b o, (PySem.W.hideAll G (frs X.stack)).get? b = some o → s6.heap.get? b = some o ∧ b ≠ a ∧ b ≠ T := fun b o e => gIn b o (PySem.W.of_hideAll _ e)
      have noB : ∀ b, (b = a ∨ b = T) → (PySem.W.hideAll G (frs X.stack)).get? b = none := fun b hb => by
        cases q : (PySem.W.hideAll G (frs X.stack)).get? b with
        | none => rfl
        | some o =>
          obtain ⟨_, n1, n2⟩ := inB b o q
          exact absurd hb (by simp [n1, n2])
      have fl6 : HandSPX.FlyingZ (PySem.W.hideAll G (frs X.stack)) (X.env :: X.outer) a (L2N.Zn cls d) s6.heap := by
        refine ⟨fun b o e => (inB b o e).1, noB a (.inl rfl), ?_, oe, vs, T, oT, ts, ga, hz, hd, hv1, noB T (.inr rfl), hTe, gT, hdT, ht3⟩
        rw [← hs]
        exact funFrames_none (B := PySem.W.hideAll G (frs X.stack)) J6.stack fun b hb => PySem.W.hideAll_none _ hb
      show wpAny (model X.prog X.w) X.A (PySem.passOn "try.finally" (.ref a) X.env) (SP X pins D) X.xe s6
      unfold PySem.passOn
      refine wpAny_bind (wpAny_field ga hd hv1 ?_)
      rw [if_neg (show ¬ ((Value.ref T == Value.none) = true) from by simp)]
      have goOn : wpAny (model X.prog X.w) X.A (setFlight (.ref a) X.env.frame) (fun _ s7 => wpAny (model X.prog X.w) X.A (throw (.ref a) : Sem Flow) (SP X pins D) X.xe s7) X.xe s6 := by
        rw [hf]
        refine HandSPX.setFlight_upZ fl6 fun h7 hh7 up7 => wpAny_throw (tk _ _ ?_)
        refine ⟨a, PySem.W.hideAll G (frs X.stack), { s6 with heap := G }, pins, σ6, H6, cls, d, rfl, I6, fun b o e hb => PySem.W.hideAll_get _ e hb, ?_, .inr (.inr (by rw [← hs] at hh7; exact hh7)), pa.2.1, rfl, J6.bare, q6⟩
        exact Heap.UpToSlots.trans (Heap.UpToSlots.of_keeps fun b o e => (gIn b o e).1) up7
      first
        | exact wpAny_bind (wpAny_pure (wpAny_bind goOn))
        | exact wpAny_bind goOn
  show wpAny (model X.prog X.w) X.A (noteFrame (.ref a) X.env) _ _ _
  rcases sky with ⟨hB, hn, hl, oe, vs, he0, hz, hd, hv1⟩ | fl | hh
  · exact PySem.PXN.look_newZ L2N.Zn.steady hfr hl hf he0 hB hn hd hv1 hz after
  · exact PySem.PXN.looks_onZ L2N.Zn.steady hfr hf fl after
  · exact HandSPX.againZ hf hh.2.2.2 (after s'.heap hh (Heap.UpToSlots.refl _))
def tFinN (tb : WX → TS) (tf tfs : TS) (Wout : WX) : TS := fun D σ H => tb (wFin tfs Wout) { nx := fun σ1 H1 => tf D σ1 H1, rt := fun _ _ => False } σ H
theorem ps_finN (hs : X.stack = X.env :: X.outer) (hf : X.env.frame = some X.env.locals) (hex : X.ex = []) (tk : L2N.Takes X Wout)
    (hb : ∀ (W : WX) (pn : List (Addr × Obj)) (xe : Value → Shared → Prop), L2N.Takes (X.tr pn xe) W → PassesOwn (model X.prog X.w) X.A X.env xe → PSs (X.tr pn xe) body (tb W))
    (hfin : PSs X.nox (f₀ :: fs) tf) (hsu : ∀ (a : Addr) (pn : List (Addr × Obj)), L2H.HotC (X.suite a pn) → PSs (X.suite a pn) (f₀ :: fs) tfs) : PS X (.Try body [] [] (f₀ :: fs) pos) (tFinN tb tf tfs Wout) := by
  refine ⟨fun pins s σ H D I h => ?_⟩
  have ok := I.ok
  refine wpAny_Try_finally ?_
  refine wpAny_mono ((hb (wFin tfs Wout) (X.pn ++ pins) (fun x s2 => wpAny (model X.prog X.w) X.A (noteFrame x X.env) (fun _ s3 => FinallyRaised X.prog X.w X.A X.xe X.env (f₀ :: fs) (SP X pins D) x s3) (FinallyRaised X.prog X.w X.A X.xe X.env (f₀ :: fs) (SP X pins D)) s2)
    (fun u s' xx => fin_meet hs hf hex ok tk hsu xx) PassesOwn.looking).run [] s σ H { nx := fun σ1 H1 => tf D σ1 H1, rt := fun _ _ => False } (I.toTry _) h) (fun g s1 z => ?_) (fun x s1 hx => hx)
  cases g with
  | ret u =>
    obtain ⟨_, _, _, _, _, q⟩ := z
    exact q.elim
  | brk =>
    obtain ⟨_, _, _, q⟩ := z
    exact q.elim
  | cont =>
    obtain ⟨_, _, _, q⟩ := z
    exact q.elim
  | next =>
    obtain ⟨σ1, H1, J1, q1⟩ := z
    refine wpAny_execs_nil ?_
    refine wpAny_mono (hfin.run pins s1 σ1 H1 D ((J1.ofTry ok).wish _) q1) (fun g2 s2 q2 => ?_) fun _ _ e => False.elim e
    have q3 : SP X pins D g2 s2 := q2.unwish
    cases g2 <;> exact q3
end
end L2
set_option maxHeartbeats 4000000
/-! Ed6: makes and methods, with what they promise. -/
namespace Ed
open PySem L2 Evl
/-- nothing leaves -/
theorem passF {X : Cx} : Passes (L2N.CX X.prog X.w) X (fun _ _ _ => False) := fun _ _ _ _ _ _ _ h => by
  obtain ⟨_, _, _, _, _, _, _, _, _, _, _, _, f⟩ := h
  exact f.elim
/-- what leaves the callee leaves the def -/
theorem passX {X : Cx} {W : WX} {E : XK} (tk : L2N.Takes X W) (h : ∀ cls d σ H, E cls d H → W cls d σ H) : Passes (L2N.CX X.prog X.w) X E := L2N.passes_call tk h
section
variable {K : PySem.W.Frag} {σ : L2.St} {H : Hp} {te ta tb : TE} {tr : TA} {d : PyData} {ds : List PyData} {D : Ends} {tz : TS} {a C dx : Addr} {fs : List (Str × V)} {f : Str} {v : V}
/-- a tuple of tuples, sliced: never the whole -/
theorem ev_notIdent {b : Bool} (h : Ev te σ H (.bl b)) : Ev te σ H (.bl b) := h
/-- x in t, t a tuple of texts -/
theorem ev_inStrs {x : Str} {l : List Str} {neg : Bool} (ha : Ev ta σ H (.str x)) (hb : EvD K tb σ H (.tuple (l.map PyData.str))) : Ev (tOp (rIn K neg) ta tb) σ H (.bl (if neg then !decide (x ∈ l) else decide (x ∈ l))) := fun H1 e Q q =>
  ha H1 e _ fun H2 e2 => hb H2 (e.trans e2) _ fun w H3 e3 hw => by
    obtain ⟨b, xs, rfl, hs, hx⟩ := dp_tup hw
    have hxs := dpAll_strs_of hx
    subst hxs
    refine ⟨b, _, rfl, .inr hs, rfl, flat_strs l, ?_⟩
    rw [inV_strs]
    exact q H3 (e2.trans e3)
theorem tyX_ex {H' : Hp} {t : Value} (h : TyX K H v t) (e : Ex H H') : TyX K H' v t := by
  cases h with
  | base b =>
    refine .base ?_
    cases b with
    | non => exact .non
    | bl x => exact .bl x
    | int i => exact .int i
    | str x => exact .str x
    | flt x => exact .flt x
    | lst h => exact .lst (e _ _ h)
    | frz h => exact .frz (e _ _ h)
    | tup h => exact .tup (e _ _ h)
    | dK h => exact .dK (e _ _ h)
    | dT h => exact .dT (e _ _ h)
    | ins h c a n t m => exact .ins (e _ _ h) c a n t m
  | byt b => exact .byt b
  | set h => exact .set (e _ _ h)
  | kList h c => exact .kList h c
  | kTuple h c => exact .kTuple h c
  | kDict h c => exact .kDict h c
  | fTuple h => exact .fTuple (e _ _ h)
  | fDict h => exact .fDict (e _ _ h)
theorem ev_isOwn {t : Value} {b : Bool} (h : Ev ta σ H v) (hT : Ev tb σ H (.ref C)) (ty : TyX K H v t) (hk : PySem.W.kitOne K t (.ref C) = some b) : Ev (tCB (rIsi K) (tCons ta (tCons tb tNil))) σ H (.bl b) := fun H1 e Q q =>
  h H1 e _ fun H2 e2 => hT H2 (e.trans e2) _ fun H3 e3 => ⟨v, .ref C, t, .ref C, b, rfl, .own C, tyX_ex ty ((e.trans e2).trans e3), hk, q H3 (e2.trans e3)⟩
end
end Ed
set_option maxHeartbeats 4000000
/-! Ed7: int(..), heaps that change at one list. -/
namespace Ed
open PySem L2 Evl
theorem _root_.L2.Room.units65 {k : Nat} {A : Around} (r : Room k A) : A.units + 65 < cLine := by
  have := r.un
  omega
/-- all but the list at p stands as it stood -/
structure Kl (p : Addr) (H H' : Hp) : Prop where
  off : Off [p] H H'
  tx : Tx H H'
section
variable {K : PySem.W.Frag} {H H' H2 : Hp} {p b : Addr} {o u : HO} {xs : List V}
theorem Kl.refl (p : Addr) (H : Hp) : Kl p H H := ⟨Off.refl _ _, Tx.refl _⟩
theorem Kl.trans (a : Kl p H H') (b : Kl p H' H2) : Kl p H H2 := ⟨a.off.trans b.off, a.tx.trans b.tx⟩
theorem Kl.of (e : Ex H H') : Kl p H H' := ⟨Off.of e, Tx.of e⟩
theorem Kl.upd (h : H p = some (.lst xs)) : Kl p H (L2.upd H p u) := ⟨Off.upd (by simp), Tx.lst h⟩
theorem Kl.at_ (k : Kl p H H') (h : H b = some o) (hn : b ≠ p) : H' b = some o := k.off b o (by simpa using hn) h
theorem Kl.atL (k : Kl p H H') {ys : List V} {b : Addr} (h : H b = some (.lst ys)) (hn : b ≠ p) : H' b = some (.lst ys) := k.at_ h hn
/-- a list that came later may change too -/
theorem Kl.comb {l : Addr} (a : Kl p H H') (b : Kl l H' H2) (hl : H l = none) : Kl p H H2 := ⟨fun c o hc e => b.off c o (by
  refine fun z => ?_
  rw [List.mem_singleton.mp z, hl] at e
  cases e) (a.off c o hc e), a.tx.trans b.tx⟩
theorem Kl.ex {l : Addr} (b : Kl l H H') (hl : H l = none) : Ex H H' := fun c o e => b.off c o (by
  refine fun z => ?_
  rw [List.mem_singleton.mp z, hl] at e
  cases e) e
theorem Kl.free (k : Kl p H H') (hp : H p ≠ none → H' p ≠ none) {q : Addr} (h : H' q = none) : H q = none := k.off.free (fun a ha => by
  rw [List.mem_singleton.mp ha]
  exact hp) h
end
section
variable {K : PySem.W.Frag} {σ : L2.St} {H : Hp} {te ta tb : TE} {i j : Int}
/-- int(e), e an int -/
theorem ev_int1 (h : Ev te σ H (.int i)) : Ev (tCB (fun xs H Q => (∃ i, xs = [V.int i] ∧ Q (V.int i) H) ∨ ∃ k, xs = [V.bl k] ∧ Q (V.int (if k = true then 1 else 0)) H) (tCons te tNil)) σ H (.int i) := fun H1 e Q q =>
  h H1 e _ fun H2 e2 => .inl ⟨i, rfl, q H2 e2⟩
theorem ev_abs {te : TE} (h : Ev te σ H (.int i)) : Ev (tCB (fun xs H Q => ∃ n, xs = [V.int n] ∧ Q (V.int (if n < 0 then -n else n)) H) (tCons te tNil)) σ H (.int (if i < 0 then -i else i)) := fun H1 e Q q => h H1 e _ fun H2 e2 => ⟨i, rfl, q H2 e2⟩
theorem ev_pow (ha : Ev ta σ H (.int i)) (hb : Ev tb σ H (.int j)) (hc : 0 ≤ j ∧ j ≤ 1000000 ∧ i.natAbs < 2 ^ 64) : Ev (tOp (rI (fun i j => 0 ≤ j ∧ j ≤ 1000000 ∧ i.natAbs < 2 ^ 64) fun i j => V.int (i ^ j.toNat)) ta tb) σ H (.int (i ^ j.toNat)) := ev_op ha hb (rv_I hc)
theorem ev_mod (ha : Ev ta σ H (.int i)) (hb : Ev tb σ H (.int j)) (hj : 0 < j) : Ev (tOp (rI (fun _ j => 0 < j) fun i j => V.int (i % j)) ta tb) σ H (.int (i % j)) := ev_op ha hb (rv_I hj)
theorem ev_divW (ha : Ev ta σ H (.int i)) (hb : Ev tb σ H (.int j)) (hj : 0 < j) (hm : j < 4294967296) : Ev (tOp (rI CDivW fun i j => V.int (i / j)) ta tb) σ H (.int (i / j)) := ev_op ha hb (rv_I (wide_div (b := 32) hj (by omega) (by decide) (by decide)))
theorem ev_mulW (ha : Ev ta σ H (.int i)) (hb : Ev tb σ H (.int j)) (h1 : i.natAbs < 4294967296) (h2 : j.natAbs < 4294967296) : Ev (tOp (rI CMulW fun i j => V.int (i * j)) ta tb) σ H (.int (i * j)) := ev_op ha hb (rv_I (wide_mul (a := 32) (b := 32) h1 h2 (by decide) (by decide) (by decide)))
theorem ev_addI (ha : Ev ta σ H (.int i)) (hb : Ev tb σ H (.int j)) : Ev (tOp (rI0 fun i j => V.int (i + j)) ta tb) σ H (.int (i + j)) := ev_op ha hb rv_I0
theorem ev_subI (ha : Ev ta σ H (.int i)) (hb : Ev tb σ H (.int j)) : Ev (tOp (rI0 fun i j => V.int (i - j)) ta tb) σ H (.int (i - j)) := ev_op ha hb rv_I0
theorem ev_ixLn {p : Addr} {xs : List V} {n : Nat} {v : V} (ha : Ev ta σ H (.ref p)) (hb : Ev tb σ H (.int (n : Int))) (h : SqL K H p xs) (e : xs[n]? = some v) : Ev (tOp (rIxL K) ta tb) σ H v := ev_op ha hb (rv_ixL h (atI_nat e))
theorem ev_ixTn {p : Addr} {xs : List V} {n : Nat} {v : V} (ha : Ev ta σ H (.ref p)) (hb : Ev tb σ H (.int (n : Int))) (h : SqT K H p xs) (e : xs[n]? = some v) : Ev (tOp (rIxT K) ta tb) σ H v := ev_op ha hb (rv_ixT h (atI_nat e))
end
section
variable {K : PySem.W.Frag} {σ : L2.St} {H : Hp} {te : TE} {l : Addr} {ys : List V} {ds : List PyData}
/-- tuple(l), l a list that stands -/
theorem ed_tupleV (h : Ev te σ H (.ref l)) (hl : H l = some (.lst ys)) (hd : DpAll K H ys ds) : EvD K (tCB (fun xs H Q => ∃ p ys, xs = [V.ref p] ∧ ((SqL K H p ys ∧ ∀ l, H l = none → Q (V.ref l) (upd H l (.tup ys))) ∨ (SqT K H p ys ∧ Q (V.ref p) H))) (tCons te tNil)) σ H (.tuple ds) := fun H1 e Q q =>
  h H1 e _ fun H2 e2 => ⟨l, ys, rfl, .inl ⟨sq_of (e2 _ _ (e _ _ hl)), fun t ht => q _ _ (e2.trans (Ex.new ht)) (.tup (st_of upd_same) (((hd.ex e).ex e2).ex (Ex.new ht)))⟩⟩
end
section
variable {σ : L2.St} {H : Hp} {te ta tb : TE} {tr : TA} {r : R2} {D : Ends} {tz : TS} {i j : Nat} {Q : VK} {QA : List V → Hp → Prop} {g : TG}
/-! one step of a reading, opened -/
theorem q_asgW (h : te σ H fun v H1 => tz D (σ.set i (some v)) H1) : tSeq (tAsg te (gName i)) tz D σ H := h
theorem s_asgW (h : te σ H fun v H1 => D.nx (σ.set i (some v)) H1) : tAsg te (gName i) D σ H := h
theorem q_asgG (h : te σ H fun v H1 => g v σ H1 fun σ2 H2 => tz D σ2 H2) : tSeq (tAsg te g) tz D σ H := h
theorem q_parW (h : tr σ H fun vs H1 => ∃ v w, vs = [v, w] ∧ tz D ((σ.set i (some v)).set j (some w)) H1) : tSeq (tPar i j tr) tz D σ H := h
theorem q_dropW (h : te σ H fun _ H1 => tz D σ H1) : tSeq (tDrop te) tz D σ H := h
theorem s_dropW (h : te σ H fun _ H1 => D.nx σ H1) : tDrop te D σ H := h
theorem s_retW (h : te σ H D.rt) : tRet te D σ H := h
theorem q_par3W {l : Nat} (h : tr σ H fun vs H1 => ∃ u v w, vs = [u, v, w] ∧ tz D (((σ.set i (some u)).set j (some v)).set l (some w)) H1) : tSeq (tPar3 i j l tr) tz D σ H := h
theorem tupW (h : tr σ H fun vs H1 => vs.length ≤ sizeLine ∧ ∀ p, H1 p = none → Q (.ref p) (upd H1 p (.tup vs))) : tTup tr σ H Q := h
theorem lstW (h : tr σ H fun vs H1 => vs.length ≤ sizeLine ∧ ∀ p, H1 p = none → Q (.ref p) (upd H1 p (.lst vs))) : tLst tr σ H Q := h
theorem callW {sp : Sp} {E : XK} (h : tr σ H fun vs H1 => sp (vs ++ []) H1 Q E) : tCall sp [] E tr σ H Q := h
theorem cbW {rc : List V → Hp → VK → Prop} (h : tr σ H fun vs H1 => rc vs H1 Q) : tCB rc tr σ H Q := h
theorem evW {v : V} (h : Ev te σ H v) (k : ∀ H1, Ex H H1 → Q v H1) : te σ H Q := h H (Ex.refl H) Q k
theorem edW {K : PySem.W.Frag} {d : PyData} (h : EvD K te σ H d) (k : ∀ v H1, Ex H H1 → Dp K H1 v d → Q v H1) : te σ H Q := h H (Ex.refl H) Q k
/-- l.append(e), e anything -/
theorem s_appW {K : PySem.W.Frag} {l : Addr} {xs : List V} (hs : σ[i]? = some (some (.ref l))) (hl : H l = some (.lst xs)) (h : te σ H fun v H1 => rAppend (.ref l) [v] H1 fun _ H2 => D.nx σ H2) : tDrop (tBM K "list" rAppend (tVar i) (tCons te tNil)) D σ H :=
  ⟨.ref l, hs, Or.inl ⟨rfl, xs, sq_of hl⟩, h⟩
theorem appE {l : Addr} {xs : List V} {v : V} (h1 : H l = some (.lst xs)) (h2 : xs.length < 100000) (h : Q .non (upd H l (.lst (xs ++ [v])))) : rAppend (.ref l) [v] H Q := ⟨l, xs, v, rfl, rfl, h1, sz_lt h2, h⟩
theorem q_ifW {t : TT} {tu : TS} (h : t σ H fun b H1 => if b = true then tu { D with nx := fun σ2 H2 => tz D σ2 H2 } σ H1 else tz D σ H1) : tSeq (tIfS t tu tNext) tz D σ H := h
theorem andW {t u : TT} {QB : Bool → Hp → Prop} (h : t σ H fun c H1 => if c = true then u σ H1 QB else QB false H1) : tAnd t u σ H QB := h
theorem testW {QB : Bool → Hp → Prop} (h : te σ H fun v H1 => ∃ b, v = .bl b ∧ QB b H1) : tTest te σ H QB := h
theorem etW {t : TT} {b : Bool} {QB : Bool → Hp → Prop} (h : EvT t σ H b) (k : ∀ H1, Ex H H1 → QB b H1) : t σ H QB := h H (Ex.refl H) _ k
theorem cW {v : V} (h : Q v H) : tC v σ H Q := h
theorem addW {x y z : Int} (e : x + y = z) (h : Q (.int z) H) : rI0 (fun i j => V.int (i + j)) (.int x) (.int y) H Q := by
  subst e
  exact ⟨x, y, rfl, rfl, h⟩
theorem subW {x y z : Int} (e : x - y = z) (h : Q (.int z) H) : rI0 (fun i j => V.int (i - j)) (.int x) (.int y) H Q := by
  subst e
  exact ⟨x, y, rfl, rfl, h⟩
theorem consW (h : ta σ H fun v H1 => tr σ H1 fun vs H2 => QA (v :: vs) H2) : tCons ta tr σ H QA := h
theorem nilW (h : QA [] H) : tNil σ H QA := h
theorem opW (h : ta σ H fun x H1 => tb σ H1 fun y H2 => r x y H2 Q) : tOp r ta tb σ H Q := h
theorem varW {v : V} (e : σ[i]? = some (some v)) (h : Q v H) : tVar i σ H Q := ⟨v, e, h⟩
end
end Ed
set_option maxHeartbeats 4000000
namespace K76
open PySem PySem.W PySem.Calls PyProof.Rows L2 Evl Ed
section
variable {w : World} {mg : Str → Option Value} {base : Heap}
/-! ### _law_draw -/
theorem sc__law_draw : FnScope ["_law_pool_here", "_law_many", "_law_mixed", "_law_digit"] ["_law_pool_here", "_law_many"] (defScope s__law_draw) := ⟨rfl, rfl, rfl, by decide +kernel, rfl, by decide +kernel, by decide +kernel⟩
/-- a pool: what is mixed, the digits, how many draws were made (n at most) -/
def PoolAt (H : Hp) (p : Addr) (n : Nat) : Prop := ∃ a b c : Int, H p = some (.lst [.int a, .int b, .int c]) ∧ (0 ≤ a ∧ a < 2147483629) ∧ 0 ≤ b ∧ 0 ≤ c ∧ c ≤ n
theorem PoolAt.mono {H : Hp} {p : Addr} {n m : Nat} (h : PoolAt H p n) (e : n ≤ m) : PoolAt H p m := by
  obtain ⟨a, b, c, h1, h2, h3, h4, h5⟩ := h
  exact ⟨a, b, c, h1, h2, h3, h4, by omega⟩
theorem PoolAt.ex {H H' : Hp} {p : Addr} {n : Nat} (h : PoolAt H p n) (e : Ex H H') : PoolAt H' p n := by
  obtain ⟨a, b, c, h1, h2⟩ := h
  exact ⟨a, b, c, e _ _ h1, h2⟩
theorem PoolAt.upd {H : Hp} {p l : Addr} {n : Nat} {o : HO} (h : PoolAt H p n) (hl : l ≠ p) : PoolAt (L2.upd H l o) p n := by
  obtain ⟨a, b, c, h1, h2⟩ := h
  exact ⟨a, b, c, (upd_ne (Ne.symm hl)).trans h1, h2⟩
def spDraw : Sp := fun vs H Q _ => ∃ (p : Addr) (m : Int) (n : Nat), vs = [.ref p, .int m] ∧ PoolAt H p n ∧ n ≤ 100000 ∧ 1 ≤ m ∧ m ≤ 1000000 ∧ ∀ r H', 0 ≤ r → r < m → Kl p H H' → PoolAt H' p (n + 1) → Q (.int r) H'
theorem ok__law_draw (W : Wd w.params mg) : Ok w mg base CX0 1 a__law_draw fd__law_draw ["_law_pool_here", "_law_many"] spDraw := by
  refine (F__law_draw w.params).ok sc__law_draw (fun vs H Q E h => ?_) (fun cdv A outer s H vs Q E hr h => ?_)
  · obtain ⟨p, m, n, rfl, _⟩ := h
    rfl
  · obtain ⟨p, m, n, rfl, ⟨a, b, c, hp, ha, hb, hc, hcn⟩, hn, h1, hm, k⟩ := h
    refine ⟨_, (pss_cons (ps_asg (pe_op op_add (pe_ix ix_list (pv 0) pe_int (fun _ _ => rfl)) pe_int) (pg_sub (pv 0) pe_int set_list))
    (pss_cons (ps_set (i := 2) sc__law_draw.nd rfl (Or.inl rfl) (pe_op op_mod (pe_callTy call_int1 rfl (n_int W) boot_int (pa_cons (pe_op op_add (pe_op op_mulW (pe_ix ix_list (pv 0) pe_int (fun _ _ => rfl)) pe_int) (pe_op op_mulW (pe_ix ix_list (pv 0) pe_int (fun _ _ => rfl)) pe_int)) pa_nil)) pe_int))
    (pss_cons (ps_asg (pe_op op_mod (pe_callTy call_int1 rfl (n_int W) boot_int (pa_cons (pe_op op_add (pe_op op_mulW (pv 2) (pe_op op_add (pe_op op_fdivW (pv 2) pe_int) pe_int)) pe_int) pa_nil)) pe_int) (pg_sub (pv 0) pe_int set_list))
    (pss_cons (ps_if (pt_cmpR op_gt (pe_ix ix_list (pv 0) pe_int (fun _ _ => rfl)) pe_int (nomark _)) (pss_cons (ps_set (i := 3) sc__law_draw.nd rfl (Or.inl rfl) (pe_op op_mod (pe_callTy call_int1 rfl (n_int W) boot_int (pa_cons (pe_ix ix_list (pv 0) pe_int (fun _ _ => rfl)) pa_nil)) (pv 1)))
    (pss_cons (ps_asg (pe_op op_fdivW (pe_callTy call_int1 rfl (n_int W) boot_int (pa_cons (pe_ix ix_list (pv 0) pe_int (fun _ _ => rfl)) pa_nil)) (pv 1)) (pg_sub (pv 0) pe_int set_list))
    (pss_one (ps_ret (pv 3))))) pss_nil)
    (pss_one (ps_ret (pe_op op_mod (pe_callTy call_int1 rfl (n_int W) boot_int (pa_cons (pe_op op_fdivW (pe_ix ix_list (pv 0) pe_int (fun _ _ => rfl)) pe_int) pa_nil)) (pv 1)))))))), ?_⟩
    refine q_setL (j := 2) (v := .int (c + 1)) hp (ev_addI (ev_ixLn (n := 2) (ev_var rfl) ev_c (sq_of hp) rfl) ev_c) (ev_var rfl) ev_c (show (2 : Nat) < 3 by decide) fun H1 e1 => ?_
    have k1 : Kl p H (upd H1 p (.lst [.int a, .int b, .int (c + 1)])) := (Kl.of e1).trans (Kl.upd (e1 _ _ hp))
    have hp1 : (upd H1 p (.lst [.int a, .int b, .int (c + 1)])) p = some (.lst [.int a, .int b, .int (c + 1)]) := upd_same
    generalize hG : (upd H1 p (.lst [.int a, .int b, .int (c + 1)])) = H2 at k1 hp1
    show tSeq _ _ _ _ (upd H1 p (.lst [.int a, .int b, .int (c + 1)]))
    rw [hG]
    clear hG
    generalize hM : (a * 48271 + (c + 1) * 69997) % 2147483629 = M1
    have hM1 : 0 ≤ M1 ∧ M1 < 2147483629 := by
      rw [← hM]
      exact ⟨Int.emod_nonneg _ (by decide), Int.emod_lt_of_pos _ (by decide)⟩
    refine q_asg (v := .int M1) (ev_is (ev_mod (ev_int1 (ev_addI (ev_mulW (ev_ixLn (n := 0) (ev_var rfl) ev_c (sq_of hp1) rfl) ev_c (by omega) (by decide)) (ev_mulW (ev_ixLn (n := 2) (ev_var rfl) ev_c (sq_of hp1) rfl) ev_c (by omega) (by decide)))) ev_c (by decide)) (by rw [hM])) fun H3 e3 => ?_
    have hp3 := e3 _ _ hp1
    generalize hM' : (M1 * (M1 / 7 + 30011) + 12345) % 2147483629 = M2
    have hM2 : 0 ≤ M2 ∧ M2 < 2147483629 := by
      rw [← hM']
      exact ⟨Int.emod_nonneg _ (by decide), Int.emod_lt_of_pos _ (by decide)⟩
    refine q_setL (j := 0) (v := .int M2) hp3 (ev_is (ev_mod (ev_int1 (ev_addI (ev_mulW (ev_var rfl) (ev_addI (ev_divW (ev_var rfl) ev_c (by decide) (by decide)) ev_c) (by omega) (by omega)) ev_c)) ev_c (by decide)) (by rw [hM'])) (ev_var rfl) ev_c (show (0 : Nat) < 3 by decide) fun H4 e4 => ?_
    have k4 : Kl p H (upd H4 p (.lst [.int M2, .int b, .int (c + 1)])) := k1.trans ((Kl.of (e3.trans e4)).trans (Kl.upd (e4 _ _ hp3)))
    have hp4 : (upd H4 p (.lst [.int M2, .int b, .int (c + 1)])) p = some (.lst [.int M2, .int b, .int (c + 1)]) := upd_same
    generalize hG : (upd H4 p (.lst [.int M2, .int b, .int (c + 1)])) = H5 at k4 hp4
    show tSeq _ _ _ _ (upd H4 p (.lst [.int M2, .int b, .int (c + 1)]))
    rw [hG]
    clear hG
    refine q_when (b := decide (0 < b)) (et_test (ev_op (ev_ixLn (n := 1) (ev_var rfl) ev_c (sq_of hp4) rfl) ev_c rv_I0)) (fun hb0 H6 e6 => ?_) (fun hb0 H6 e6 => ?_)
    · have hp6 := e6 _ _ hp4
      refine q_asg (v := .int (b % m)) (ev_mod (ev_int1 (ev_ixLn (n := 1) (ev_var rfl) ev_c (sq_of hp6) rfl)) (ev_var rfl) (by omega)) fun H7 e7 => ?_
      have hp7 := e7 _ _ hp6
      refine q_setL (j := 1) (v := .int (b / m)) hp7 (ev_divW (ev_int1 (ev_ixLn (n := 1) (ev_var rfl) ev_c (sq_of hp7) rfl)) (ev_var rfl) (by omega) (by omega)) (ev_var rfl) ev_c (show (1 : Nat) < 3 by decide) fun H8 e8 => ?_
      refine s_ret (v := .int (b % m)) (ev_var rfl) fun H9 e9 => ?_
      refine k _ _ (Int.emod_nonneg _ (by omega)) (Int.emod_lt_of_pos _ (by omega)) (k4.trans (((Kl.of ((e6.trans e7).trans e8)).trans (Kl.upd (e8 _ _ hp7))).trans (.of e9))) ⟨M2, b / m, c + 1, e9 _ _ upd_same, hM2, Int.ediv_nonneg hb (by omega), by omega, by omega⟩
    · have hp6 := e6 _ _ hp4
      refine s_ret (v := .int (M2 / 64 % m)) (ev_mod (ev_int1 (ev_divW (ev_ixLn (n := 0) (ev_var rfl) ev_c (sq_of hp6) rfl) ev_c (by decide) (by decide))) (ev_var rfl) (by omega)) fun H7 e7 => ?_
      exact k _ _ (Int.emod_nonneg _ (by omega)) (Int.emod_lt_of_pos _ (by omega)) (k4.trans (.of (e6.trans e7))) ⟨M2, b, c + 1, e7 _ _ hp6, hM2, hb, by omega, by omega⟩
end
end K76
set_option maxHeartbeats 4000000
namespace K76
open PySem PySem.W PySem.Calls PyProof.Rows L2 Evl Ed
section
variable {w : World} {mg : Str → Option Value} {base : Heap}
/-! ### _law_cell -/
theorem sc__law_cell : FnScope ["_law_cells", "_law_k", "_law_mixed", "_law_cell_here"] ["_law_cells", "_law_k"] (defScope s__law_cell) := ⟨rfl, rfl, rfl, by decide +kernel, rfl, by decide +kernel, by decide +kernel⟩
def spCell (K : PySem.W.Frag) : Sp := fun vs H Q _ => ∃ (a : Addr) (ns : List Int) (k : Int), vs = [.ref a, .int k] ∧ SqL K H a (ns.map V.int) ∧ 0 ≤ k ∧ k ≤ 100 ∧ ∀ z H', Ex H H' → Q (.int z) H'
theorem ok__law_cell (W : Wd w.params mg) : Ok w mg base CX0 1 a__law_cell fd__law_cell ["_law_cells", "_law_k"] (spCell (Kw w)) := by
  refine (F__law_cell w.params).ok sc__law_cell (fun vs H Q E h => ?_) (fun cdv A outer s H vs Q E hr h => ?_)
  · obtain ⟨a, ns, k, rfl, _⟩ := h
    rfl
  · obtain ⟨a, ns, j, rfl, hs, h0, h1, k⟩ := h
    refine ⟨_, (pss_cons (ps_if (pt_cmpR op_lt (pv 1) (pe_callB call_len_seq rfl (n_len W) boot_len (pa_cons (pv 0) pa_nil)) (nomark _)) (pss_one (ps_ret (pe_ix ix_list (pv 0) (pv 1) (fun _ _ => rfl)))) pss_nil)
    (pss_cons (ps_set (i := 2) sc__law_cell.nd rfl (Or.inl rfl) (pe_op op_add pe_int (pe_op op_mulW pe_int (pv 1))))
    (pss_cons (ps_for PassesOwn.never rfl (pi_list (pv 0)) (pg_name (i := 3) sc__law_cell.nd rfl (Or.inl rfl))
    (pss_one (ps_set (i := 2) sc__law_cell.nd rfl (Or.inl rfl) (pe_op op_mod (pe_callTy call_int1 rfl (n_int W) boot_int (pa_cons (pe_op op_add (pe_op op_mulW (pv 2) pe_int) (pe_callB call_abs rfl (n_abs W) boot_abs (pa_cons (pv 3) pa_nil))) pa_nil)) pe_int))))
    (pss_one (ps_ret (pe_op op_add (pe_op op_mulW (pv 2) pe_int) (pv 1))))))), ?_⟩
    refine q_when (b := decide (j < ((ns.map V.int).length : Int))) (et_test (ev_op (ev_var rfl) (ev_len (ev_var rfl) hs) rv_I0)) (fun hb H1 e1 => ?_) (fun hb H1 e1 => ?_)
    · have hj : j < ((ns.map V.int).length : Int) := of_decide_eq_true hb
      obtain ⟨i, rfl⟩ : ∃ i : Nat, j = (i : Int) := ⟨j.toNat, by omega⟩
      have hi : i < ns.length := by
        rw [List.length_map] at hj
        omega
      exact s_ret (v := .int ns[i]) (ev_ixLn (n := i) (ev_var rfl) (ev_var rfl) (ex_l e1 hs) (by rw [List.getElem?_map, List.getElem?_eq_getElem hi] <;> rfl)) fun H2 e2 => k _ _ (e1.trans e2)
    · refine q_asg (v := .int (7 + 13 * j)) (ev_addI ev_c (ev_mulW ev_c (ev_var rfl) (by decide) (by omega))) fun H2 e2 => ?_
      have e12 := e1.trans e2
      refine q_forL (ev_var rfl) (ex_l e12 hs) (fun i σ' H' => Ex H H' ∧ ∃ (m : Int) (x : Option V), 0 ≤ m ∧ m < 2147483629 ∧ σ' = [some (.ref a), some (.int j), some (.int m), x]) (fun H3 e3 => ⟨e12.trans e3, 7 + 13 * j, _, by omega, by omega, rfl⟩) (fun i σ' H' _ p => ex_l p.1 hs) (fun i x σ' H' hi p => ?_) (fun σ' H' p => ?_)
      · obtain ⟨e3, m, y, m0, m1, rfl⟩ := p
        rw [List.getElem?_map, Option.map_eq_some_iff] at hi
        obtain ⟨z, hz, rfl⟩ := hi
        refine s_asg (v := .int ((m * 31337 + (if z < 0 then -z else z)) % 2147483629)) (ev_mod (ev_int1 (ev_addI (ev_mulW (ev_var rfl) ev_c (by omega) (by decide)) (ev_abs (ev_var rfl)))) ev_c (by decide)) fun H4 e4 => ?_
        exact ⟨e3.trans e4, _, _, Int.emod_nonneg _ (by decide), Int.emod_lt_of_pos _ (by decide), rfl⟩
      · obtain ⟨e3, m, y, m0, m1, rfl⟩ := p
        exact s_ret (v := .int (m * 17 + j)) (ev_addI (ev_mulW (ev_var rfl) ev_c (by omega) (by decide)) (ev_var rfl)) fun H4 e4 => k _ _ (e3.trans e4)
/-! ### _law_pool -/
theorem sc__law_pool : FnScope ["_law_cell_here"] ["_law_cell_here"] (defScope s__law_pool) := ⟨rfl, rfl, rfl, by decide +kernel, rfl, by decide +kernel, by decide +kernel⟩
def spPool : Sp := fun vs H Q _ => ∃ (z : Int), vs = [.int z] ∧ ∀ p H', H p = none → Ex H H' → PoolAt H' p 0 → Q (.ref p) H'
theorem ok__law_pool (W : Wd w.params mg) : Ok w mg base CX0 1 a__law_pool fd__law_pool ["_law_cell_here"] spPool := by
  refine (F__law_pool w.params).ok sc__law_pool (fun vs H Q E h => ?_) (fun cdv A outer s H vs Q E hr h => ?_)
  · obtain ⟨z, rfl, _⟩ := h
    rfl
  · obtain ⟨z, rfl, k⟩ := h
    refine ⟨_, (pss_one (ps_ret (pe_lst (pa_cons (pe_op op_mod (pe_callTy call_int1 rfl (n_int W) boot_int (pa_cons (pv 0) pa_nil)) pe_int) (pa_cons (pe_ifExp (PW.pt (pw_or (pt_cmpR op_lt (pv 0) pe_int (nomark _)) (pw_or1 (pt_cmpR op_ge (pv 0) (pe_op op_pow pe_int pe_int) (nomark _))))) (pe_callB call_abs rfl (n_abs W) boot_abs (pa_cons (pv 0) pa_nil)) pe_int) (pa_cons pe_int pa_nil)))))), ?_⟩
    refine s_retL (xs := [.int (z % 2147483629), .int (if (decide (z < 0) || decide (1000000000000000000 ≤ z)) = true then (if z < 0 then -z else z) else 0), .int 0]) (el_lst (ea_cons (ev_mod (ev_int1 (ev_var rfl)) ev_c (by decide)) (ea_cons (ev_if (b := decide (z < 0) || decide (1000000000000000000 ≤ z)) (et_or (et_test (ev_op (ev_var rfl) ev_c rv_I0)) fun _ => et_test (ev_op (ev_var rfl) (ev_pow (i := 10) (j := 18) ev_c ev_c ⟨by decide, by decide, by decide⟩) (rv_I0 (g := fun i j => V.bl (decide (j ≤ i)))))) (fun h => ?_) (fun h => ?_)) (ea_cons ev_c ea_nil))) (by simp)) fun p H1 hp e1 h1 => ?_
    · rw [if_pos h]
      exact ev_abs (ev_var rfl)
    · rw [if_neg (by rw [h]; decide)]
      exact ev_c
    · refine k p H1 hp e1 ⟨_, _, _, h1, ⟨Int.emod_nonneg _ (by decide), Int.emod_lt_of_pos _ (by decide)⟩, ?_, by decide, by decide⟩
      split
      · split <;> omega
      · decide
end
end K76
set_option maxHeartbeats 4000000
namespace K76
open PySem PySem.W PySem.Calls PyProof.Rows L2
section
variable {P : Params}
theorem cls_Book : Cls (K0 P) 835 := ⟨by kernel_rfl, by kernel_rfl, by kernel_rfl, by kernel_rfl⟩
theorem mk_Book : Mk (K0 P) 835 747 := ⟨by kernel_rfl, by kernel_rfl, by kernel_rfl, by kernel_rfl⟩
theorem na_Book_kinds : NoAttr (K0 P) 835 "kinds" := by unfold NoAttr; kernel_rfl
theorem na_Book_templates : NoAttr (K0 P) 835 "templates" := by unfold NoAttr; kernel_rfl
theorem na_Book_root : NoAttr (K0 P) 835 "root" := by unfold NoAttr; kernel_rfl
theorem na_Book_names : NoAttr (K0 P) 835 "names" := by unfold NoAttr; kernel_rfl
theorem na_Book_text : NoAttr (K0 P) 835 "text" := by unfold NoAttr; kernel_rfl
theorem mt_Book_place : Meth (K0 P) 835 "place" 778 := ⟨by kernel_rfl, by kernel_rfl, by kernel_rfl⟩
theorem mt_Book_template : Meth (K0 P) 835 "template" 785 := ⟨by kernel_rfl, by kernel_rfl, by kernel_rfl⟩
theorem mt_Book_with_template : Meth (K0 P) 835 "with_template" 790 := ⟨by kernel_rfl, by kernel_rfl, by kernel_rfl⟩
theorem mt_Book_without : Meth (K0 P) 835 "without" 797 := ⟨by kernel_rfl, by kernel_rfl, by kernel_rfl⟩
theorem cls_Workshop : Cls (K0 P) 1440 := ⟨by kernel_rfl, by kernel_rfl, by kernel_rfl, by kernel_rfl⟩
theorem mk_Workshop : Mk (K0 P) 1440 1335 := ⟨by kernel_rfl, by kernel_rfl, by kernel_rfl, by kernel_rfl⟩
theorem cls_SiteWorkshop : Cls (K0 P) 1504 := ⟨by kernel_rfl, by kernel_rfl, by kernel_rfl, by kernel_rfl⟩
theorem mk_SiteWorkshop : Mk (K0 P) 1504 1335 := ⟨by kernel_rfl, by kernel_rfl, by kernel_rfl, by kernel_rfl⟩
end
end K76
set_option maxHeartbeats 4000000
namespace K76
open PySem PySem.W PySem.Calls PyProof.Rows L2
theorem chainVE : ExA.Chain [.type "ValueError", .type "Exception", .type "BaseException", .type "object"] [.type "ValueError", .type "Exception", .type "BaseException", .type "object"] := ⟨fun _ => rfl, F.store_ValueError.passes, rfl, by decide +kernel⟩
theorem chainAE : ExA.Chain [.type "ArithmeticError", .type "Exception", .type "BaseException", .type "object"] [.type "ArithmeticError", .type "Exception", .type "BaseException", .type "object"] := ⟨fun _ => rfl, F.store_ArithmeticError.passes, rfl, by decide +kernel⟩
section
variable {P : Params} {mg : Str → Option Value}
theorem xt_NotABook (W : Wd P mg) : ExA.Txt (K0 P) mg "NotABook" "value" 127 124 "ValueError" "ValueError.__new__" "ValueError.__init__" [.type "ValueError", .type "Exception", .type "BaseException", .type "object"] where
  base := F.excBase_ValueError
  gC := g_NotABook W
  cls := by
    have e : (K0 P).lookup 127 = some (o127 P) := by kernel_rfl
    exact ⟨_, _, _, _, _, _, _, _, _, _, _, _, _, _, _, e.trans (by unfold o127; rfl), chainVE.ref⟩
  sa := by kernel_rfl
  ga := by kernel_rfl
  gg := by kernel_rfl
  noN := by kernel_rfl
  iC := by kernel_rfl
  tC := by kernel_rfl
  kC := by kernel_rfl
  exC := by kernel_rfl
  tyC := by kernel_rfl
  hdC := by kernel_rfl
  kf := fun _ _ _ _ => rfl
  ks := fun _ _ _ _ => rfl
  ka := fun _ _ => rfl
  ml := fun _ _ _ _ _ _ => ⟨rfl, rfl⟩
  df := by decide
  bf := fun _ _ _ _ _ _ _ _ _ _ _ _ _ _ _ => rfl
  fn := by
    obtain ⟨oc, od, kV, doc, pm, an, cdv, ct, osl, e, lk, hcd⟩ := (F_NotABook___init__ P).ex
    rw [e] at lk
    exact ⟨_, oc, od, kV, doc, pm, an, cdv, ct, osl, _, _, _, _, _, _, lk, hcd⟩
theorem xt_UnknownTemplate (W : Wd P mg) : ExA.Txt (K0 P) mg "UnknownTemplate" "value" 222 219 "ValueError" "ValueError.__new__" "ValueError.__init__" [.type "ValueError", .type "Exception", .type "BaseException", .type "object"] where
  base := F.excBase_ValueError
  gC := g_UnknownTemplate W
  cls := by
    have e : (K0 P).lookup 222 = some (o222 P) := by kernel_rfl
    exact ⟨_, _, _, _, _, _, _, _, _, _, _, _, _, _, _, e.trans (by unfold o222; rfl), chainVE.ref⟩
  sa := by kernel_rfl
  ga := by kernel_rfl
  gg := by kernel_rfl
  noN := by kernel_rfl
  iC := by kernel_rfl
  tC := by kernel_rfl
  kC := by kernel_rfl
  exC := by kernel_rfl
  tyC := by kernel_rfl
  hdC := by kernel_rfl
  kf := fun _ _ _ _ => rfl
  ks := fun _ _ _ _ => rfl
  ka := fun _ _ => rfl
  ml := fun _ _ _ _ _ _ => ⟨rfl, rfl⟩
  df := by decide
  bf := fun _ _ _ _ _ _ _ _ _ _ _ _ _ _ _ => rfl
  fn := by
    obtain ⟨oc, od, kV, doc, pm, an, cdv, ct, osl, e, lk, hcd⟩ := (F_UnknownTemplate___init__ P).ex
    rw [e] at lk
    exact ⟨_, oc, od, kV, doc, pm, an, cdv, ct, osl, _, _, _, _, _, _, lk, hcd⟩
theorem xt_InvalidNumber (W : Wd P mg) : ExA.Txt (K0 P) mg "InvalidNumber" "value" 298 295 "ValueError" "ValueError.__new__" "ValueError.__init__" [.type "ValueError", .type "Exception", .type "BaseException", .type "object"] where
  base := F.excBase_ValueError
  gC := g_InvalidNumber W
  cls := by
    have e : (K0 P).lookup 298 = some (o298 P) := by kernel_rfl
    exact ⟨_, _, _, _, _, _, _, _, _, _, _, _, _, _, _, e.trans (by unfold o298; rfl), chainVE.ref⟩
  sa := by kernel_rfl
  ga := by kernel_rfl
  gg := by kernel_rfl
  noN := by kernel_rfl
  iC := by kernel_rfl
  tC := by kernel_rfl
  kC := by kernel_rfl
  exC := by kernel_rfl
  tyC := by kernel_rfl
  hdC := by kernel_rfl
  kf := fun _ _ _ _ => rfl
  ks := fun _ _ _ _ => rfl
  ka := fun _ _ => rfl
  ml := fun _ _ _ _ _ _ => ⟨rfl, rfl⟩
  df := by decide
  bf := fun _ _ _ _ _ _ _ _ _ _ _ _ _ _ _ => rfl
  fn := by
    obtain ⟨oc, od, kV, doc, pm, an, cdv, ct, osl, e, lk, hcd⟩ := (F_InvalidNumber___init__ P).ex
    rw [e] at lk
    exact ⟨_, oc, od, kV, doc, pm, an, cdv, ct, osl, _, _, _, _, _, _, lk, hcd⟩
theorem xt_InvalidDeed (W : Wd P mg) : ExA.Txt (K0 P) mg "InvalidDeed" "index" 450 447 "ValueError" "ValueError.__new__" "ValueError.__init__" [.type "ValueError", .type "Exception", .type "BaseException", .type "object"] where
  base := F.excBase_ValueError
  gC := g_InvalidDeed W
  cls := by
    have e : (K0 P).lookup 450 = some (o450 P) := by kernel_rfl
    exact ⟨_, _, _, _, _, _, _, _, _, _, _, _, _, _, _, e.trans (by unfold o450; rfl), chainVE.ref⟩
  sa := by kernel_rfl
  ga := by kernel_rfl
  gg := by kernel_rfl
  noN := by kernel_rfl
  iC := by kernel_rfl
  tC := by kernel_rfl
  kC := by kernel_rfl
  exC := by kernel_rfl
  tyC := by kernel_rfl
  hdC := by kernel_rfl
  kf := fun _ _ _ _ => rfl
  ks := fun _ _ _ _ => rfl
  ka := fun _ _ => rfl
  ml := fun _ _ _ _ _ _ => ⟨rfl, rfl⟩
  df := by decide
  bf := fun _ _ _ _ _ _ _ _ _ _ _ _ _ _ _ => rfl
  fn := by
    obtain ⟨oc, od, kV, doc, pm, an, cdv, ct, osl, e, lk, hcd⟩ := (F_InvalidDeed___init__ P).ex
    rw [e] at lk
    exact ⟨_, oc, od, kV, doc, pm, an, cdv, ct, osl, _, _, _, _, _, _, lk, hcd⟩
theorem xt_TooManyDeeds (W : Wd P mg) : ExA.Txt (K0 P) mg "TooManyDeeds" "limit" 664 661 "ArithmeticError" "ArithmeticError.__new__" "ArithmeticError.__init__" [.type "ArithmeticError", .type "Exception", .type "BaseException", .type "object"] where
  base := F.excBase_ArithmeticError
  gC := g_TooManyDeeds W
  cls := by
    have e : (K0 P).lookup 664 = some (o664 P) := by kernel_rfl
    exact ⟨_, _, _, _, _, _, _, _, _, _, _, _, _, _, _, e.trans (by unfold o664; rfl), chainAE.ref⟩
  sa := by kernel_rfl
  ga := by kernel_rfl
  gg := by kernel_rfl
  noN := by kernel_rfl
  iC := by kernel_rfl
  tC := by kernel_rfl
  kC := by kernel_rfl
  exC := by kernel_rfl
  tyC := by kernel_rfl
  hdC := by kernel_rfl
  kf := fun _ _ _ _ => rfl
  ks := fun _ _ _ _ => rfl
  ka := fun _ _ => rfl
  ml := fun _ _ _ _ _ _ => ⟨rfl, rfl⟩
  df := by decide
  bf := fun _ _ _ _ _ _ _ _ _ _ _ _ _ _ _ => rfl
  fn := by
    obtain ⟨oc, od, kV, doc, pm, an, cdv, ct, osl, e, lk, hcd⟩ := (F_TooManyDeeds___init__ P).ex
    rw [e] at lk
    exact ⟨_, oc, od, kV, doc, pm, an, cdv, ct, osl, _, _, _, _, _, _, lk, hcd⟩
end
end K76
set_option maxHeartbeats 2000000
/-! Kg: d.get(k, x) of a written dict; t == (). -/
namespace KG
open PySem PySem.SeqAt
open AutoSeq1 (wpAny_loadPart')
open MeetsSeq MeetsSeq2 MeetsSeq3 SeqRoads2
section
variable {prog : Program} {w : World} {A : Around} {R : Result → Shared → Prop}
theorem tuple_eq_empty (l b : Addr) (items : Array Value) (n n2 : Nat) (dd dd2 : Option Addr) (sl sl2 : Array (Option Value)) {s : Shared} (hl1 : s.heap.get? l = some { cls := .type "tuple", dict := dd, data := .seq items n, slots := sl }) (hb1 : s.heap.get? b = some { cls := .type "tuple", dict := dd2, data := .seq #[] n2, slots := sl2 }) (fin : R (.ok (.ret (.bool (items.size == 0)))) s) :
    wpAny (model prog w) A.in1 (Builtin.«tuple.__eq__» ⟨[.ref l, .ref b], []⟩) (GQ.FinOf prog w A R) (fun e s' => R (.error e) s') s := by
  have f2 := AutoSeq1.sub_tuple_tuple
  obtain ⟨hp, g, d, tk, os⟩ := s
  have hz : items.toList.zip (#[] : Array Value).toList = [] := by simp
  wp_walk using wpAny_loadPart' hl1, wpAny_loadPart' hb1, wpAny_forIn_list _ (fun rest b s' => b.1 = none ∧ rest = [] ∧ s' = ⟨hp, g, d, tk, os⟩) _
  case turn =>
    rintro ⟨y, x⟩ rest b s' ⟨hb', hr, hs⟩
    cases hr
  case fin =>
    rintro ⟨b1, b2⟩ s' ⟨hb', hr, rfl⟩
    simp only at hb'
    subst hb'
    wp_walk
    simpa [Builtin.Tuple.tupleCompareSizes] using fin
  case h =>
    exact ⟨rfl, hz, rfl⟩
end
section
variable {prog : Program} {w : World} {A : Around} {E : Value → Shared → Prop} {s : Shared}
theorem rc_empty {l b : Addr} {items : Array Value} {Q : Value → Shared → Prop} (hu : A.units < cLine) (hl : s.heap.IsTuple l items) (hb : s.heap.IsTuple b #[]) (fin : Q (.bool (items.size == 0)) s) : wpAny (model prog w) A (richCompare .Eq (.ref l) (.ref b)) Q E s := by
  obtain ⟨⟨cls, dd, data, sl⟩, ho, hc, n, hd⟩ := id hl
  obtain ⟨⟨cls2, dd2, data2, sl2⟩, ho2, hc2, n2, hd2⟩ := id hb
  simp only at hc hd hc2 hd2
  subst hc hd hc2 hd2
  refine wpAny_richCompare_same_room (op := .Eq) ⟨_, ho, rfl⟩ ⟨_, ho2, rfl⟩ F.slot_tuple_eq (GQ.call_here F.slot_tuple_eq ⟨_, ho, rfl⟩ F.entry_tuple_eq (F.args_tuple_eq_2 _ _) ?_) hu
  exact tuple_eq_empty (R := wants (fun v s' => v ≠ .notImplemented ∧ Q v s') E) l b items n n2 dd dd2 sl sl2 ho ho2 ⟨(fun x => nomatch x), fin⟩
end
end KG
namespace L2
open PySem PySem.Spec PyProof.Rows
/-- t == (), the empty tuple just made -/
def rEqEmp (K : PySem.W.Frag) : R2 := fun x y H Q => ∃ a xs e, x = .ref a ∧ SqT K H a xs ∧ y = .ref e ∧ H e = some (.tup []) ∧ Q (.bl xs.isEmpty) H
theorem op_eqEmp {X : Cx} (hu : X.A.units < cLine) : OpR X (compareOp .Eq) (rEqEmp X.K) := by
  intro pins s σ H x y v u Q I rx ry h
  obtain ⟨a, xs, e, rfl, ha, rfl, he, q⟩ := h
  cases rx
  cases ry
  obtain ⟨its, rv, p, hz⟩ := I.tuple ha
  obtain ⟨its2, rv2, p2, _⟩ := I.tuple (SqT.of (K := X.K) he)
  cases rv2
  show wpAny _ _ (richCompare .Eq (.ref a) (.ref e)) _ _ _
  refine KG.rc_empty hu (show s.heap.IsTuple a its.toArray from p) (show s.heap.IsTuple e #[] from p2) ⟨.bl xs.isEmpty, H, I, ?_, q⟩
  have hl := rv.length
  show Value.bool (its.toArray.size == 0) = Value.bool xs.isEmpty
  rw [List.size_toArray]
  cases xs with
  | nil =>
    have : its.length = 0 := by simpa using hl.symm
    rw [this] <;> rfl
  | cons x r =>
    have : its.length = r.length + 1 := by simpa using hl.symm
    rw [this] <;> rfl
section
variable {X : Cx} {o e f : Expr} {ty tx : TE} {apos cpos : Pos} {d : Addr} {es : Array DictEntry} {n : Nat}
/-- d.get(k, x), d a written dict with text keys -/
def tKGet2 (K : PySem.W.Frag) (d : Addr) (td ty tx : TE) : TE := fun σ H Q => td σ H fun x0 H0 => x0 = .ref d ∧ ty σ H0 fun y H1 => tx σ H1 fun z H2 => ∃ k : Str, y = .str k ∧ ((∃ u v, PySem.W.nsIn K d k = some (some u) ∧ RelV v u ∧ Q v H2) ∨ (PySem.W.nsIn K d k = some none ∧ Q z H2))
theorem pe_kget2 {td : TE} (D : KDict X.K X.w d es n) (ho : PE X o td) (he : PE X e ty) (hf : PE X f tx) (m : M2 X o "get" apos e f cpos) : PE X (.Call (.Attribute o "get" apos) [e, f] [] cpos) (tKGet2 X.K d td ty tx) := by
  refine ⟨fun pins s σ H Q I h => ?_⟩
  refine wpAny_Call_method m.base m.few m.line PySem.F.plainAttrs_dict PySem.F.slot_dict_get PySem.F.type_dict_get (thn (ho.run pins s σ H _ I h) fun u s1 ⟨x, H1, I1, rx, ex, q1⟩ => ?_)
  subst ex
  obtain rfl : u = Value.ref d := rx
  refine ⟨kd_type D I1, fun b z => ?_, ?_⟩
  · cases z
    exact ⟨_, I1.kIn _ _ D.at_, rfl⟩
  rw [m.trees]
  refine PySem.wpAny_dict_get2 (knd := PySem.strKind X.prog X.w) D.low (thn (he.run pins s1 σ H1 _ I1 q1) fun iv s2 ⟨y, H2, I2, ry, q2⟩ => thn (hf.run pins s2 σ H2 _ I2 q2) fun fv s3 ⟨z, H3, I3, rz, k, ey, q3⟩ => ?_)
  subst ey
  obtain ⟨t, rfl⟩ := ry
  have hm := PySem.W.mapOf_K (prog := X.prog) I3.kIn D.at_ D.lit
  rcases q3 with ⟨u, v, e, r, q⟩ | ⟨e, q⟩
  · exact ⟨k, _, PySem.strKind_is X.prog X.w k t, hm, v, H3, I3.tok _, by rw [PySem.W.find_K D.at_ e]; exact r, q⟩
  · exact ⟨k, _, PySem.strKind_is X.prog X.w k t, hm, z, H3, I3.tok _, by rw [PySem.W.find_K D.at_ e]; exact rz, q⟩
end
end L2
set_option maxHeartbeats 2000000
/-! Sup: a method that says super().m(..): its frame has the cell of its class; statements at their code. -/
namespace PySem.SupS
open PySem PySem.W
theorem cellsFrom_app (cl : List (Str × Addr)) : ∀ (names : List (Str × NameKind)) (n : Nat) (acc : List (Str × Addr)), cellsFrom n names (acc ++ cl) = cellsFrom n names acc ++ cl
  | [], _, _ => rfl
  | (x, k) :: r, n, acc => by
    unfold cellsFrom
    split
    · exact cellsFrom_app cl r (n + 1) ((x, n) :: acc)
    · exact cellsFrom_app cl r n acc
theorem forIn_same {α β : Type} {f f' : α → β → Sem (ForInStep β)} : ∀ (l : List α) (u : β), (∀ x ∈ l, ∀ u, f x u = f' x u) → forIn l u f = forIn l u f'
  | [], u, _ => by rw [List.forIn_nil, List.forIn_nil]
  | x :: r, u, h => by
    rw [List.forIn_cons, List.forIn_cons, h x List.mem_cons_self u]
    congr 1
    funext st
    cases st with
    | done b => rfl
    | yield b => exact forIn_same r b fun y hy => h y (List.mem_cons_of_mem _ hy)
theorem lookup_app {α : Type} : ∀ {l l' : List (Str × α)} {x : Str}, l'.lookup x = none → (l ++ l').lookup x = l.lookup x
  | [], l', x, h => h
  | (k, v) :: r, l', x, h => by
    rw [List.cons_append, List.lookup_cons, List.lookup_cons]
    cases x == k
    · exact lookup_app h
    · rfl
theorem storeName_cells {env : Env} {cs : List (Str × Addr)} {x : Str} {v : Value} (h : env.cells.lookup x = cs.lookup x) : storeName env x v = storeName { env with cells := cs } x v := by
  unfold storeName cellOf
  simp only [Env.kindOf]
  rw [h]
  rfl
theorem newEnv_clos {M : Model} {A : Around} {E : Value → Shared → Prop} {s : Shared} {scope : Scope} {globals : Addr} {cl : List (Str × Addr)} {binds : List (Str × Value)} {qual : Str} {func : Option Addr} {code : Value} {builtins : Addr} {Q : Env → Shared → Prop}
    (hk : scope.kind = .function) (hcl : ∀ x ∈ binds, cl.lookup x.1 = none)
    (hkind : ∀ x ∈ binds, scope.names.lookup x.1 = some .local ∨ (scope.names.lookup x.1 = some .cell ∧ ((cellsFrom (s.heap.objs.size + 1) scope.names []).lookup x.1).isSome = true))
    (hQ : ∀ env env', env = newEnv scope s.heap.objs.size globals (cellsFrom (s.heap.objs.size + 1) scope.names [] ++ cl) qual func code none builtins → env' = newEnv scope s.heap.objs.size globals (cellsFrom (s.heap.objs.size + 1) scope.names []) qual func code none builtins →
      ∀ s', InCallC s env'.locals (bindL env'.kindOf binds fun _ => none) env'.cells (bindC env'.kindOf binds fun _ => none) s' → Q env s') :
    wpAny M A (newFunctionEnv scope globals cl binds qual func code none builtins) Q E s := by
  simp only [newFunctionEnv, Option.isSome_none, Bool.false_eq_true, if_false]
  refine wpAny_bind (wpAny_alloc ?_)
  refine wpAny_bind (wpAny_layCells _ (fun name kind cells => by cases hkc : kind == NameKind.cell <;> simp [hkc]) _ _ _ _ ?_)
  have ok := cellsFrom_ok scope.names (s.heap.push { cls := .type "frame", data := .dict #[] }) (s.heap.objs.size + 1) [] ⟨fun _ _ hm => (nomatch hm), List.Pairwise.nil⟩ (by rw [Heap.size_push]; exact Nat.le_refl _)
  rw [Heap.size_push] at ok
  rw [show ({ s with heap := s.heap.push { cls := .type "frame", data := .dict #[] } } : Shared).heap.objs.size = s.heap.objs.size + 1 from Heap.size_push ..]
  rw [show cellsFrom (s.heap.objs.size + 1) scope.names cl = cellsFrom (s.heap.objs.size + 1) scope.names [] ++ cl from cellsFrom_app cl scope.names _ []]
  refine wpAny_bind ?_
  rw [forIn_same binds _ (f' := fun y u => do storeName (newEnv scope s.heap.objs.size globals (cellsFrom (s.heap.objs.size + 1) scope.names []) qual func code none builtins) y.1 y.2; pure (.yield ⟨⟩)) fun y hy u => by
    have := storeName_cells (env := newEnv scope s.heap.objs.size globals (cellsFrom (s.heap.objs.size + 1) scope.names [] ++ cl) qual func code none builtins) (cs := cellsFrom (s.heap.objs.size + 1) scope.names []) (x := y.1) (v := y.2) (lookup_app (hcl y hy))
    show (do storeName _ y.1 y.2; _) = _
    rw [show storeName ({ scope := scope, locals := s.heap.objs.size, globals := globals, cells := cellsFrom (s.heap.objs.size + 1) scope.names [] ++ cl, qual := qual, func := func, code := code, frame := some s.heap.objs.size, builtins := builtins } : Env) y.1 y.2 = _ from this]
    rfl]
  exact wpAny_bindParams (s₀ := s) (env := newEnv scope s.heap.objs.size globals (cellsFrom (s.heap.objs.size + 1) scope.names []) qual func code none builtins)
    _ (fun _ _ _ => rfl) hk binds (fun _ => none) (fun _ => none) _ _
    ⟨⟨⟨_, _, rfl⟩, (Heap.Ns.new s.heap (.type "frame")).keeps (pushCells_keeps _ _), fun b o e => pushCells_keeps _ _ b o (Heap.get?_push_of_some _ e), Nat.le_refl _⟩,
      fun n c hc => (ok.empty n c (mem_of_lookup hc)).1, ok.apart, fun n c hm => (ok.empty n c hm).2⟩
    hkind fun s' x => wpAny_pure (hQ _ _ rfl rfl s' x)
end PySem.SupS
namespace L2
open PySem PySem.Spec PyProof.Rows PySem.SupS
/-- names: the parameters first; the one free name is __class__ -/
structure FnScopeS (N P : List Str) (sc : Scope) : Prop where
  kind : sc.kind = .function
  co : sc.isCoroutine = false
  gen : sc.isGenerator = false
  nd : N.Nodup
  pre : N.take P.length = P
  par : ∀ x ∈ P, sc.names.lookup x = some .local ∨ sc.names.lookup x = some .cell
  onefree : ∀ y ∈ sc.names, y.2 = .free → y.1 = "__class__"
  fr : sc.names.lookup ("__class__" : Str) = some .free
  nocl : ("__class__" : Str) ∉ N
  uq : ∀ y ∈ sc.names, y.1 = "__class__" → y.2 = .free
abbrev clS (cc : Addr) : List (Str × Addr) := [("__class__", cc)]
abbrev envS (qual : Str) (scope : Scope) (L f : Addr) (cd : Value) (cc : Addr) : Env := PySem.W.envX qual scope L f cd (cellsFrom (L + 1) scope.names [] ++ clS cc)
def cxS (CX : CXT) (P : Program) (w : World) (K : PySem.W.Frag) (mg : Str → Option Value) (base : Heap) (N : List Str) (qual : Str) (scope : Scope) (f : Addr) (cd : Value) (cc : Addr) (A : Around) (outer : List Env) (s : Shared) (H : Hp) (E : XK) : Cx where
  prog := P
  w := w
  K := K
  mg := mg
  base := base
  A := A.deeper (envS qual scope s.heap.objs.size f cd cc)
  N := N
  s_0 := s
  H_0 := H
  env := envS qual scope s.heap.objs.size f cd cc
  outer := outer
  stack := envS qual scope s.heap.objs.size f cd cc :: outer
  ex := []
  calm := true
  fn := fun x => !(x == "__class__")
  pn := []
  xe := fun e s' => wpAny (model P w) (A.deeper (envS qual scope s.heap.objs.size f cd cc)) (leaving (envS qual scope s.heap.objs.size f cd cc) e) (fun _ s'' => CX outer H s E e s'') (fun e' s'' => CX outer H s E e' s'') s'
theorem cells_noclass {n : Nat} : ∀ {names : List (Str × NameKind)} {acc : List (Str × Addr)}, (∀ y ∈ names, y.1 = "__class__" → y.2 = .free) → acc.lookup ("__class__" : Str) = none → (cellsFrom n names acc).lookup ("__class__" : Str) = none
  | [], acc, _, h => h
  | (x, k) :: r, acc, hu, h => by
    unfold cellsFrom
    split
    · rename_i hk
      refine cells_noclass (fun y hy => hu y (List.mem_cons_of_mem _ hy)) ?_
      rw [List.lookup_cons]
      have hx : (("__class__" : Str) == x) = false := by
        cases e : (("__class__" : Str) == x) with
        | false => rfl
        | true =>
          have e1 : x = "__class__" := (beq_iff_eq.mp e).symm
          have e2 := hu (x, k) List.mem_cons_self e1
          have e3 : k = .free := e2
          rw [e3] at hk
          exact absurd hk (by decide)
      rw [hx]
      exact h
    · exact cells_noclass (fun y hy => hu y (List.mem_cons_of_mem _ hy)) h
section
variable {CX : CXT} {P : Program} {w : World} {K : PySem.W.Frag} {mg : Str → Option Value} {base : Heap} {N ps : List Str} {qual : Str} {scope : Scope} {f cc D : Addr} {cd : Value} {A : Around} {outer : List Env} {s s1 : Shared} {H : Hp} {E : XK} {us : List Value} {vs : List V}
theorem look_split {L : Addr} {x : Str} {c : Addr} (S : FnScopeS N ps scope) (h : (cellsFrom (L + 1) scope.names [] ++ clS cc).lookup x = some c) : (x = "__class__" ∧ c = cc) ∨ (x ≠ "__class__" ∧ (cellsFrom (L + 1) scope.names []).lookup x = some c) := by
  by_cases hx : x = "__class__"
  · subst hx
    have h0 := cells_noclass (n := L + 1) (acc := []) S.uq rfl
    have key : ∀ (l : List (Str × Addr)), l.lookup ("__class__" : Str) = none → (l ++ clS cc).lookup ("__class__" : Str) = some cc := by
      intro l
      induction l with
      | nil => intro _; rfl
      | cons p r ih =>
        intro hl
        rw [List.cons_append, List.lookup_cons]
        rw [List.lookup_cons] at hl
        cases e : (("__class__" : Str) == p.1) with
        | true => rw [e] at hl; cases hl
        | false => rw [e] at hl; exact ih hl
    rw [key _ h0] at h
    exact .inl ⟨rfl, (Option.some.inj h).symm⟩
  · refine .inr ⟨hx, ?_⟩
    rw [lookup_app (by show List.lookup x [(("__class__" : Str), cc)] = none; rw [List.lookup_cons]; have : (x == ("__class__" : Str)) = false := by simpa using hx
                       rw [this]; rfl)] at h
    exact h
theorem look_class {L : Addr} (S : FnScopeS N ps scope) : (cellsFrom (L + 1) scope.names [] ++ clS cc).lookup ("__class__" : Str) = some cc := by
  cases h : (cellsFrom (L + 1) scope.names [] ++ clS cc).lookup ("__class__" : Str) with
  | some c =>
    rcases look_split S h with ⟨_, e⟩ | ⟨ne, _⟩
    · rw [e]
    · exact absurd rfl ne
  | none =>
    have key : ∀ (l : List (Str × Addr)), (l ++ clS cc).lookup ("__class__" : Str) ≠ none := by
      intro l
      induction l with
      | nil => intro z; cases z
      | cons p r ih =>
        intro z
        rw [List.cons_append, List.lookup_cons] at z
        cases e : (("__class__" : Str) == p.1) with
        | true => rw [e] at z; cases z
        | false => rw [e] at z; exact ih z
    exact absurd h (key _)
theorem look_own {L : Addr} {x : Str} (hx : x ≠ "__class__") : (cellsFrom (L + 1) scope.names [] ++ clS cc).lookup x = (cellsFrom (L + 1) scope.names []).lookup x :=
  lookup_app (by
    show List.lookup x [(("__class__" : Str), cc)] = none
    rw [List.lookup_cons]
    have : (x == ("__class__" : Str)) = false := by simpa using hx
    rw [this]
    rfl)
theorem inv_startS (S : FnScopeS N ps scope) (hcell : ∃ oc od sl, K.lookup cc = some ⟨oc, od, .cell (some (.ref D)), sl⟩) (hd : A.handled = none) (e0 : Env0 P w K mg base A outer s H) (hl : vs.length = ps.length) (r : Vals vs us)
    (x : InCallC s s.heap.objs.size (bindL (envOfC qual scope s.heap.objs.size f cd).kindOf (ps.zip us) fun _ => none) (cellsFrom (s.heap.objs.size + 1) scope.names []) (bindC (envOfC qual scope s.heap.objs.size f cd).kindOf (ps.zip us) fun _ => none) s1) :
    Inv (cxS CX P w K mg base N qual scope f cd cc A outer s H E) [] (start N vs) H s1 := by
  have hpl : ps.length ≤ N.length := by have := congrArg List.length S.pre; rw [List.length_take] at this; omega
  obtain ⟨h1, tk, rfl, hk⟩ := x.done
  obtain ⟨oc, od, sl, hcc⟩ := hcell
  have hccB : base.get? cc = some ⟨oc, od, .cell (some (.ref D)), sl⟩ := e0.mod.kin _ _ hcc
  obtain ⟨hccS, hccH⟩ := e0.bs _ _ hccB
  have cclt : cc < s.heap.objs.size := Heap.lt_size hccS
  have noA : ∀ b : Addr, b ∉ (cxS CX P w K mg base N qual scope f cd cc A outer s H E).ex := fun b z => absurd (show b ∈ ([] : List Addr) from z) (by simp)
  refine ⟨⟨e0.mod, S.kind, rfl, rfl, Nat.le_refl _, fun y z c h1 h2 => ?_, fun y hy => ?_, fun y c hf h => ?_, fun _ => hd, Around.frames_deeper e0.frames, .inr ⟨rfl, rfl⟩, fun b z => absurd z (noA b), e0.bs, e0.bsz, fun b _ _ => noA b, fun b z => absurd z (noA b), e0.funs, e0.frf⟩,
    rfl, e0.bare, Un.kept hk, ⟨_, x.toInCall.ns, fun i y v h1 h2 h3 => ?_⟩, fun y c h => ?_, e0.hok.fresh (Nat.le_refl _), fun y c h => ?_, fun p hp => absurd (show p ∈ ([] : List (Addr × Obj)) from hp) (by simp), e0.hok.kept hk, ?_⟩
  · rcases look_split S h1 with ⟨e1, e2⟩ | ⟨n1, l1⟩ <;> rcases look_split S h2 with ⟨e3, e4⟩ | ⟨n2, l2⟩
    · rw [e1, e3]
    · have := x.above z c (PySem.mem_of_lookup l2)
      rw [e2] at this
      exact absurd cclt (Nat.not_lt.mpr (Nat.le_of_lt this))
    · have := x.above y c (PySem.mem_of_lookup l1)
      rw [e4] at this
      exact absurd cclt (Nat.not_lt.mpr (Nat.le_of_lt this))
    · exact name_of_addr x.apart (PySem.mem_of_lookup l1) (PySem.mem_of_lookup l2)
  · have hy : scope.names.lookup y = some .cell ∨ scope.names.lookup y = some .free := hy
    by_cases hyc : y = "__class__"
    · subst hyc
      exact ⟨cc, look_class S⟩
    · rcases hy with hy | hy
      · obtain ⟨c, e⟩ := cell_has (n := s.heap.objs.size + 1) hy
        exact ⟨c, (look_own hyc).trans e⟩
      · exact absurd (S.onefree _ (PySem.mem_of_lookup hy) rfl) hyc
  · rcases look_split S h with ⟨e1, e2⟩ | ⟨n1, l1⟩
    · subst e1
      exact absurd hf (by show ¬ (!(("__class__" : Str) == "__class__")) = true; decide)
    · exact Nat.le_of_lt (x.above y c (PySem.mem_of_lookup l1))
  · have hi : i < vs.length := by
      unfold start at h2
      by_cases hi : i < vs.length
      · exact hi
      · rw [List.getElem?_append_right (by simpa using hi)] at h2
        rw [List.getElem?_replicate] at h2
        split at h2 <;> cases h2
    have ha : vs[i]? = some v := by
      unfold start at h2
      rw [List.getElem?_append_left (by simpa using hi), List.getElem?_map] at h2
      cases e : vs[i]? with
      | none => rw [e] at h2; cases h2
      | some a => rw [e] at h2; cases h2; rfl
    obtain ⟨u, hu, rv⟩ := r.get ha
    have hp : ps[i]? = some y := by
      rw [← S.pre, List.getElem?_take_of_lt (by omega)]; exact h1
    have ndP : ps.Nodup := by rw [← S.pre]; exact S.nd.sublist (List.take_sublist _ _)
    have hyc : y ≠ "__class__" := fun z => S.nocl (z ▸ List.mem_of_getElem? h1)
    refine ⟨u, rv, ?_⟩
    rcases S.par y (List.mem_of_getElem? hp) with k | k
    · exact .inl ⟨k, bindL_get ndP hp hu k⟩
    · obtain ⟨c, e⟩ := cell_has (n := s.heap.objs.size + 1) k
      refine .inr ⟨.inl k, c, (look_own hyc).trans e, ?_⟩
      have q := x.cell y c e
      rw [bindC_get ndP hp hu (by show scope.names.lookup y ≠ _; rw [k]; decide)] at q
      exact q
  · rcases look_split S h with ⟨e1, e2⟩ | ⟨n1, l1⟩
    · subst e2
      exact ⟨some (.ref D), ⟨_, hk _ _ hccS, rfl⟩⟩
    · exact ⟨_, x.cell y c l1⟩
  · rcases look_split S h with ⟨e1, e2⟩ | ⟨n1, l1⟩
    · subst e2
      exact hccH
    · exact e0.hok.fresh (Nat.le_of_lt (x.above y c (PySem.mem_of_lookup l1)))
  · unfold start
    show _ = N.length
    rw [List.length_append, List.length_map, List.length_replicate]
    omega
end
/-- statements at the code that runs -/
structure PSsAt (X : Cx) (b0 : List Stmt) (st : List Stmt) (t : TS) : Prop where
  run : ∀ (pins : List (Addr × Obj)) (s : Shared) (σ : St) (H : Hp) (D : Ends), Inv X pins σ H s → t D σ H → _root_.PySem.wpAt (model X.prog X.w) X.A (.func b0 X.env) (execs st X.env) (SP X pins D) X.xe s
structure PSAt (X : Cx) (b0 : List Stmt) (st : Stmt) (t : TS) : Prop where
  run : ∀ (pins : List (Addr × Obj)) (s : Shared) (σ : St) (H : Hp) (D : Ends), Inv X pins σ H s → t D σ H → _root_.PySem.wpAt (model X.prog X.w) X.A (.func b0 X.env) (exec st X.env) (SP X pins D) X.xe s
structure PEAt (X : Cx) (b0 : List Stmt) (e : Expr) (t : TE) : Prop where
  run : ∀ (pins : List (Addr × Obj)) (s : Shared) (σ : St) (H : Hp) (Q : VK), Inv X pins σ H s → t σ H Q → _root_.PySem.wpAt (model X.prog X.w) X.A (.func b0 X.env) (eval e X.env) (EP X pins σ Q) X.xe s
section
variable {X : Cx} {b0 : List Stmt} {st : Stmt} {sts rest : List Stmt} {t u : TS} {te tb : TE} {e : Expr} {pos : Pos}
theorem PSs.at_ (h : PSs X sts t) : PSsAt X b0 sts t := ⟨fun pins s σ H D I q => _root_.PySem.wpAt_of_wpAny (h.run pins s σ H D I q)⟩
theorem PS.at_ (h : PS X st t) : PSAt X b0 st t := ⟨fun pins s σ H D I q => _root_.PySem.wpAt_of_wpAny (h.run pins s σ H D I q)⟩
theorem psa_cons (h1 : PSAt X b0 st t) (h2 : PSsAt X b0 rest u) : PSsAt X b0 (st :: rest) (tSeq t u) := by
  refine ⟨fun pins s σ H D I h => ?_⟩
  refine ks_wpAt_execs_cons (_root_.PySem.wpAt_mono (h1.run pins s σ H { D with nx := u D } I h) (fun f s1 q => ?_) fun _ _ x => x)
  cases f with
  | next =>
    obtain ⟨σ', H', I', q⟩ := q
    exact h2.run pins s1 σ' H' D I' q
  | ret v => exact q
  | brk => exact q
  | cont => exact q
theorem psa_one (h1 : PSAt X b0 st t) : PSsAt X b0 [st] t := by
  refine ⟨fun pins s σ H D I h => ?_⟩
  refine ks_wpAt_execs_cons (_root_.PySem.wpAt_mono (h1.run pins s σ H D I h) (fun f s1 q => ?_) fun _ _ x => x)
  cases f with
  | next => exact _root_.PySem.wpAt_of_wpAny (wpAny_execs_nil q)
  | ret v => exact q
  | brk => exact q
  | cont => exact q
theorem psa_ret (he : PEAt X b0 e te) : PSAt X b0 (.Return (some e) pos) (tRet te) := by
  refine ⟨fun pins s σ H D I h => ?_⟩
  exact ks_wpAt_Return_some (_root_.PySem.wpAt_mono (he.run pins s σ H _ I h) (fun v s1 ⟨x, H1, I1, r1, q1⟩ => ⟨x, σ, H1, I1, r1, q1⟩) fun _ _ x => x)
theorem psa_expr (he : PEAt X b0 e te) (hs : swapsWith e none pos.line X.env = pure false := by rfl) : PSAt X b0 (.Expr e pos) (tDrop te) := by
  refine ⟨fun pins s σ H D I h => ?_⟩
  exact ks_wpAt_Expr_any (_root_.PySem.wpAt_mono (he.run pins s σ H _ I h) (fun v s1 ⟨x, H1, I1, r1, q1⟩ => ⟨σ, H1, I1, q1⟩) fun _ _ x => x) I.quiet hs
theorem psa_if {c : Expr} {a b : List Stmt} {tc : TT} (hc : PT X c tc) (ha : PSsAt X b0 a t) (hb : PSsAt X b0 b u) : PSAt X b0 (.If c a b pos) (tIfS tc t u) := by
  refine ⟨fun pins s σ H D I h => ?_⟩
  refine ks_wpAt_If (_root_.PySem.wpAt_of_wpAny (thn (hc.run pins s σ H _ I h) fun d s1 ⟨H1, I1, q1⟩ => ?_))
  cases d with
  | true => exact ha.run pins s1 σ H1 D I1 q1
  | false => exact hb.run pins s1 σ H1 D I1 q1
end
section
variable {CX : CXT} {P : Program} {w : World} {K : PySem.W.Frag} {mg : Str → Option Value} {base : Heap} {k : Nat} {f cc D : Addr} {name qual : Str} {params : Arguments} {body : List Stmt} {scope : Scope} {dV kV doc pm cdv ct oc : Value} {an od : Option Addr}
    {osl : Array (Option Value)} {N ps : List Str} {sp : Sp}
theorem fn_super (lk : K.lookup f = some ⟨oc, od, .func (PySem.W.fnX name qual params body scope (clS cc) dV kV doc pm an cdv ct), osl⟩) (hcd : PySem.W.codeIn K cdv qual = true) (S : FnScopeS N ps scope)
    (hcell : ∃ oc od sl, K.lookup cc = some ⟨oc, od, .cell (some (.ref D)), sl⟩)
    (len : ∀ vs H Q E, sp vs H Q E → vs.length = ps.length)
    (hbody : ∀ (A : Around) (outer : List Env) (s : Shared) (H : Hp) (vs : List V) (Q : VK) (E : XK), Room k (A.deeper (envS qual scope s.heap.objs.size f cdv cc)) → sp vs H Q E →
      ∃ t, PSsAt (cxS CX P w K mg base N qual scope f cdv cc A outer s H E) body body t ∧ t { nx := fun _ H' => Q .non H', rt := Q } (start N vs) H) :
    FnOk P w K mg base CX (k + 1) f (PySem.W.fnX name qual params body scope (clS cc) dV kV doc pm an cdv ct) ps sp := by
  refine ⟨len, fun A outer s H args us vs Q E hr e0 hb r hsp => ?_⟩
  have hl := len _ _ _ _ hsp
  have KX : K.In s.heap := e0.mod.kin.keeps fun b o e => (e0.bs b o e).1
  have lim : s.heap.NoLimit := e0.mod.nolimit.keeps fun b o e => (e0.bs b o e).1
  have hkind : ∀ y ∈ ps.zip us, scope.names.lookup y.1 = some .local ∨ (scope.names.lookup y.1 = some .cell ∧ ((cellsFrom (s.heap.objs.size + 1) scope.names []).lookup y.1).isSome = true) := fun ⟨n, v⟩ hy => by
    rcases S.par n (List.of_mem_zip hy).1 with q | q
    · exact .inl q
    · exact .inr ⟨q, PySem.W.cellsFrom_some _ _ _ (.inl q)⟩
  have hcl : ∀ y ∈ ps.zip us, (clS cc).lookup y.1 = none := fun ⟨n, v⟩ hy => by
    have hn : n ∈ ps := (List.of_mem_zip hy).1
    have hne : n ≠ "__class__" := fun z => S.nocl (by rw [← z]; rw [← S.pre] at hn; exact List.mem_of_mem_take hn)
    show List.lookup n [(("__class__" : Str), cc)] = none
    rw [List.lookup_cons]
    have : (n == ("__class__" : Str)) = false := by simpa using hne
    rw [this]
    rfl
  refine codeAny_call_function hr.depth (KX _ _ lk) rfl S.co S.gen rfl (PySem.W.codeRec_of KX hcd) (hb _ _ _ _ ?_)
  refine newEnv_clos S.kind hcl hkind fun env env' he he' s1 x => ?_
  subst he
  subst he'
  refine ⟨lim.keeps x.toInCall.keep, ks_codeAny_funcAt ?_⟩
  obtain ⟨t, ht, hq⟩ := hbody A outer s H vs Q E (hr.deeper _) hsp
  have I : Inv (cxS CX P w K mg base N qual scope f cdv cc A outer s H E) [] (start N vs) H s1 := inv_startS S hcell hr.hd e0 hl r x
  refine _root_.PySem.wpAt_mono (ht.run [] s1 (start N vs) H _ I hq) (fun fl s' hs => ?_) fun e s' hs => hs
  have fin : ∀ {σ' : St} {H' : Hp} {v : V} {u : Value}, Inv (cxS CX P w K mg base N qual scope f cdv cc A outer s H E) [] σ' H' s' → RelV v u → Q v H' → CE outer P w H s Q u s' :=
    fun {σ' H' v u} J rv q => ⟨v, H', J.os, J.bare, J.base, J.hok, rv, q⟩
  cases fl with
  | ret u =>
    obtain ⟨v, σ', H', J, rv, q⟩ := hs
    exact fin J rv q
  | next =>
    obtain ⟨σ', H', J, q⟩ := hs
    exact fin (v := V.non) (u := Value.none) J rfl q
  | brk =>
    obtain ⟨_, _, _, q⟩ := hs
    exact False.elim q
  | cont =>
    obtain ⟨_, _, _, q⟩ := hs
    exact False.elim q
end
end L2
namespace L2
open PySem PySem.Spec PyProof.Rows PySem.SupS
/-- what super() asks of the def at f and of its class at D -/
structure SupX (X : Cx) (D : Addr) : Prop where
  func : ∃ f cda cc oc od osl fd ar ccl cdd vs ccs file tf cl cld csl cdD, X.env.func = some f ∧ X.env.code = .ref cda ∧ X.env.cells.lookup ("__class__" : Str) = some cc ∧ X.K.lookup f = some ⟨oc, od, .func fd, osl⟩ ∧
    (fd.params.posonlyargs ++ fd.params.args).head? = some ar ∧ X.N[0]? = some ar.arg ∧ X.env.scope.names.lookup ar.arg = some .local ∧ X.K.lookup cda = some ⟨ccl, cdd, .fields vs, ccs⟩ ∧ vs[2]? = some (.str file tf) ∧ ((X.prog.main.file : Str) == file) = true ∧
    X.K.lookup cc = some ⟨cl, cld, .cell (some (.ref D)), csl⟩ ∧ PySem.W.clsIn X.K D = some cdD
  ks : X.env.kindOf "super" = some .globalImplicit
  kc : X.env.kindOf "__class__" = some .free
  mg : X.mg "super" = none
  top : (X.prog.main.scope.names.lookup ("super" : Str)).isSome = false
  opq : PySem.W.nsIn X.K cStatics "thirdparty.any" = some none
/-- super().m(e, ..): C's method m behind D -/
structure SupM (K : PySem.W.Frag) (C D : Addr) (m : Str) (f2 : Addr) : Prop where
  sub : PySem.W.mroIn K C (.ref D) = some true
  at_ : PySem.W.ks_superIn K C D m = some (some (.ref f2))
  ty : PySem.W.typeIn K (.ref f2) = some (.type "function")
  fi : PySem.W.fnIn K f2 = true
  nc : (m == ("__class__" : Str)) = false
def tSuper (C f2 : Addr) (sp : Sp) (E : XK) (t : TA) : TE := fun σ H Q => ∃ a dx fs, σ[0]? = some (some (.ref a)) ∧ H a = some (.ins C dx fs) ∧ ∀ q, H q = none → t σ (upd H q (.met f2 a)) fun vs H1 => H1 q = some (.met f2 a) ∧ sp (.ref a :: vs) H1 Q E
section
variable {X : Cx} {b0 : List Stmt} {CX : CXT} {k : Nat} {C D f2 : Addr} {fd : FuncData} {ps : List Str} {sp : Sp} {E : XK} {m : Str} {p0 p1 apos pos : Pos} {e : Expr} {es : List Expr} {t : TA}
theorem pea_super {pl : Sem Bool} (Z : SupX X D) (M : SupM X.K C D m f2) (F : FnOk X.prog X.w X.K X.mg X.base CX k f2 fd ps sp) (hr : Room k X.A) (hb : Binds X.K fd ps []) (hx : Passes CX X E) (ha : PA X (e :: es) t)
    (he : eval (.Call (.Attribute (.Call (.Name "super" p0) [] [] p1) m apos) (e :: es) [] pos) X.env = (do
        let ov ← attributeBase (.Call (.Name "super" p0) [] [] p1) m X.env (eval (.Call (.Name "super" p0) [] [] p1) X.env)
        standAt apos.atName
        let (f, first) ← holding [ov] (getMethod ov m pl)
        callWith pos f first (backTo pos (starEach (e :: es) X.env)) []) := by rfl)
    (hst : starEach (e :: es) X.env = (false, eval e X.env) :: starEach es X.env := by rfl) (hpl : (backTo pos (starEach es X.env)).any (·.1) = false := by rfl) :
    PEAt X b0 (.Call (.Attribute (.Call (.Name "super" p0) [] [] p1) m apos) (e :: es) [] pos) (tSuper C f2 sp E t) := by
  refine ⟨fun pins s σ H Q I h => ?_⟩
  obtain ⟨a, dx, fs, hσ, hA, hk⟩ := h
  obtain ⟨f, cda, cc, oc, od, osl, fd', ar, ccl, cdd, vs, ccs, file, tf, cl, cld, csl, cdD, hf1, hf2, hf3, hf4, hf5, hf6, hf7, hf8, hf9, hf10, hf11, hf12⟩ := Z.func
  have X1 := I.kIn
  obtain ⟨oD, hD1, hD2⟩ : ∃ oD, s.heap.get? D = some oD ∧ oD.data = .cls cdD := by
    unfold PySem.W.clsIn at hf12
    split at hf12
    · rename_i c d cd' sl ho
      cases hf12
      exact ⟨_, X1 _ _ ho, rfl⟩
    · cases hf12
  obtain ⟨mA, O, _, _, _, _⟩ := ins_get I.hok hA
  obtain ⟨odx, J, _⟩ := O.look
  refine ks_wpAt_MethodCall (pl := pl) (ks_wpAt_super_base Z.ks Z.kc M.nc hf1 (X1 _ _ hf4) rfl hf5 hf2 (X1 _ _ hf8) rfl hf9 hf10 Z.top ?_) he
  have sup : ∀ {Q' : Value → Shared → Prop} {E' : Value → Shared → Prop}, Q' (.type "super") s → wpAny (model X.prog X.w) X.A (loadName X.env "super") Q' E' s := fun q => by
    obtain ⟨mb, g1, g2⟩ := I.mod.blt
    exact PySem.W.ks_loadName_global I.ok.kind Z.ks (Calls.loadGlobal_builtin (by rw [I.ok.glob]; exact I.mod.glob.keeps I.bk) Z.mg (by rw [I.ok.blt]; exact g1.keeps I.bk) ((g2 "super" (by decide)).trans (show bootBuiltins "super" = some (.type "super") by decide +kernel)) q)
  refine sup ⟨rfl, ?_⟩
  refine wpAny_loadName_free I.ok.kind Z.kc hf3 ⟨_, X1 _ _ hf11, rfl⟩ ?_
  obtain ⟨mL, hn, hl⟩ := I.loc
  obtain ⟨u, ru, l⟩ := hl 0 ar.arg (.ref a) hf6 hσ (.inl hf7)
  obtain rfl : u = Value.ref a := ru
  have lk : mL ar.arg = some (.ref a) := by
    rcases l with ⟨_, q⟩ | ⟨q, _⟩
    · exact q
    · have e1 : X.env.kindOf ar.arg = some .local := hf7
      rw [e1] at q
      rcases q with q | q <;> cases q
  refine wpAny_loadName_local I.ok.kind hf7 hn lk ?_
  refine ks_wpAny_isType_cls hD1 hD2 ⟨rfl, ?_⟩
  refine ks_wpAny_call_super hD1 hD2 J.at_ J.cls (fun c ec => ?_) (PySem.W.looks_mroIn X1 M.sub) (fun h' eso kp => ?_)
  · have := J.no
    unfold PySem.W.notCls at this
    rw [ec] at this
    exact Bool.noConfusion this
  have I1 : Inv X pins σ H { s with heap := h' } := I.kept (t' := s.toks) kp
  obtain ⟨odx', J', _⟩ := (ins_get I1.hok hA).choose_spec.1.look
  have X2 := I1.kIn
  cases hc : PySem.W.clsIn X.K C with
  | none =>
    have z := M.at_
    unfold PySem.W.ks_superIn at z
    rw [hc] at z
    cases z
  | some cd =>
    have hm := M.at_
    unfold PySem.W.ks_superIn at hm
    rw [hc] at hm
    obtain ⟨of, hof, hofc⟩ : ∃ of, h'.get? f2 = some of ∧ of.cls = .type "function" := by
      have ht' : (X.K.lookup f2).map (·.cls) = some (.type "function") := M.ty
      cases z : X.K.lookup f2 with
      | none => rw [z] at ht'; cases ht'
      | some of => rw [z] at ht'; exact ⟨of, X2 _ _ z, Option.some.inj ht'⟩
    have hnew : H h'.objs.size = none := I1.hok.fresh (Nat.le_refl _)
    refine ks_wpAny_getMethod_super eso (PySem.W.looks_opaque X2 Z.opq) (l₀ := cd.mro) ?_ rfl X2 hm hof hofc (PySem.W.ks_ne X2 J' hc) M.nc ?_
    · exact fun A Q E s k q => wpAny_bind ((PySem.W.looks_clsIn X2 hc) A _ E s k (wpAny_pure q))
    · have I2 : Inv X pins σ (upd H h'.objs.size (.met f2 a)) { s with heap := h'.push (PySem.W.methodObj (.ref f2) (.ref a)), toks := s.toks + 1 } :=
        I1.laid (t' := s.toks + 1) (a := h'.objs.size) (o := .met f2 a) (fun b u z => Heap.get?_push_of_some _ z) (Nat.le_refl _)
          (show (h'.push (PySem.W.methodObj (.ref f2) (.ref a))).get? h'.objs.size = some (PySem.W.methodObj (.ref f2) (.ref a)) from Heap.get?_push_size h' rfl)
      have q := hk h'.objs.size hnew
      refine callwith_met (a := a) (g := f2) (by rw [hst]; show (false || (backTo pos (starEach es X.env)).any (·.1) || false) = false; rw [hpl]; rfl) M.fi ?_
      suffices key : wpAny (model X.prog X.w) X.A (spliced (backTo pos (starEach (e :: es) X.env))) (fun us s3 => PySem.W.MethP X.K h'.objs.size f2 (.ref a) s3.heap ∧ wpAny (model X.prog X.w) X.A (call (.ref h'.objs.size) us []) (EP X pins σ Q) X.xe s3) X.xe
          { s with heap := h'.push (PySem.W.methodObj (.ref f2) (.ref a)), toks := s.toks + 1 } from by
        rw [hst] at key ⊢
        exact Calls.evalArgs_plain key
      refine thn (ha.run pos pins _ σ _ _ I2 q) fun us s3 ⟨ws, H1, I3, rv, hq, hsp⟩ => ?_
      refine ⟨met_P I3 hq, ?_⟩
      show wpAny (model X.prog X.w) X.A (call (.ref h'.objs.size) us []) (EP X pins σ Q) X.xe s3
      refine wpAny_call (call_met I3 hq ?_)
      have hl : (Value.ref a :: us).length = ps.length := by
        have e := F.len _ _ _ _ hsp
        rw [← e, List.length_cons, List.length_cons, rv.length]
      refine codeAny_mono (F.run X.A X.stack s3 H1 ⟨.ref a :: us, []⟩ (.ref a :: us) (.ref a :: ws) Q E hr I3.env0 (by
        have := hb s3 (.ref a :: us) I3.kIn (by simpa using hl)
        simpa using this) (.cons rfl rv) hsp) fun r s' hq' => ?_
      cases r with
      | error e => exact hx pins σ H1 s3 e s' I3 hq'
      | ok fl =>
        cases fl with
        | ret u => exact I3.after hq'
        | next => exact False.elim hq'
        | brk => exact False.elim hq'
        | cont => exact False.elim hq'
end
end L2
namespace L2
open PySem PySem.Spec PyProof.Rows PySem.SupS
theorem pea_or {X : Cx} {b0 : List Stmt} {a b : Expr} {rest : List Expr} {ta tb : TE} {pos : Pos} (ha : PEAt X b0 a ta) (hb : PE X (.BoolOp .Or (b :: rest) pos) tb) : PEAt X b0 (.BoolOp .Or (a :: b :: rest) pos) (tOrV ta tb) := by
  refine ⟨fun pins s σ H Q I h => ?_⟩
  show _root_.PySem.wpAt (model X.prog X.w) X.A (.func b0 X.env) (do
    let v ← eval a X.env
    standAt pos
    let c ← holding [v] (truthy v)
    match BoolOp.Or, c with
    | .And, false | .Or, true => pure v
    | _, _ => boolOp pos .Or (eval b X.env :: evalEach rest X.env)) _ _ _
  refine _root_.PySem.wpAt_bind (_root_.PySem.wpAt_mono (ha.run pins s σ H _ I h) (fun v s1 hh => _root_.PySem.wpAt_of_wpAny ?_) fun _ _ x => x)
  obtain ⟨x, H1, I1, r1, c, ex, q1⟩ := hh
  subst ex
  cases r1
  refine wpAny_bind (wpAny_standAt (wpAny_bind (wpAny_holding (wpAny_truthy_bool ?_))))
  cases c with
  | false => exact hb.run pins s1 σ H1 Q I1 q1
  | true => exact wpAny_pure ⟨.bl true, H1, I1, rfl, q1⟩
theorem pe_nv {X : Cx} {e : Expr} : PE X e (fun _ _ _ => False) := ⟨fun _ _ _ _ _ _ h => h.elim⟩
end L2
set_option maxHeartbeats 4000000
namespace K76
open PySem PySem.W PySem.Calls PyProof.Rows L2
section
variable {P : Params}
theorem na_Workshop_book : NoAttr (K0 P) 1440 "book" := by unfold NoAttr; kernel_rfl
theorem na_Workshop_log : NoAttr (K0 P) 1440 "log" := by unfold NoAttr; kernel_rfl
theorem na_Workshop_held : NoAttr (K0 P) 1440 "held" := by unfold NoAttr; kernel_rfl
theorem na_Workshop_past : NoAttr (K0 P) 1440 "past" := by unfold NoAttr; kernel_rfl
theorem na_Workshop_sites : NoAttr (K0 P) 1440 "sites" := by unfold NoAttr; kernel_rfl
theorem na_Workshop_busy : NoAttr (K0 P) 1440 "busy" := by unfold NoAttr; kernel_rfl
theorem mt_Workshop_check_idle : Meth (K0 P) 1440 "check_idle" 1359 := ⟨by kernel_rfl, by kernel_rfl, by kernel_rfl⟩
theorem mt_Workshop_is_deed : Meth (K0 P) 1440 "is_deed" 1366 := ⟨by kernel_rfl, by kernel_rfl, by kernel_rfl⟩
theorem mt_Workshop_do : Meth (K0 P) 1440 "do" 1373 := ⟨by kernel_rfl, by kernel_rfl, by kernel_rfl⟩
theorem mt_Workshop_do_all : Meth (K0 P) 1440 "do_all" 1381 := ⟨by kernel_rfl, by kernel_rfl, by kernel_rfl⟩
theorem mt_Workshop_done : Meth (K0 P) 1440 "done" 1388 := ⟨by kernel_rfl, by kernel_rfl, by kernel_rfl⟩
theorem mt_Workshop_change : Meth (K0 P) 1440 "change" 1395 := ⟨by kernel_rfl, by kernel_rfl, by kernel_rfl⟩
theorem mt_Workshop_check_use : Meth (K0 P) 1440 "check_use" 1402 := ⟨by kernel_rfl, by kernel_rfl, by kernel_rfl⟩
theorem mt_Workshop_move : Meth (K0 P) 1440 "move" 1409 := ⟨by kernel_rfl, by kernel_rfl, by kernel_rfl⟩
theorem mt_Workshop_undo : Meth (K0 P) 1440 "undo" 1416 := ⟨by kernel_rfl, by kernel_rfl, by kernel_rfl⟩
theorem spc_Workshop___len__ : Spc (K0 P) 1440 "__len__" 1430 := ⟨by kernel_rfl, by kernel_rfl⟩
theorem spc_Workshop___repr__ : Spc (K0 P) 1440 "__repr__" 1437 := ⟨by kernel_rfl, by kernel_rfl⟩
theorem pr_Workshop_guards : PropOf (K0 P) 1440 "guards" 1352 1342 := ⟨by kernel_rfl, by kernel_rfl, by kernel_rfl, ⟨[.ref 1351, .none, .none, .str "guards" 2037, .bool false], by kernel_rfl⟩⟩
theorem con_Workshop_LABEL : Con (K0 P) 1440 "LABEL" (.str "Workshop") (.str "Workshop" 2020) := ⟨by kernel_rfl, ⟨_, rfl⟩, by kernel_rfl, by kernel_rfl⟩
theorem con_Workshop_MOST : Con (K0 P) 1440 "MOST" (.int 100) (.int 100 2018) := ⟨by kernel_rfl, ⟨_, rfl⟩, by kernel_rfl, by kernel_rfl⟩
theorem nb_Workshop : findIn (K0 P) (.ref 1440) "__bool__" = some none := by kernel_rfl
theorem deq_Workshop : DefEq (K0 P) 1440 := ⟨by kernel_rfl, by kernel_rfl, by kernel_rfl⟩
theorem nf_Workshop : notFirst (K0 P) 1440 (.ref 1440) = true := by kernel_rfl
theorem nf_Workshop_Book : notFirst (K0 P) 1440 (.ref 835) = true := by kernel_rfl
theorem nf_Workshop_int : notFirst (K0 P) 1440 (.type "int") = true := by kernel_rfl
theorem na_SiteWorkshop_book : NoAttr (K0 P) 1504 "book" := by unfold NoAttr; kernel_rfl
theorem na_SiteWorkshop_log : NoAttr (K0 P) 1504 "log" := by unfold NoAttr; kernel_rfl
theorem na_SiteWorkshop_held : NoAttr (K0 P) 1504 "held" := by unfold NoAttr; kernel_rfl
theorem na_SiteWorkshop_past : NoAttr (K0 P) 1504 "past" := by unfold NoAttr; kernel_rfl
theorem na_SiteWorkshop_sites : NoAttr (K0 P) 1504 "sites" := by unfold NoAttr; kernel_rfl
theorem na_SiteWorkshop_busy : NoAttr (K0 P) 1504 "busy" := by unfold NoAttr; kernel_rfl
theorem mt_SiteWorkshop_check_idle : Meth (K0 P) 1504 "check_idle" 1359 := ⟨by kernel_rfl, by kernel_rfl, by kernel_rfl⟩
theorem mt_SiteWorkshop_is_deed : Meth (K0 P) 1504 "is_deed" 1472 := ⟨by kernel_rfl, by kernel_rfl, by kernel_rfl⟩
theorem mt_SiteWorkshop_do : Meth (K0 P) 1504 "do" 1373 := ⟨by kernel_rfl, by kernel_rfl, by kernel_rfl⟩
theorem mt_SiteWorkshop_do_all : Meth (K0 P) 1504 "do_all" 1381 := ⟨by kernel_rfl, by kernel_rfl, by kernel_rfl⟩
theorem mt_SiteWorkshop_done : Meth (K0 P) 1504 "done" 1388 := ⟨by kernel_rfl, by kernel_rfl, by kernel_rfl⟩
theorem mt_SiteWorkshop_change : Meth (K0 P) 1504 "change" 1485 := ⟨by kernel_rfl, by kernel_rfl, by kernel_rfl⟩
theorem mt_SiteWorkshop_check_use : Meth (K0 P) 1504 "check_use" 1495 := ⟨by kernel_rfl, by kernel_rfl, by kernel_rfl⟩
theorem mt_SiteWorkshop_move : Meth (K0 P) 1504 "move" 1501 := ⟨by kernel_rfl, by kernel_rfl, by kernel_rfl⟩
theorem mt_SiteWorkshop_undo : Meth (K0 P) 1504 "undo" 1416 := ⟨by kernel_rfl, by kernel_rfl, by kernel_rfl⟩
theorem spc_SiteWorkshop___len__ : Spc (K0 P) 1504 "__len__" 1430 := ⟨by kernel_rfl, by kernel_rfl⟩
theorem spc_SiteWorkshop___repr__ : Spc (K0 P) 1504 "__repr__" 1437 := ⟨by kernel_rfl, by kernel_rfl⟩
theorem pr_SiteWorkshop_guards : PropOf (K0 P) 1504 "guards" 1352 1342 := ⟨by kernel_rfl, by kernel_rfl, by kernel_rfl, ⟨[.ref 1351, .none, .none, .str "guards" 2037, .bool false], by kernel_rfl⟩⟩
theorem con_SiteWorkshop_LABEL : Con (K0 P) 1504 "LABEL" (.str "SiteWorkshop") (.str "SiteWorkshop" 2195) := ⟨by kernel_rfl, ⟨_, rfl⟩, by kernel_rfl, by kernel_rfl⟩
theorem con_SiteWorkshop_MOST : Con (K0 P) 1504 "MOST" (.int 100) (.int 100 2018) := ⟨by kernel_rfl, ⟨_, rfl⟩, by kernel_rfl, by kernel_rfl⟩
theorem nb_SiteWorkshop : findIn (K0 P) (.ref 1504) "__bool__" = some none := by kernel_rfl
theorem deq_SiteWorkshop : DefEq (K0 P) 1504 := ⟨by kernel_rfl, by kernel_rfl, by kernel_rfl⟩
theorem nf_SiteWorkshop : notFirst (K0 P) 1504 (.ref 1504) = true := by kernel_rfl
theorem nf_SiteWorkshop_Book : notFirst (K0 P) 1504 (.ref 835) = true := by kernel_rfl
theorem nf_SiteWorkshop_int : notFirst (K0 P) 1504 (.type "int") = true := by kernel_rfl
theorem spc_Book___len__ : Spc (K0 P) 835 "__len__" 804 := ⟨by kernel_rfl, by kernel_rfl⟩
theorem spc_Book___contains__ : Spc (K0 P) 835 "__contains__" 811 := ⟨by kernel_rfl, by kernel_rfl⟩
theorem spc_Book___eq__ : Spc (K0 P) 835 "__eq__" 818 := ⟨by kernel_rfl, by kernel_rfl⟩
theorem sup_is_deed : SupM (K0 P) 1504 1504 "is_deed" 1366 := ⟨by kernel_rfl, by kernel_rfl, by kernel_rfl, by kernel_rfl, by kernel_rfl⟩
theorem sup_change : SupM (K0 P) 1504 1504 "change" 1395 := ⟨by kernel_rfl, by kernel_rfl, by kernel_rfl, by kernel_rfl, by kernel_rfl⟩
theorem sup_move : SupM (K0 P) 1504 1504 "move" 1409 := ⟨by kernel_rfl, by kernel_rfl, by kernel_rfl, by kernel_rfl, by kernel_rfl⟩
theorem opq : nsIn (K0 P) cStatics "thirdparty.any" = some none := by kernel_rfl
def es_LENGTHS (w : World) : Array DictEntry := match (o1313 w.params).data with | .dict es _ => es | _ => #[]
theorem kd_LENGTHS (w : World) : KDict (K0 w.params) w 1313 (es_LENGTHS w) 4 := ⟨by kernel_rfl, ⟨⟨_, _, rfl, rfl⟩, ⟨_, _, rfl, rfl⟩, ⟨_, _, rfl, rfl⟩, ⟨_, _, rfl, rfl⟩, True.intro⟩, by kernel_rfl⟩
def es_SITE_LENGTHS (w : World) : Array DictEntry := match (o1314 w.params).data with | .dict es _ => es | _ => #[]
theorem kd_SITE_LENGTHS (w : World) : KDict (K0 w.params) w 1314 (es_SITE_LENGTHS w) 3 := ⟨by kernel_rfl, ⟨⟨_, _, rfl, rfl⟩, ⟨_, _, rfl, rfl⟩, ⟨_, _, rfl, rfl⟩, True.intro⟩, by kernel_rfl⟩
end
end K76
set_option maxHeartbeats 4000000
/-! Shp: an attribute as an assignment's target; try/finally; calls of methods by slots, by keyword, with nothing; a method with *args and keyword-only names. -/
namespace L2
open PySem PySem.Spec PyProof.Rows
section
variable {X : Cx} {o e value : Expr} {f : Str} {pos pos' tpos : Pos} {ta tv : TE}
/-- o.f = .. as a target -/
def gFld (K : PySem.W.Frag) (ta : TE) (f : Str) : TG := fun v σ H Q => ta σ H fun x H1 => ∃ a C dx fs, x = .ref a ∧ H1 a = some (.ins C dx fs) ∧ Cls K C ∧ NoAttr K C f ∧ fs.length < 1000 ∧ Q σ (upd H1 a (.ins C dx (putF f v fs)))
theorem pg_fld (ho : PE X o ta) : PG X (.Attribute o f pos) (gFld X.K ta f) := by
  refine ⟨fun pins s σ H v u Q I r h => ?_⟩
  rw [assign_Attribute]
  refine wpAny_bind (wpAny_holding (thn (ho.run pins s σ H _ I h) fun ov s1 ⟨x, H1, I1, r1, a, C, dx, fs, ex, ea, c, n, l, q⟩ => ?_))
  subst ex
  obtain rfl : ov = Value.ref a := r1
  refine wpAny_bind (wpAny_standAt (wpAny_bind (wpAny_holding ?_)))
  exact setattr_ok I1 ea c n l r fun s3 I3 => wpAny_release ⟨σ, _, I3, q⟩
end
/-! ### try: body / finally: suite (the skeleton's two rows, turned to this claim) -/
def tFin (tb : WX → TS) (tf tfs : TS) (Wout : WX) : TS := fun D σ H => tb (wFin tfs Wout) { nx := fun σ1 H1 => tf D σ1 H1, rt := fun _ _ => False } σ H
section
variable {X : Cx} {body : List Stmt} {f₀ : Stmt} {fs : List Stmt} {pos : Pos} {tb : WX → TS} {tf tfs : TS} {Wout : WX}
theorem ps_fin (hs : X.stack = X.env :: X.outer) (hf : X.env.frame = some X.env.locals) (hex : X.ex = []) (tk : Takes X Wout)
    (hb : ∀ (W : WX) (pn : List (Addr × Obj)) (xe : Value → Shared → Prop), Takes (X.tr pn xe) W → PassesOwn (model X.prog X.w) X.A X.env xe → PSs (X.tr pn xe) body (tb W))
    (hfin : PSs X.nox (f₀ :: fs) tf) (hsu : ∀ (a : Addr) (pn : List (Addr × Obj)), PSs (X.suite a pn) (f₀ :: fs) tfs) : PS X (.Try body [] [] (f₀ :: fs) pos) (tFin tb tf tfs Wout) := by
  refine ⟨fun pins s σ H D I h => ?_⟩
  have ok := I.ok
  refine wpAny_Try_finally ?_
  refine wpAny_mono ((hb (wFin tfs Wout) (X.pn ++ pins) (fun x s₁ => wpAny (model X.prog X.w) X.A (noteFrame x X.env) (fun _ s₂ => FinallyRaised X.prog X.w X.A X.xe X.env (f₀ :: fs) (SP X pins D) x s₂) (FinallyRaised X.prog X.w X.A X.xe X.env (f₀ :: fs) (SP X pins D)) s₁)
    (fun u s' xx => ?_) PassesOwn.looking).run [] s σ H { nx := fun σ1 H1 => tf D σ1 H1, rt := fun _ _ => False } (I.toTry _) h) (fun g s1 z => ?_) (fun x s1 hx => hx)
  · exact fin_exc hs hf hex ok tk hsu xx
  · cases g with
    | ret u =>
      obtain ⟨_, _, _, _, _, q⟩ := z
      exact False.elim q
    | brk =>
      obtain ⟨_, _, _, q⟩ := z
      exact False.elim q
    | cont =>
      obtain ⟨_, _, _, q⟩ := z
      exact False.elim q
    | next =>
      obtain ⟨σ1, H1, J1, q1⟩ := z
      refine wpAny_execs_nil ?_
      refine wpAny_mono (hfin.run pins s1 σ1 H1 D ((J1.ofTry ok).wish _) q1) (fun g2 s2 q2 => ?_) fun _ _ e => False.elim e
      have q3 : SP X pins D g2 s2 := q2.unwish
      cases g2 <;> exact q3
end
/-- o.m(e, ..) within a try: what it raises is wished for at the slots as they stand -/
def tMethSt (C : Addr) (m : Str) (sp : Sp) (E : L2.St → XK) (ta : TE) (t : TA) : TE := fun σ H Q => ta σ H fun x H1 => ∃ a dx fs, x = .ref a ∧ H1 a = some (.ins C dx fs) ∧ fs.lookup m = none ∧ t σ H1 fun vs H2 => sp (x :: vs) H2 Q (E σ)
section
variable {X : Cx} {CX : CXT} {k : Nat} {f C : Addr} {fd : FuncData} {ps : List Str} {sp : Sp} {m : Str} {pos apos : Pos} {e o : Expr} {es : List Expr} {ta : TE} {t : TA} {pl : Sem Bool}
theorem pe_methSt {E : L2.St → XK} (he : PE X o ta) (c : Cls X.K C) (hm : Meth X.K C m f)
    (F : FnOk X.prog X.w X.K X.mg X.base CX k f fd ps sp) (hr : Room k X.A) (hb : Binds X.K fd ps []) (hx : ∀ σ, PassesAt CX X σ (E σ)) (ha : PA X (e :: es) t)
    (hst : starEach (e :: es) X.env = (false, eval e X.env) :: starEach es X.env := by rfl) (hpl : (backTo pos (starEach es X.env)).any (·.1) = false := by rfl)
    (ht : eval (.Call (.Attribute o m apos) (e :: es) [] pos) X.env = (do
      let ov ← eval o X.env
      standAt apos.atName
      let (f, first) ← holding [ov] (getMethod ov m pl)
      callWith pos f first (backTo pos (starEach (e :: es) X.env)) (backToKw pos (keywordEach [] X.env))) := by rfl) :
    PE X (.Call (.Attribute o m apos) (e :: es) [] pos) (tMethSt C m sp E ta t) := by
  refine ⟨fun pins s σ H Q I h => ?_⟩
  refine PySem.W.methodCall_KW (pl := pl) (thn (he.run pins s σ H _ I h) fun u s1 ⟨x, H1, I1, rx, a, dx, fs, ex, ea, l, q⟩ => ?_) ht
  subst ex
  obtain rfl : u = Value.ref a := rx
  refine getmeth_ok I1 ea c hm l ?_
  refine PySem.W.callWith_K (first := [.ref a]) (h₀ := X.base) I.ok.mod.kin hm.kp (thn (ha.run pos pins s1 σ H1 _ I1 q) fun us s2 ⟨vs, H2, I2, r, q2⟩ => ⟨I2.kIn, ?_⟩) hst hpl
  exact run_fnS (us := .ref a :: us) (vs := .ref a :: vs) F hr hb (hx σ) I2 (.cons rfl r) q2
/-- o.m() by a positional promise -/
theorem pe_methR0 {E : XK} (he : PE X o ta) (c : Cls X.K C) (hm : Meth X.K C m f) (F : FnR X.prog X.w X.K X.mg X.base CX k f sp) (hr : Room k X.A) (hx : Passes CX X E)
    (ht : eval (.Call (.Attribute o m apos) [] [] pos) X.env = (do
      let ov ← eval o X.env
      standAt apos.atName
      let (f, first) ← holding [ov] (getMethod ov m pl)
      callWith pos f first (backTo pos (starEach [] X.env)) (backToKw pos (keywordEach [] X.env))) := by rfl) :
    PE X (.Call (.Attribute o m apos) [] [] pos) (tMethR C m sp E ta tNil) := by
  refine ⟨fun pins s σ H Q I h => ?_⟩
  refine PySem.W.methodCall_KW (pl := pl) (thn (he.run pins s σ H _ I h) fun u s1 ⟨x, H1, I1, rx, a, dx, fs, ex, ea, l, q⟩ => ?_) ht
  subst ex
  obtain rfl : u = Value.ref a := rx
  refine getmeth_ok I1 ea c hm l ?_
  exact PySem.W.callWith_K0 (first := [.ref a]) I1.kIn hm.kp (wpAny_call (run_fnR (us := [.ref a]) (vs := [.ref a]) F hr hx I1 (.cons rfl .nil) q))
/-- o.m(x=e) -/
def tMethKw (C : Addr) (m : Str) (n : Nat) (sp : Sp) (gV : List V → List V → List V) (E : XK) (ta : TE) (tk : TA) : TE := fun σ H Q => ta σ H fun x H1 => ∃ a dx fs, x = .ref a ∧ H1 a = some (.ins C dx fs) ∧ fs.lookup m = none ∧ tk σ H1 fun zs H2 => zs.length = n ∧ sp (gV [.ref a] zs) H2 Q E
theorem pe_methKw {E : XK} {ks : List Str} {kws : List Keyword} {tk : TA} {g : List Value → List Value → List Value} {gV : List V → List V → List V} (he : PE X o ta) (c : Cls X.K C) (hm : Meth X.K C m f) (F : FnOk X.prog X.w X.K X.mg X.base CX k f fd ps sp) (hr : Room k X.A) (hb : KBn X.K fd ps 1 ks g gV) (hx : Passes CX X E)
    (hkw : PK X kws tk) (hall : (backToKw pos (keywordEach kws X.env)).all (·.1.isSome) = true := by rfl) (hks : (backToKw pos (keywordEach kws X.env)).filterMap (·.1) = ks := by rfl)
    (hpl : ((backTo pos (starEach [] X.env)).any (·.1) || (backToKw pos (keywordEach kws X.env)).any (·.1.isNone)) = false := by rfl)
    (ht : eval (.Call (.Attribute o m apos) [] kws pos) X.env = (do
      let ov ← eval o X.env
      standAt apos.atName
      let (f, first) ← holding [ov] (getMethod ov m pl)
      callWith pos f first (backTo pos (starEach [] X.env)) (backToKw pos (keywordEach kws X.env))) := by rfl) :
    PE X (.Call (.Attribute o m apos) [] kws pos) (tMethKw C m ks.length sp gV E ta tk) := by
  refine ⟨fun pins s σ H Q I h => ?_⟩
  refine PySem.W.methodCall_KW (pl := pl) (thn (he.run pins s σ H _ I h) fun u s1 ⟨x, H1, I1, rx, a, dx, fs, ex, ea, l, q⟩ => ?_) ht
  subst ex
  obtain rfl : u = Value.ref a := rx
  refine getmeth_ok I1 ea c hm l ?_
  refine PySem.W.callWith_KW0 (first := [.ref a]) (h₀ := X.base) I.ok.mod.kin hm.kp hall ?_ hpl
  refine thn (hkw.run pos pins s1 σ H1 _ I1 q) fun ws s2 ⟨zs, H2, I2, rz, l2, q2⟩ => ⟨I2.kIn, ?_⟩
  rw [hks]
  exact run_fnN (us := [.ref a]) (vs := [.ref a]) F hr hb hx I2 (.cons rfl .nil) rz rfl l2 q2
end
section
variable {CX : CXT} {P : Program} {w : World} {K : PySem.W.Frag} {mg : Str → Option Value} {base : Heap} {k : Nat} {f : Addr} {name qual : Str} {params : Arguments} {body : List Stmt} {scope : Scope} {dV kV doc pm cdv ct oc : Value} {an od : Option Addr}
  {osl : Array (Option Value)} {N ps : List Str} {sp : Sp}
/-- def f(a, .., *v, k=d): what is left over is a new tuple; the keyword-only names stand at their written values -/
theorem fn_starKO {D : Addr} {kn pv : Str} {kval : Value} {kv : V} (rk : RelV kv kval) (hk : PySem.W.nsIn K D kn = some (some kval)) (lk : K.lookup f = some ⟨oc, od, .func (PySem.W.fnOf name qual params body scope dV kV doc pm an cdv ct), osl⟩) (hcd : PySem.W.codeIn K cdv qual = true) (S : FnScope N (ps ++ [kn, pv]) scope) (hCX : StX.CXUp CX)
    (hb : ∀ us rest : List Value, us.length = ps.length → ∃ (β γ : Type) (k1 : Option Value → Sem β) (k2 : β → Sem γ) (k3 : γ → Sem (List (Str × Value))) (a : β), bindArgs (PySem.W.fnOf name qual params body scope dV kV doc pm an cdv ct) ⟨us ++ rest, []⟩ = (((nsGet D kn >>= k1) >>= k2) >>= k3) ∧ k1 (some kval) = pure a ∧ (k2 a >>= k3) = (newTuple rest >>= fun t => pure (ps.zip us ++ [(kn, kval), (pv, t)])))
    (hbody : ∀ (A : Around) (outer : List Env) (s : Shared) (H : Hp) (vs : List V) (Q : VK) (E : XK), Room k (A.deeper (envOfC qual scope s.heap.objs.size f cdv)) → sp vs H Q E →
      ∃ t, PSs (cxOf CX P w K mg base N qual scope f cdv A outer s H E) body t ∧ t { nx := fun _ H' => Q .non H', rt := Q } (start N vs) H) :
    FnR P w K mg base CX (k + 1) f (fun vs H Q E => ∃ ws rest, vs = ws ++ rest ∧ ws.length = ps.length ∧ rest.length ≤ sizeLine ∧ ∀ p, H p = Option.none → sp (ws ++ [kv, V.ref p]) (upd H p (.tup rest)) Q E) := by
  intro A outer s H us vs Q E hr e0 r hsp
  obtain ⟨ws, rest, ev, hl, hz, hq⟩ := hsp
  subst ev
  obtain ⟨u1, u2, eu, r1, r2⟩ := StX.vals_split r
  subst eu
  have hn : H s.heap.objs.size = Option.none := e0.hok.fresh (Nat.le_refl _)
  have hl1 : u1.length = ps.length := by rw [← r1.length]; exact hl
  have hl2 : u2.length ≤ sizeLine := by rw [← r2.length]; exact hz
  refine StX.run_bnd lk hcd S hr e0 (G := fun xs H2 => ∃ p, H p = Option.none ∧ xs = ws ++ [kv, V.ref p] ∧ H2 = upd H p (.tup rest)) (fun A' Ex Q' h => ?_) fun s2 H2 xs ⟨p, hp, ex, eH⟩ hr' => ?_
  · have KX : K.In s.heap := e0.mod.kin.keeps fun b o e => (e0.bs b o e).1
    obtain ⟨β, γ, k1, k2, k3, a, h1, h2, h3⟩ := hb u1 u2 hl1
    rw [h1, bind_assoc]
    refine wpAny_bind (((PySem.W.looks_nsIn KX hk).andThen (PySem.W.Looks.of_pure h2)).here ?_)
    rw [h3]
    refine wpAny_bind (wpAny_newTuple (wpAny_pure ?_) hl2)
    have new : ObjOk P w (upd H s.heap.objs.size (.tup rest)) (s.heap.push ({ cls := .type "tuple", data := .seq u2.toArray } : Obj)) s.heap.objs.size (.tup rest) := ⟨hz, u2, r2, ⟨_, Heap.get?_push_size _ rfl, rfl, _, rfl⟩⟩
    have un := StX.un_laid (fs := frs outer) (s := s) (o := ({ cls := .type "tuple", data := .seq u2.toArray } : Obj)) (u := .tup rest) hn
    have z := h _ _ (ws ++ [kv, V.ref s.heap.objs.size]) (u1 ++ [kval, Value.ref s.heap.objs.size]) (StX.env0_laid e0 new) un rfl (fun e s' => hCX outer s H _ _ E e s' un (fun b o q => Heap.get?_push_of_some _ q) rfl) (r1.append (.cons rk (.cons rfl .nil)))
      (by rw [List.length_append, List.length_append, hl] <;> rfl) ⟨_, hn, rfl, rfl⟩
    rw [List.zip_append hl1.symm] at z
    exact z
  · subst ex eH
    exact hbody A outer s2 _ _ Q E hr' (hq p hp)
end
end L2
set_option maxHeartbeats 4000000
/-! Bk: books in plain words. -/
namespace K76
open PySem L2 Ed
/-- a name: one to eight small letters -/
structure Nm (s : Str) : Prop where
  lo : 1 ≤ s.cps.size
  hi : s.cps.size ≤ 8
  az : ∀ c ∈ s.cps.toList, 97 ≤ c ∧ c ≤ 122
structure Lnk where
  a : Int
  b : Int
  w : Str
structure Mrk where
  p : Int
  w : Str
structure Slt where
  k : Str
  sp : List Int
structure Tmp where
  name : Str
  kind : Str
  pages : Int
  links : List Lnk
  marks : List Mrk
  slots : List Slt
def kD (k : Str × Int) : PyData := .tuple [.str k.1, .int k.2]
def lD (l : Lnk) : PyData := .tuple [.int l.a, .int l.b, .str l.w]
def mD (m : Mrk) : PyData := .tuple [.int m.p, .str m.w]
def sD (s : Slt) : PyData := .tuple [.str s.k, .tuple (s.sp.map PyData.int)]
def tD (t : Tmp) : PyData := .tuple [.str t.name, .str t.kind, .int t.pages, .tuple (t.links.map lD), .tuple (t.marks.map mD), .tuple (t.slots.map sD)]
def ksD (ks : List (Str × Int)) : PyData := .tuple (ks.map kD)
def tsD (ts : List Tmp) : PyData := .tuple (ts.map tD)
def OkL (pages : Int) (l : Lnk) : Prop := (0 ≤ l.a ∧ l.a < pages) ∧ (0 ≤ l.b ∧ l.b < pages) ∧ Nm l.w
def OkM (gates pages : Int) (m : Mrk) : Prop := (gates ≤ m.p ∧ m.p < pages) ∧ Nm m.w
/-- the gates of a kind -/
def gatesOf (ks : List (Str × Int)) (x : Str) : Option Int := (ks.find? (fun k => decide (x = k.1))).map (·.2)
def OkS (ks : List (Str × Int)) (pages : Int) (s : Slt) : Prop := ∃ g, gatesOf ks s.k = some g ∧ (s.sp.length : Int) = g ∧ (∀ p ∈ s.sp, 0 ≤ p ∧ p < pages) ∧ s.sp.Nodup
structure OkT (ks : List (Str × Int)) (t : Tmp) : Prop where
  nm : Nm t.name
  g : ∃ g, gatesOf ks t.kind = some g ∧ g ≤ t.pages ∧ ∀ m ∈ t.marks, OkM g t.pages m
  pg : t.pages ≤ 5
  nl : t.links.length ≤ 4
  nk : t.marks.length ≤ 4
  ns : t.slots.length ≤ 2
  ls : ∀ l ∈ t.links, OkL t.pages l
  ss : ∀ s ∈ t.slots, OkS ks t.pages s
  dl : t.links.Nodup
  dm : t.marks.Nodup
structure OkK (ks : List (Str × Int)) : Prop where
  lo : 1 ≤ ks.length
  hi : ks.length ≤ 4
  nm : ∀ k ∈ ks, Nm k.1
  g : ∀ k ∈ ks, 1 ≤ k.2 ∧ k.2 ≤ 3
  nd : (ks.map (·.1)).Nodup
/-- immutable -/
theorem imm_kD (k : Str × Int) : immD (kD k) = true := rfl
theorem imm_lD (k : Lnk) : immD (lD k) = true := rfl
theorem imm_mD (k : Mrk) : immD (mD k) = true := rfl
theorem imm_ints (l : List Int) : immAll (l.map PyData.int) = true := immAll_map (fun _ => rfl) l
theorem imm_sD (s : Slt) : immD (sD s) = true := by
  show (immD (.str s.k) && (immD (.tuple (s.sp.map PyData.int)) && true)) = true
  rw [Bool.and_true, show immD (.tuple (s.sp.map PyData.int)) = true from imm_ints _] <;> rfl
theorem imm_tD (t : Tmp) : immD (tD t) = true := by
  show (true && (true && (true && (immAll (t.links.map lD) && (immAll (t.marks.map mD) && (immAll (t.slots.map sD) && true)))))) = true
  rw [immAll_map imm_lD, immAll_map imm_mD, immAll_map imm_sD] <;> rfl
theorem imm_ksD (ks : List (Str × Int)) : immD (ksD ks) = true := immAll_map imm_kD ks
theorem imm_tsD (ts : List Tmp) : immD (tsD ts) = true := immAll_map imm_tD ts
end K76
set_option maxHeartbeats 4000000
namespace K76
open PySem PySem.W PySem.Calls PyProof.Rows L2 Evl Ed
section
variable {w : World} {mg : Str → Option Value} {base : Heap}
/-! ### is_row -/
theorem sc_is_row : FnScope ["value", "length"] ["value", "length"] (defScope s_is_row) := ⟨rfl, rfl, rfl, by decide +kernel, rfl, by decide +kernel, by decide +kernel⟩
def m_is_row : List PyData → PyData → Prop := fun ds d => ∃ xs n, ds = [.tuple xs, .int n] ∧ d = .bool (decide ((xs.length : Int) = n))
theorem ok_is_row (W : Wd w.params mg) : Ok w mg base CX0 1 a_is_row fd_is_row ["value", "length"] (spM (Kw w) m_is_row) := by
  refine (F_is_row w.params).ok sc_is_row (fun vs H Q E h => ?_) (fun cdv A outer s H vs Q E hr h => ?_)
  · obtain ⟨ds, d, hd, ⟨x, n, rfl, rfl⟩, _⟩ := h
    exact hd.len
  · obtain ⟨ds, d, hd, ⟨x, n, rfl, rfl⟩, k⟩ := h
    obtain ⟨v, u, rfl, hv, hu⟩ := dpa2 hd
    obtain rfl := dp_int hu
    refine ⟨_, (pss_one (ps_ret (pe_and (pe_callB call_isi rfl (n_isinstance W) boot_isinstance (pa_cons (pv 0) (pa_cons (pe_tyN rfl (n_tuple W) boot_tuple) pa_nil))) (pe_one (pe_cmpR op_eq (pe_callB call_len_seq rfl (n_len W) boot_len (pa_cons (pv 0) pa_nil)) (pv 1) (nomark _)))))), ?_⟩
    refine s_retD (d := .bool (decide ((x.length : Int) = n))) (ed_to (ed_bool (ev_andV (a := true) (ev_isTp (ed_var rfl hv)) fun _ => ev_op (ev_lenTD (ed_var rfl hv)) (ev_var rfl) (rv_eq rfl))) ?_) k
    rw [Bool.true_and] <;> simp
/-! ### is_name -/
theorem sc_is_name : FnScope ["value", "sign"] ["value"] (defScope s_is_name) := ⟨rfl, rfl, rfl, by decide +kernel, rfl, by decide +kernel, by decide +kernel⟩
theorem lett_of {c : Nat} (h : 97 ≤ c ∧ c ≤ 122) : c ∈ ("abcdefghijklmnopqrstuvwxyz" : Str).cps.toList := by
  obtain ⟨h1, h2⟩ := h
  have : ∀ d, d < 26 → (97 + d) ∈ ("abcdefghijklmnopqrstuvwxyz" : Str).cps.toList := by decide +kernel
  have h3 := this (c - 97) (by omega)
  rwa [show 97 + (c - 97) = c by omega] at h3
theorem sign_of {c : Nat} (h : 97 ≤ c ∧ c ≤ 122) : c ∈ ("abcdefghijklmnopqrstuvwxyz0123456789" : Str).cps.toList := by
  obtain ⟨h1, h2⟩ := h
  have : ∀ d, d < 26 → (97 + d) ∈ ("abcdefghijklmnopqrstuvwxyz0123456789" : Str).cps.toList := by decide +kernel
  have h3 := this (c - 97) (by omega)
  rwa [show 97 + (c - 97) = c by omega] at h3
def m_is_name : List PyData → PyData → Prop := fun ds d => ∃ s, ds = [.str s] ∧ Nm s ∧ d = .bool true
theorem ok_is_name (W : Wd w.params mg) : Ok w mg base CX0 1 a_is_name fd_is_name ["value"] (spM (Kw w) m_is_name) := by
  refine (F_is_name w.params).ok sc_is_name (fun vs H Q E h => ?_) (fun cdv A outer s H vs Q E hr h => ?_)
  · obtain ⟨ds, d, hd, ⟨x, rfl, _, rfl⟩, _⟩ := h
    exact hd.len
  · obtain ⟨ds, d, hd, ⟨x, rfl, hn, rfl⟩, k⟩ := h
    obtain ⟨v, rfl, hv⟩ := dpa1 hd
    obtain rfl := dp_str hv
    have h1 : (1 : Int) ≤ (x.length : Int) := by have := hn.lo; show (1 : Int) ≤ (x.cps.size : Int); omega
    have h8 : (x.length : Int) ≤ 8 := by have := hn.hi; show (x.cps.size : Int) ≤ 8; omega
    have hz : x.length ≤ 100000 := by have := hn.hi; show x.cps.size ≤ 100000; omega
    refine ⟨_, (pss_cons (ps_if (PW.pt (pw_or (pt_not (pt_val (pe_callB call_isi rfl (n_isinstance W) boot_isinstance (pa_cons (pv 0) (pa_cons (pe_tyN rfl (n_str W) boot_str) pa_nil))))) (pw_or1 (pt_not (pt_chain op_le op_le pe_int (pe_callB call_len_str rfl (n_len W) boot_len (pa_cons (pv 0) pa_nil)) (pe_glob (v := .int (8)) rfl (g_LONGEST W) ⟨_, rfl⟩)))))) (pss_one (ps_ret pe_bl)) pss_nil)
    (pss_one (ps_ret (pe_and (pe_cmpR op_in_sign (pe_ix ix_str (pv 0) pe_int (fun _ _ => rfl)) (pe_glob (v := .str "abcdefghijklmnopqrstuvwxyz") rfl (g_LETTERS W) ⟨_, rfl⟩) rfl) (pe_one (pe_callB (cr_all rfl) rfl (n_all W) boot_all (pa_cons (pe_lc (own := [("sign", 1)]) (g := gName 1) (tt := tYes) rfl sc_is_name.nd (pi_str (pv 0)) (blkOk_by (own := [("sign", 1)]) (N := ["value", "sign"]) (sc := defScope s_is_name) (by decide +kernel)) (fun _ _ _ _ _ => (pg_name (i := 1) sc_is_name.nd rfl (Or.inl rfl))) (fun _ _ _ _ _ => pts_nil) (fun _ _ _ _ _ => (pe_cmpR op_in_sign (pv 1) (pe_glob (v := .str "abcdefghijklmnopqrstuvwxyz0123456789") rfl (g_SIGNS W) ⟨_, rfl⟩) rfl))) pa_nil))))))), ?_⟩
    refine q_when (b := false) (et_is (et_or (et_not (et_B (ev_isS (ed_var rfl (.str x))))) fun _ => et_not (et_test (ev_chainI ev_c (ev_lenS (ev_var rfl) hz) ev_c))) ?_) (fun z => by cases z) fun _ H1 e1 => ?_
    · rw [show decide ((1 : Int) ≤ (x.length : Int)) = true from decide_eq_true h1, show decide ((x.length : Int) ≤ 8) = true from decide_eq_true h8] <;> rfl
    · obtain ⟨c, hc⟩ : ∃ c, x.cps.toList[0]? = some c := by
        have : 0 < x.cps.toList.length := by have := hn.lo; rw [Array.length_toList]; omega
        exact ⟨_, List.getElem?_eq_getElem this⟩
      refine s_retD (ed_to (ed_bool (ev_andV (b := true) (ev_inSign (c := c) (ev_op (ev_var rfl) (ev_c (v := .int 0)) (rv_ixS hz (atI_nat (j := 0) hc))) ev_c) fun _ => ev_allS (ev_var rfl) (by have := hn.hi; omega) (fun _ => rfl) fun i c' H2 e2 hc' => ?_)) ?_) fun v H2 e2 => k v H2 (e1.trans e2)
      · have hm := hn.az c' (by rw [← Array.getElem?_toList] at hc'; exact List.mem_of_getElem? hc')
        refine ed_to (ed_bool (ev_inSign (ev_var rfl) ev_c)) ?_
        rw [decide_eq_true (sign_of hm)]
      · rw [Bool.and_true, decide_eq_true (lett_of (hn.az c (List.mem_of_getElem? hc)))]
end
end K76
set_option maxHeartbeats 4000000
namespace Ed
open PySem L2 Evl
section
variable {K : PySem.W.Frag} {σ : L2.St} {H : Hp} {te : TE} {v : V}
theorem ev_isN (h : Ev te σ H v) : Ev (tIsN te) σ H (.bl (decide (v = .non))) := fun H1 e Q q => h H1 e _ fun H2 e2 => q H2 e2
theorem ev_notN (h : Ev te σ H v) : Ev (tNotN te) σ H (.bl (!decide (v = .non))) := fun H1 e Q q => h H1 e _ fun H2 e2 => q H2 e2
/-- data in a slot -/
theorem dp_nn {H : Hp} {v : V} {d : PyData} (h : Dp K H v d) (hd : d ≠ .none) : v ≠ .non := fun z => by
  subst z
  cases h
  exact hd rfl
end
end Ed
namespace K76
open PySem PySem.W PySem.Calls PyProof.Rows L2 Evl Ed
theorem dpa6 {K : PySem.W.Frag} {H : Hp} {vs : List V} {d1 d2 d3 d4 d5 d6 : PyData} (h : DpAll K H vs [d1, d2, d3, d4, d5, d6]) : ∃ v1 v2 v3 v4 v5 v6, vs = [v1, v2, v3, v4, v5, v6] ∧ Dp K H v1 d1 ∧ Dp K H v2 d2 ∧ Dp K H v3 d3 ∧ Dp K H v4 d4 ∧ Dp K H v5 d5 ∧ Dp K H v6 d6 := by
  cases h with
  | cons a t => cases t with
    | cons b t => cases t with
      | cons c t =>
        obtain ⟨u, z, y, rfl, hu, hz, hy⟩ := dpa3 t
        exact ⟨_, _, _, u, z, y, rfl, a, b, c, hu, hz, hy⟩
section
variable {w : World} {mg : Str → Option Value} {base : Heap}
/-! ### is_kind -/
theorem sc_is_kind : FnScope ["value"] ["value"] (defScope s_is_kind) := ⟨rfl, rfl, rfl, by decide +kernel, rfl, by decide +kernel, by decide +kernel⟩
def m_is_kind : List PyData → PyData → Prop := fun ds d => ∃ k : Str × Int, ds = [kD k] ∧ Nm k.1 ∧ (1 ≤ k.2 ∧ k.2 ≤ 3) ∧ d = .bool true
theorem ok_is_kind (W : Wd w.params mg) : Ok w mg base CX0 3 a_is_kind fd_is_kind ["value"] (spM (Kw w) m_is_kind) := by
  refine (F_is_kind w.params).ok sc_is_kind (fun vs H Q E h => ?_) (fun cdv A outer s H vs Q E hr h => ?_)
  · obtain ⟨ds, d, hd, ⟨x, rfl, _, _, rfl⟩, _⟩ := h
    exact hd.len
  · obtain ⟨ds, d, hd, ⟨x, rfl, hn, hg, rfl⟩, k⟩ := h
    obtain ⟨v, rfl, hv⟩ := dpa1 hd
    refine ⟨_, (pss_one (ps_ret (pe_and (pe_call (ok_is_row W) (hr.mono (by decide)) rfl (g_is_row W) (F_is_row _).kp (b_is_row _) .nil pass0 (pa_cons (pv 0) (pa_cons pe_int pa_nil))) (pe_and (pe_call (ok_is_name W) (hr.mono (by decide)) rfl (g_is_name W) (F_is_name _).kp (b_is_name _) .nil pass0 (pa_cons (pe_ix ix_tup (pv 0) pe_int (fun _ _ => rfl)) pa_nil)) (pe_one (pe_call (ok_is_number W) (hr.mono (by decide)) rfl (g_is_number W) (F_is_number _).kp (b_is_number _) .nil pass0 (pa_cons (pe_ix ix_tup (pv 0) pe_int (fun _ _ => rfl)) (pa_cons pe_int (pa_cons (pe_glob (v := .int (3)) rfl (g_MOST_GATES W) ⟨_, rfl⟩) pa_nil))))))))), ?_⟩
    refine s_retD (ed_to (ed_bool (ev_andV (a := true) (b := true) (ev_bool (ed_call (ea_consD (ed_var rfl hv) (ea_consD (ed_int ev_c) ea_nilD)) ⟨_, _, rfl, rfl⟩)) fun _ => ev_andV (a := true) (b := true)
      (ev_bool (ed_call (ea_consD (ed_ixTD (i := 0) (ed_var rfl hv) (fun _ _ => ev_c) rfl) ea_nilD) ⟨_, rfl, hn, rfl⟩)) fun _ => ?_)) rfl) k
    refine ev_is (ev_bool (ed_call (ea_consD (ed_ixTD (i := 1) (ed_var rfl hv) (fun _ _ => ev_c) rfl) (ea_consD (ed_int ev_c) (ea_consD (ed_int ev_c) ea_nilD))) ⟨_, _, _, rfl, rfl⟩)) ?_
    show V.bl (decide (1 ≤ x.2) && decide (x.2 ≤ 3)) = _
    rw [decide_eq_true hg.1, decide_eq_true hg.2] <;> rfl
/-! ### is_link -/
theorem sc_is_link : FnScope ["pages", "value"] ["pages", "value"] (defScope s_is_link) := ⟨rfl, rfl, rfl, by decide +kernel, rfl, by decide +kernel, by decide +kernel⟩
def m_is_link : List PyData → PyData → Prop := fun ds d => ∃ p l, ds = [.int p, lD l] ∧ OkL p l ∧ d = .bool true
theorem ok_is_link (W : Wd w.params mg) : Ok w mg base CX0 3 a_is_link fd_is_link ["pages", "value"] (spM (Kw w) m_is_link) := by
  refine (F_is_link w.params).ok sc_is_link (fun vs H Q E h => ?_) (fun cdv A outer s H vs Q E hr h => ?_)
  · obtain ⟨ds, d, hd, ⟨x, l, rfl, _, rfl⟩, _⟩ := h
    exact hd.len
  · obtain ⟨ds, d, hd, ⟨p, l, rfl, ⟨ha, hb, hn⟩, rfl⟩, k⟩ := h
    obtain ⟨u, v, rfl, hu, hv⟩ := dpa2 hd
    obtain rfl := dp_int hu
    refine ⟨_, (pss_cons (ps_if (PW.pt (pw_or (pt_not (pt_val (pe_call (ok_is_row W) (hr.mono (by decide)) rfl (g_is_row W) (F_is_row _).kp (b_is_row _) .nil pass0 (pa_cons (pv 1) (pa_cons pe_int pa_nil))))) (pw_or1 (pt_not (pt_val (pe_call (ok_is_number W) (hr.mono (by decide)) rfl (g_is_number W) (F_is_number _).kp (b_is_number _) .nil pass0 (pa_cons (pe_ix ix_tup (pv 1) pe_int (fun _ _ => rfl)) (pa_cons pe_int (pa_cons (pe_op op_sub (pv 0) pe_int) pa_nil))))))))) (pss_one (ps_ret pe_bl)) pss_nil)
    (pss_one (ps_ret (pe_and (pe_call (ok_is_number W) (hr.mono (by decide)) rfl (g_is_number W) (F_is_number _).kp (b_is_number _) .nil pass0 (pa_cons (pe_ix ix_tup (pv 1) pe_int (fun _ _ => rfl)) (pa_cons pe_int (pa_cons (pe_op op_sub (pv 0) pe_int) pa_nil)))) (pe_one (pe_call (ok_is_name W) (hr.mono (by decide)) rfl (g_is_name W) (F_is_name _).kp (b_is_name _) .nil pass0 (pa_cons (pe_ix ix_tup (pv 1) pe_int (fun _ _ => rfl)) pa_nil))))))), ?_⟩
    refine q_when (b := false) (et_is (et_or (et_not (et_B (ev_bool (ed_call (ea_consD (ed_var rfl hv) (ea_consD (ed_int ev_c) ea_nilD)) ⟨_, _, rfl, rfl⟩)))) fun _ => et_not (et_B (ev_bool (ed_call
      (ea_consD (ed_ixTD (i := 0) (ed_var rfl hv) (fun _ _ => ev_c) rfl) (ea_consD (ed_int ev_c) (ea_consD (ed_int (ev_op (ev_var rfl) ev_c rv_I0)) ea_nilD))) ⟨_, _, _, rfl, rfl⟩)))) ?_) (fun z => by cases z) fun _ H1 e1 => ?_
    · show (false || !(decide (0 ≤ l.a) && decide (l.a ≤ p - 1))) = false
      rw [decide_eq_true ha.1, decide_eq_true (by omega : l.a ≤ p - 1)] <;> rfl
    · have hv := hv.ex e1
      refine s_retD (ed_to (ed_bool (ev_andV (b := true) (ev_bool (ed_call
        (ea_consD (ed_ixTD (i := 1) (ed_var rfl hv) (fun _ _ => ev_c) rfl) (ea_consD (ed_int ev_c) (ea_consD (ed_int (ev_op (ev_var rfl) ev_c rv_I0)) ea_nilD))) ⟨_, _, _, rfl, rfl⟩)) fun _ =>
        (ev_bool (ed_call (ea_consD (ed_ixTD (i := 2) (ed_var rfl hv) (fun _ _ => ev_c) rfl) ea_nilD) ⟨_, rfl, hn, rfl⟩)))) ?_) fun v H2 e2 => k v H2 (e1.trans e2)
      show PyData.bool ((decide (0 ≤ l.b) && decide (l.b ≤ p - 1)) && true) = _
      rw [decide_eq_true hb.1, decide_eq_true (by omega : l.b ≤ p - 1)] <;> rfl
/-! ### is_mark -/
theorem sc_is_mark : FnScope ["gates", "pages", "value"] ["gates", "pages", "value"] (defScope s_is_mark) := ⟨rfl, rfl, rfl, by decide +kernel, rfl, by decide +kernel, by decide +kernel⟩
def m_is_mark : List PyData → PyData → Prop := fun ds d => ∃ g p l, ds = [.int g, .int p, mD l] ∧ OkM g p l ∧ d = .bool true
theorem ok_is_mark (W : Wd w.params mg) : Ok w mg base CX0 3 a_is_mark fd_is_mark ["gates", "pages", "value"] (spM (Kw w) m_is_mark) := by
  refine (F_is_mark w.params).ok sc_is_mark (fun vs H Q E h => ?_) (fun cdv A outer s H vs Q E hr h => ?_)
  · obtain ⟨ds, d, hd, ⟨_, x, l, rfl, _, rfl⟩, _⟩ := h
    exact hd.len
  · obtain ⟨ds, d, hd, ⟨g, p, l, rfl, ⟨ha, hn⟩, rfl⟩, k⟩ := h
    obtain ⟨t, u, v, rfl, ht, hu, hv⟩ := dpa3 hd
    obtain rfl := dp_int ht
    obtain rfl := dp_int hu
    refine ⟨_, (pss_one (ps_ret (pe_and (pe_call (ok_is_row W) (hr.mono (by decide)) rfl (g_is_row W) (F_is_row _).kp (b_is_row _) .nil pass0 (pa_cons (pv 2) (pa_cons pe_int pa_nil))) (pe_and (pe_call (ok_is_number W) (hr.mono (by decide)) rfl (g_is_number W) (F_is_number _).kp (b_is_number _) .nil pass0 (pa_cons (pe_ix ix_tup (pv 2) pe_int (fun _ _ => rfl)) (pa_cons (pv 0) (pa_cons (pe_op op_sub (pv 1) pe_int) pa_nil)))) (pe_one (pe_call (ok_is_name W) (hr.mono (by decide)) rfl (g_is_name W) (F_is_name _).kp (b_is_name _) .nil pass0 (pa_cons (pe_ix ix_tup (pv 2) pe_int (fun _ _ => rfl)) pa_nil))))))), ?_⟩
    refine s_retD (ed_to (ed_bool (ev_andV (a := true) (b := true) (ev_bool (ed_call (ea_consD (ed_var rfl hv) (ea_consD (ed_int ev_c) ea_nilD)) ⟨_, _, rfl, rfl⟩)) fun _ => ev_andV (a := true) (b := true)
      (ev_is (ev_bool (ed_call (ea_consD (ed_ixTD (i := 0) (ed_var rfl hv) (fun _ _ => ev_c) rfl) (ea_consD (ed_int (ev_var rfl)) (ea_consD (ed_int (ev_op (ev_var rfl) ev_c rv_I0)) ea_nilD))) ⟨_, _, _, rfl, rfl⟩)) ?_) fun _ =>
      (ev_bool (ed_call (ea_consD (ed_ixTD (i := 1) (ed_var rfl hv) (fun _ _ => ev_c) rfl) ea_nilD) ⟨_, rfl, hn, rfl⟩)))) rfl) k
    show V.bl (decide (g ≤ l.p) && decide (l.p ≤ p - 1)) = _
    rw [decide_eq_true ha.1, decide_eq_true (by omega : l.p ≤ p - 1)] <;> rfl
/-! ### gates_of -/
theorem sc_gates_of : FnScope ["kinds", "value", "name", "gates"] ["kinds", "value"] (defScope s_gates_of) := ⟨rfl, rfl, rfl, by decide +kernel, rfl, by decide +kernel, by decide +kernel⟩
def gatD : Option Int → PyData
  | some g => .int g
  | none => .none
theorem gatesOf_yes {k : Str × Int} {ks : List (Str × Int)} {x : Str} (h : decide (x = k.1) = true) : gatesOf (k :: ks) x = some k.2 := by
  unfold gatesOf
  rw [List.find?_cons, h] <;> rfl
theorem gatesOf_no {k : Str × Int} {ks : List (Str × Int)} {x : Str} (h : decide (x = k.1) = false) : gatesOf (k :: ks) x = gatesOf ks x := by
  unfold gatesOf
  rw [List.find?_cons, h] <;> rfl
def m_gates_of : List PyData → PyData → Prop := fun ds d => ∃ ks x, ds = [ksD ks, .str x] ∧ d = gatD (gatesOf ks x)
theorem ok_gates_of (W : Wd w.params mg) : Ok w mg base CX0 1 a_gates_of fd_gates_of ["kinds", "value"] (spM (Kw w) m_gates_of) := by
  refine (F_gates_of w.params).ok sc_gates_of (fun vs H Q E h => ?_) (fun cdv A outer s H vs Q E hr h => ?_)
  · obtain ⟨ds, d, hd, ⟨ks, x, rfl, rfl⟩, _⟩ := h
    exact hd.len
  · obtain ⟨ds, d, hd, ⟨ks, x, rfl, rfl⟩, k⟩ := h
    obtain ⟨v, u, rfl, hv, hu⟩ := dpa2 hd
    obtain rfl := dp_str hu
    obtain ⟨a, xs, rfl, hs, hx⟩ := dp_tup hv
    refine ⟨_, (pss_cons (ps_for PassesOwn.never rfl (pi_tup (pv 0)) (pg_tup rfl (pgs_cons (pg_name (i := 2) sc_gates_of.nd rfl (Or.inl rfl)) (pgs_cons (pg_name (i := 3) sc_gates_of.nd rfl (Or.inl rfl)) pgs_nil)))
    (pss_one (ps_if (PW.pt (pw_and (pt_val (pe_callB call_isi rfl (n_isinstance W) boot_isinstance (pa_cons (pv 1) (pa_cons (pe_tyN rfl (n_str W) boot_str) pa_nil)))) (pw_and1 (pt_cmpR op_eq (pv 1) (pv 2) (nomark _))))) (pss_one (ps_ret (pv 3))) pss_nil)))
    (pss_one (ps_ret pe_non))), ?_⟩
    refine q_forT (ev_var rfl) hs (fun i σ' H' => Ex H H' ∧ (∃ p q, σ' = [some (.ref a), some (.str x), p, q]) ∧ gatesOf ks x = gatesOf (ks.drop i) x) (fun H1 e => ⟨e, ⟨_, _, rfl⟩, by rw [List.drop_zero]⟩) (fun i σ' H' _ p => ex_t p.1 hs)
      (fun i y σ' H' hi p => ?_) (fun σ' H' p => ?_)
    · obtain ⟨e1, ⟨p, q, rfl⟩, hg⟩ := p
      obtain ⟨d, hd1, hd2⟩ := hx.getV hi
      rw [List.getElem?_map, Option.map_eq_some_iff] at hd1
      obtain ⟨kk, hk1, rfl⟩ := hd1
      have hd3 := hd2.ex e1
      obtain ⟨b, ys, rfl, hs2, hy⟩ := dp_tup hd3
      obtain ⟨n, g, rfl, hn, hgg⟩ := dpa2 hy
      obtain rfl := dp_str hn
      obtain rfl := dp_int hgg
      refine ⟨b, _, rfl, hs2, rfl, _, _, rfl, _, _, rfl, rfl, ?_⟩
      have hdr : ks.drop i = kk :: ks.drop (i + 1) := by
        obtain ⟨hlt, e⟩ := List.getElem?_eq_some_iff.mp hk1
        rw [← e]
        exact List.drop_eq_getElem_cons hlt
      rw [hdr] at hg
      refine s_when (b := decide (x = kk.1)) (et_is (et_and (et_B (ev_isS (ed_var rfl (.str x)))) fun _ => et_test (ev_op (ev_var rfl) (ev_var rfl) (rv_eq rfl))) ?_) (fun hb H1 e2 => ?_) (fun hb H1 e2 => ?_)
      · show (true && decide (V.str x = V.str kk.1)) = _
        simp
      · refine s_ret (v := .int kk.2) (ev_var rfl) fun H2 e3 => k _ H2 ((e1.trans e2).trans e3) ?_
        rw [hg, gatesOf_yes hb]
        exact .int kk.2
      · refine ⟨e1.trans e2, ⟨_, _, rfl⟩, ?_⟩
        rw [hg, gatesOf_no hb]
    · obtain ⟨e1, ⟨p, q, rfl⟩, hg⟩ := p
      refine s_ret (v := .non) ev_c fun H2 e3 => k _ H2 (e1.trans e3) ?_
      rw [hg, show xs.length = ks.length by rw [hx.len, List.length_map], List.drop_length]
      exact .non
end
end K76
set_option maxHeartbeats 4000000
/-! SetM: set(t) and its length, t a tuple of at most four unlike tuples of ints and texts. -/
namespace L2
open PySem PySem.Spec PyProof.Rows
/-- the tuple at b has the ints and texts k -/
abbrev IsM (P : Program) (w : World) (h : Heap) (k : List Key) (b : Addr) : Prop := IsTupleKey (mixKind P w) h k b
abbrev mh (P : Program) (w : World) (k : List Key) : Int := tupleKeyHash (mixKind P w) k
section
variable {P : Program} {w : World} {A : Around} {E : Value → Shared → Prop} {s : Shared}
def Leaf (v : Value) : Prop := (∃ i t, v = .int i t) ∨ ∃ x t, v = .str x t
theorem leaves {k : List Key} {vs : List Value} (h : ItemsAre (mixKind P w) k vs) : ∀ v ∈ vs, Leaf v := by
  induction h with
  | nil => exact fun v hv => by cases hv
  | cons h1 _ ih =>
    intro v hv
    rcases List.mem_cons.mp hv with rfl | hv
    · rcases keyIs_shape h1 with ⟨i, t, _, e⟩ | ⟨x, t, _, e⟩
      · exact .inl ⟨i, t, e⟩
      · exact .inr ⟨x, t, e⟩
    · exact ih v hv
theorem leaf_class (n : Nat) {v : Value} (h : Leaf v) : ofAClassStatement n v = pure false := by
  rcases h with ⟨i, t, rfl⟩ | ⟨x, t, rfl⟩ <;> cases n <;> rfl
theorem int_hash (n : Nat) (i : Int) (t : Tok) : hashByValue n (.int i t) = pure true := by
  cases n <;> rfl
theorem str_hash (n : Nat) (x : Str) (t : Tok) : hashByValue n (.str x t) = pure false := by
  cases n <;> rfl
theorem class_m {k : List Key} {b : Addr} {Q : Bool → Shared → Prop} (hk : IsM P w s.heap k b) (h : Q false s) : wpAny (model P w) A (ofAClassStatement 8 (.ref b)) Q E s := by
  have hT := hk.typeIs
  obtain ⟨o, items, n, ho, _, hd, hi⟩ := hk
  unfold ofAClassStatement
  refine wpAny_bind (wpAny_typeOf hT ?_)
  dsimp only
  have e : (("tuple" : String) == "tuple") = true := by decide
  simp only [e, if_true, Bool.not_true, Bool.false_eq_true, if_false]
  try refine wpAny_bind (wpAny_pure ?_)
  try simp only [Bool.not_true, Bool.false_eq_true, if_false]
  show wpAny _ _ (seqItems? (.ref b) >>= _) _ _ s
  refine wpAny_bind (wpAny_seqItems ho hd ?_)
  dsimp only
  refine wpAny_bind ?_
  show wpAny _ _ (forIn items _ _) _ _ s
  rw [← Array.forIn_toList]
  refine wpAny_forIn_list _ (fun rest r s' => r.1 = none ∧ s' = s ∧ ∀ v ∈ rest, Leaf v) _ ?_ ?_ _ _ ⟨rfl, rfl, leaves hi⟩
  · rintro v rest r s' ⟨hr, rfl, hall⟩
    rw [leaf_class _ (hall v List.mem_cons_self)]
    refine wpAny_bind (wpAny_pure ?_)
    simp only [Bool.false_eq_true, if_false]
    exact wpAny_pure ⟨rfl, rfl, fun u hu => hall u (List.mem_cons_of_mem _ hu)⟩
  · rintro ⟨r1, r2⟩ s' ⟨hr, rfl, _⟩
    cases hr
    exact wpAny_pure h
theorem hash_m {k : List Key} {b : Addr} {Q : Bool → Shared → Prop} (hk : IsM P w s.heap k b) (h : ∀ c, Q c s) : wpAny (model P w) A (hashByValue 8 (.ref b)) Q E s := by
  have hT := hk.typeIs
  obtain ⟨o, items, n, ho, _, hd, hi⟩ := hk
  unfold hashByValue
  refine wpAny_bind (wpAny_specialOf hT F.slot_tuple_hash.lookup ?_)
  show wpAny _ _ (seqItems? (.ref b) >>= _) _ _ s
  refine wpAny_bind (wpAny_seqItems ho hd ?_)
  refine wpAny_bind ?_
  show wpAny _ _ (forIn items _ _) _ _ s
  rw [← Array.forIn_toList]
  refine wpAny_forIn_list _ (fun rest r s' => r.1 = none ∧ s' = s ∧ ∀ v ∈ rest, Leaf v) _ ?_ ?_ _ _ ⟨rfl, rfl, leaves hi⟩
  · rintro v rest r s' ⟨hr, rfl, hall⟩
    rcases hall v List.mem_cons_self with ⟨i, t, rfl⟩ | ⟨x, t, rfl⟩
    · rw [int_hash]
      refine wpAny_bind (wpAny_pure ?_)
      simp only [Bool.not_true, Bool.false_eq_true, if_false]
      exact wpAny_pure ⟨rfl, rfl, fun u hu => hall u (List.mem_cons_of_mem _ hu)⟩
    · rw [str_hash]
      refine wpAny_bind (wpAny_pure ?_)
      simp only [Bool.not_false, if_true]
      exact wpAny_pure (wpAny_pure (h false))
  · rintro ⟨r1, r2⟩ s' ⟨hr, rfl, _⟩
    cases hr
    exact wpAny_pure (h true)
theorem seen_m {k : List Key} {b : Addr} {Q : Bool → Shared → Prop} (hk : IsM P w s.heap k b) {ys : List Value} (hy : ∀ y ∈ ys, ∃ k' c, y = Value.ref c ∧ IsM P w s.heap k' c) (h : Q false s) :
    wpAny (model P w) A (searchCouldBeSeen (.ref b) ys) Q E s := by
  unfold searchCouldBeSeen
  refine wpAny_bind ?_
  refine wpAny_forIn_list _ (fun rest r s' => r.1 = none ∧ s' = s ∧ ∀ y ∈ rest, ∃ k' c, y = Value.ref c ∧ IsM P w s.heap k' c) _ ?_ ?_ _ _ ⟨rfl, rfl, hy⟩
  · rintro v rest r s' ⟨hr, rfl, hall⟩
    obtain ⟨k', c, rfl, hc⟩ := hall v List.mem_cons_self
    have more : ∀ y ∈ rest, ∃ k' c, y = Value.ref c ∧ IsM P w s'.heap k' c := fun u hu => hall u (List.mem_cons_of_mem _ hu)
    dsimp only
    by_cases hv : (b == c || (carriedByValue (.ref b) && carriedByValue (.ref c))) = true
    · exact wp_if_pos hv (wpAny_pure ⟨rfl, rfl, more⟩)
    · refine wp_if_neg hv ?_
      refine wpAny_bind (wpAny_eqIsQuiet_tuple hk ?_)
      simp only [Bool.not_true, Bool.false_eq_true, if_false]
      refine wpAny_bind (wpAny_eqIsQuiet_tuple hc ?_)
      simp only [Bool.not_true, Bool.false_eq_true, if_false]
      refine wpAny_bind (class_m hk ?_)
      simp only [Bool.false_eq_true, if_false]
      refine wpAny_bind (class_m hc ?_)
      simp only [Bool.false_eq_true, if_false]
      exact wpAny_pure ⟨rfl, rfl, more⟩
  · rintro ⟨r1, r2⟩ s' ⟨hr, rfl, _⟩
    cases hr
    exact wpAny_pure h
/-! ### the set -/
def rowsM (P : Program) (w : World) (L : List (Addr × List Key)) : List (Int × Value) := L.map fun p => (mh P w p.2, Value.ref p.1)
structure SetMR (P : Program) (w : World) (h : Heap) (a : Addr) (L : List (Addr × List Key)) (es : Array (Int × Value)) (ep : Nat) (t : SetTable) : Prop where
  ob : ∃ o, h.get? a = some o ∧ o.ExactSet ∧ o.data = .set es ep t
  rows : es.toList = rowsM P w L
  tab : TabOk t (L.map fun p => mh P w p.2)
  tup : ∀ p ∈ L, IsM P w h p.2 p.1
  led : w.params.followText "set-order" = true ∨ t.led = true
  seven : t.mask = 7
  few : L.length ≤ 4
variable {a : Addr} {L : List (Addr × List Key)} {es : Array (Int × Value)} {ep : Nat} {t : SetTable}
theorem SetMR.size (R : SetMR P w s.heap a L es ep t) : es.size = L.length := by
  have h := congrArg List.length R.rows
  unfold rowsM at h
  rw [Array.length_toList, List.length_map] at h
  exact h
theorem SetMR.places (R : SetMR P w s.heap a L es ep t) : t.place.size = L.length := by
  have h := R.tab.sz
  rw [List.length_map] at h
  exact h
theorem SetMR.fits (R : SetMR P w s.heap a L es ep t) : t.fits es.size = true := by
  have h1 := R.places
  have h2 := R.size
  have h3 := R.few
  have h4 := R.seven
  unfold SetTable.fits SetTable.fill
  rw [R.tab.dm, Bool.and_eq_true, beq_iff_eq, decide_eq_true_eq]
  show t.place.size = es.size ∧ t.place.size + 0 ≤ t.mask
  omega
theorem SetMR.entry (R : SetMR P w s.heap a L es ep t) {i : Nat} {p : Addr × List Key} (h : L[i]? = some p) : es[i]? = some (mh P w p.2, Value.ref p.1) := by
  rw [← Array.getElem?_toList, R.rows]
  unfold rowsM
  rw [List.getElem?_map, h] <;> rfl
theorem SetMR.gw (R : SetMR P w s.heap a L es ep t) : ¬ t.gaveWay = true := by
  unfold SetTable.gaveWay
  rw [R.seven]
  decide
theorem no_dummy (m : Nat) : ∀ (n : Nat) (p : SetTable.Probe), p.dummy = none → (nth m p n).dummy = none
  | 0, _, h => h
  | n + 1, p, h => no_dummy m n (adv m p) (by
    unfold adv
    split <;> exact h)
/-- the search for a tuple that is not there, from step c on -/
theorem search_new (R : SetMR P w s.heap a L es ep t) {x : Addr} {k : List Key} (hx : IsM P w s.heap k x) (hnew : k ∉ L.map (·.2)) (hu : A.units < cLine) {K : Nat} (hKf : K < 10 * SetTable.turns t.mask)
    (hK : way t.mask (mh P w k) K ∉ t.place.toList) (hKb : ∀ c, c < K → way t.mask (mh P w k) c ∈ t.place.toList) {Q : SetFound → Shared → Prop} (hout : Q (.free (way t.mask (mh P w k) K) false) s) :
    ∀ (f c : Nat) (stand : Option SetTable.Probe), stand.getD (t.probeStart (mh P w k)) = nth t.mask (runAt t.mask (SetTable.bits (mh P w k) % (t.mask + 1)) (SetTable.bits (mh P w k))) c → c ≤ K → K - c < f →
      wpAny (model P w) A (setSearchFrom a (.ref x) (mh P w k) true f stand) Q E s := by
  intro f
  induction f with
  | zero => exact fun c stand _ _ hf => absurd hf (Nat.not_lt_zero _)
  | succ f ih =>
    intro c stand hst hc hf
    obtain ⟨o, ho, hex, hd⟩ := R.ob
    rw [setSearchFrom_succ]
    refine wpAny_bind (wpAny_setState_of ho hd R.fits ?_)
    dsimp only
    refine wp_if_neg R.gw ?_
    try refine wpAny_bind (wpAny_pure ?_)
    obtain ⟨p0, hp0⟩ : ∃ p0, p0 = runAt t.mask (SetTable.bits (mh P w k) % (t.mask + 1)) (SetTable.bits (mh P w k)) := ⟨_, rfl⟩
    rw [← hp0] at hst
    have shift : ∀ q, nth t.mask (nth t.mask p0 c) q = nth t.mask p0 (c + q) := fun q => (nth_add t.mask c p0 q).symm
    have wayq : ∀ q, (nth t.mask (nth t.mask p0 c) q).j = way t.mask (mh P w k) (c + q) := fun q => by rw [shift, hp0] <;> rfl
    have spec := go_spec t R.tab.ris R.tab.dm (fun i => (es[i]?.map (·.1)).getD 0) (mh P w k) (10 * SetTable.turns t.mask) (K - c) (nth t.mask p0 c) (no_dummy _ c p0 (by rw [hp0] <;> rfl)) (by omega)
      (fun q hq => by rw [wayq]; exact hKb (c + q) (by omega)) (by rw [wayq, show c + (K - c) = K by omega]; exact hK)
    rcases spec with ⟨q, i, hq, hi, _, _, hpr⟩ | ⟨_, hpr⟩
    · rw [hst, show t.probe (fun i => (es[i]?.map (·.1)).getD 0) (mh P w k) (nth t.mask p0 c) = _ from hpr]
      dsimp only
      rw [wayq] at hi
      have hil : i < L.length := by
        have h1 : i < t.place.toList.length := (List.getElem?_eq_some_iff.mp hi).1
        rw [Array.length_toList, R.places] at h1
        exact h1
      obtain ⟨p, hp⟩ : ∃ p, L[i]? = some p := ⟨_, List.getElem?_eq_getElem hil⟩
      have hmem : p ∈ L := List.mem_of_getElem? hp
      have hkk : p.2 ≠ k := fun z => hnew (List.mem_map.mpr ⟨p, hmem, z⟩)
      have go : wpAny (model P w) A (searchRest a (.ref x) (mh P w k) true f es t (way t.mask (mh P w k) (c + q)) i (nth t.mask p0 (c + (q + 1)))) Q E s := by
        unfold searchRest
        rw [R.entry hp]
        dsimp only
        refine wpAny_bind (wpAny_holding (wpAny_eqBool_tuple hu (R.tup p hmem) hx ?_))
        refine wpAny_bind (wpAny_setState_of ho hd R.fits ?_)
        dsimp only
        refine wp_if_neg (by simp [hkk]) ?_
        try refine wpAny_bind (wpAny_pure ?_)
        rw [sameMem]
        dsimp only
        simp only [if_true, slot_live R.tab.ris hi, R.entry hp]
        refine wpAny_bind (wpAny_isSame_ref_self (wpAny_bind (wpAny_pure ?_)))
        simp only [if_true]
        refine wp_if_neg (by simp [hkk]) ?_
        exact ih (c + (q + 1)) _ (by rw [hp0] <;> rfl) (by omega) (by omega)
      rw [wayq, shift]
      by_cases hl : t.led = true
      · refine wp_if_neg (by simp [hl]) ?_
        try refine wpAny_bind (wpAny_pure ?_)
        exact go
      · refine wp_if_pos (by simp [hl]) ?_
        refine wpAny_bind (seen_m hx (fun y hy => ?_) ?_)
        · obtain ⟨e, he, ee⟩ := List.mem_map.mp hy
          have he1 : e ∈ es ∧ e.1 = mh P w k := by simpa using he
          have he2 : e ∈ es.toList := by simpa using he1.1
          rw [R.rows] at he2
          obtain ⟨p2, hp2, e2⟩ := List.mem_map.mp he2
          exact ⟨p2.2, p2.1, by rw [← ee, ← e2], R.tup p2 hp2⟩
        · refine wp_if_neg (by decide) ?_
          try refine wpAny_bind (wpAny_pure ?_)
          exact go
    · rw [hst, show t.probe (fun i => (es[i]?.map (·.1)).getD 0) (mh P w k) (nth t.mask p0 c) = _ from hpr]
      dsimp only
      rw [wayq, show c + (K - c) = K by omega]
      exact wpAny_pure hout
theorem isM_same {h h' : Heap} {k : List Key} {b : Addr} {o : Obj} (hb : IsM P w h k b) (ho : h.get? a = some o) (hd : o.data = .set es ep t) (hs : Heap.SameBut a h h') : IsM P w h' k b := by
  obtain ⟨o', items, n, e, hc, hd', hi⟩ := hb
  refine ⟨o', items, n, (hs.2 b fun z => ?_).trans e, hc, hd', hi⟩
  rw [z, ho] at e
  cases e
  rw [hd] at hd'
  cases hd'
theorem TabOk.unplain {hs : List Int} (T : TabOk t hs) (c : Bool) : TabOk (if c = true then t else { t with plain := false }) hs := by
  cases c
  · exact ⟨T.ris, T.dm, T.sz, T.mok, T.bd, T.reach⟩
  · exact T
/-- a new tuple is added -/
theorem add_new (R : SetMR P w s.heap a L es ep t) {x : Addr} {k : List Key} (hx : IsM P w s.heap k x) (hnew : k ∉ L.map (·.2)) (hu : A.units < cLine) (hfew : L.length + 1 ≤ 4) {Q : Bool → Shared → Prop}
    (hQ : ∀ h' L' es' ep' t', Heap.SameBut a s.heap h' → SetMR P w h' a L' es' ep' t' → L'.Perm ((x, k) :: L) → Q true { s with heap := h' }) : wpAny (model P w) A (setAddHashed a (.ref x) (mh P w k)) Q E s := by
  obtain ⟨o, ho, hex, hd⟩ := R.ob
  have h7 := R.seven
  unfold setAddHashed
  refine wpAny_holding ?_
  rw [show (100000 : Nat) = 99999 + 1 from rfl, setAddHashedIn_succ]
  refine wpAny_bind (wpAny_setState_of ho hd R.fits ?_)
  dsimp only
  refine wp_if_neg (by simp [byScan, Value.scannable]) ?_
  try refine wpAny_bind (wpAny_pure ?_)
  obtain ⟨K, hKf, hK, hKb⟩ := R.tab.first (by rw [List.length_map, h7]; omega) (mh P w k)
  have hsearch : ∀ {Q : SetFound → Shared → Prop}, Q (.free (way t.mask (mh P w k) K) false) s → wpAny (model P w) A (setSearch a (.ref x) (mh P w k) true) Q E s := fun q => by
    unfold setSearch
    have hbig : K < 100000 := by
      have : 10 * SetTable.turns t.mask ≤ 1420 := by
        unfold SetTable.turns
        rw [h7]
        decide
      omega
    exact search_new R hx hnew hu hKf hK hKb q 100000 0 none rfl (Nat.zero_le _) (by omega)
  refine wpAny_bind (hsearch ?_)
  dsimp only
  refine wpAny_bind (wpAny_setState_of ho hd R.fits ?_)
  dsimp only
  obtain ⟨q1, q2, q3, q4, q5, q6, q7, q8, q9⟩ := R.tab.put hK hKb
  generalize hpt : t.put (way t.mask (mh P w k) K) = pt at q1 q3 q4 q5 q6 q7 q8 q9 ⊢
  obtain ⟨t1, pp⟩ := pt
  dsimp only at q1 q3 q4 q5 q6 q7 q8 q9 ⊢
  subst q1
  have fin : ∀ c : Bool, wpAny (model P w) A (do
      storeSet a (SetTable.insertAt es (SetTable.below t.place (way t.mask (mh P w k) K)) (mh P w k, Value.ref x)) (if c = true then t1 else { t1 with plain := false })
      if (!false && (if c = true then t1 else { t1 with plain := false }).tooFull) = true then setRelay a (SetTable.grown (es.size + 1))
      return true) Q E s := fun c => by
    have tb := q3.unplain c
    have m2 : (if c = true then t1 else { t1 with plain := false }).mask = 7 := by cases c <;> exact q4.trans h7
    have l2 : (if c = true then t1 else { t1 with plain := false }).led = t.led := by cases c <;> exact q5
    have f2 : (if c = true then t1 else { t1 with plain := false }).fill = L.length + 1 := by
      rw [List.length_map] at q9
      cases c <;> exact q9
    generalize (if c = true then t1 else { t1 with plain := false }) = t2 at tb m2 l2 f2 ⊢
    have hin : (SetTable.insertAt es (SetTable.below t.place (way t.mask (mh P w k) K)) (mh P w k, Value.ref x)).toList = rowsM P w (L.take (SetTable.below t.place (way t.mask (mh P w k) K)) ++ (x, k) :: L.drop (SetTable.below t.place (way t.mask (mh P w k) K))) := by
      rw [SetTable.toList_insertAt, R.rows]
      unfold rowsM
      rw [List.map_append, List.map_cons, List.map_take, List.map_drop]
    generalize SetTable.below t.place (way t.mask (mh P w k) K) = n0 at q2 tb hin ⊢
    have pm := put_perm L n0 (x, k)
    have hlen : (L.take n0 ++ (x, k) :: L.drop n0).length = L.length + 1 := pm.length_eq
    have hhs : (L.take n0 ++ (x, k) :: L.drop n0).map (fun p => mh P w p.2) = (L.map fun p => mh P w p.2).take n0 ++ mh P w k :: (L.map fun p => mh P w p.2).drop n0 := by
      rw [List.map_append, List.map_cons, List.map_take, List.map_drop]
    rw [← hhs] at tb
    have hes : (SetTable.insertAt es n0 (mh P w k, Value.ref x)).size = L.length + 1 := by
      have h := congrArg List.length hin
      unfold rowsM at h
      rw [Array.length_toList, List.length_map, hlen] at h
      exact h
    generalize SetTable.insertAt es n0 (mh P w k, Value.ref x) = es1 at hin hes ⊢
    generalize L.take n0 ++ (x, k) :: L.drop n0 = L1 at pm hlen tb hin
    refine wpAny_bind (wpAny_storeSet_of ho hd ?_ (by rw [hes, sizeLine_eq]; omega))
    have sb : Heap.SameBut a s.heap (s.heap.update a (Obj.putSet es1 t2)) := Heap.SameBut.update ..
    have ho1 := store_at (es' := es1) (t' := t2) ho hd
    generalize s.heap.update a (Obj.putSet es1 t2) = h1 at sb ho1 ⊢
    have nf : ¬ (!false && t2.tooFull) = true := by
      unfold SetTable.tooFull
      rw [f2, m2]
      simp
      omega
    first
      | refine wp_if_neg nf ?_
      | (refine wpAny_bind ?_; refine wp_if_neg nf ?_; refine wpAny_pure ?_)
    refine wpAny_pure (hQ h1 L1 es1 (ep + 1) t2 sb ⟨⟨_, ho1, ⟨hex.1, hex.2.1, hex.2.2⟩, rfl⟩, hin, tb, fun p hp => ?_, by rw [l2]; exact R.led, m2, by rw [hlen]; exact hfew⟩ pm)
    rcases List.mem_cons.mp (pm.mem_iff.mp hp) with rfl | hp
    · exact isM_same hx ho hd sb
    · exact isM_same (R.tup p hp) ho hd sb
  by_cases hp : t1.plain = true
  · first
      | (refine wpAny_bind ?_; refine wp_if_pos hp ?_; refine hash_m hx fun c => ?_)
      | refine wp_if_pos hp (wpAny_bind (hash_m hx fun c => ?_))
    exact fin c
  · first
      | (refine wpAny_bind ?_; refine wp_if_neg hp ?_; refine wpAny_pure ?_)
      | refine wp_if_neg hp (wpAny_bind (wpAny_pure ?_))
    exact fin true
/-! ### set(t) -/
theorem isM_keep {h h' : Heap} {k : List Key} {b : Addr} (x : IsM P w h k b) (hk : ∀ c o, h.get? c = some o → h'.get? c = some o) : IsM P w h' k b := by
  obtain ⟨o, items, n, ho, r⟩ := x
  exact ⟨o, items, n, hk b o ho, r⟩
theorem SetMR.keep {h h' : Heap} (R : SetMR P w h a L es ep t) (ha : ∀ o, h.get? a = some o → h'.get? a = some o) (ht : ∀ p ∈ L, IsM P w h' p.2 p.1) : SetMR P w h' a L es ep t := by
  obtain ⟨o, ho, r⟩ := R.ob
  exact ⟨⟨o, ha o ho, r⟩, R.rows, R.tab, ht, R.led, R.seven, R.few⟩
theorem setMR_fresh {h : Heap} (ho : h.get? a = some { cls := .type "set", dict := none, data := .set #[] 0 (.fresh 0 0 (!w.params.followText "set-order")) }) : SetMR P w h a [] #[] 0 (.fresh 0 0 (!w.params.followText "set-order")) where
  ob := ⟨_, ho, ⟨rfl, rfl, rfl⟩, rfl⟩
  rows := rfl
  tab := ⟨List.Pairwise.nil, rfl, rfl, .inl rfl, fun x hx => (by cases hx), fun i h j hi => (by simp at hi)⟩
  tup := fun p hp => (by cases hp)
  led := by
    show _ ∨ (!w.params.followText "set-order") = true
    cases w.params.followText "set-order"
    · exact .inr rfl
    · exact .inl rfl
  seven := rfl
  few := by
    show 0 ≤ 4
    decide
/-- set.update's loop over unlike tuples -/
theorem update_m {I : Addr} {fp wr : List Addr} {G : Array GenState → Array GenState → Prop} {n : Nat} {Pv : Nat → Value → Prop} {St : Nat → Shared → Prop} {R : Result → Shared → Prop}
    (W : WalksS P w A.in1 I fp wr G n Pv St) (S : Addr) (hSf : S ∉ fp) (ks : List (Addr × List Key)) (hn : n = ks.length) (hfew : ks.length ≤ 4) (hnd : (ks.map (·.2)).Nodup) (hval : ∀ i v, Pv i v → ∃ p, ks[i]? = some p ∧ v = .ref p.1)
    (h0 : Heap) (hk : ∀ p ∈ ks, IsM P w h0 p.2 p.1) (hS0 : h0.get? S = none) (hw0 : ∀ b ∈ wr, h0.get? b = none) (hu : A.in1.units < cLine) :
    ∀ (m i : Nat) (s : Shared), n - i = m → i ≤ n → St i s → (∀ b o, h0.get? b = some o → s.heap.get? b = some o) → (∃ L es ep t, SetMR P w s.heap S L es ep t ∧ L.Perm (ks.take i)) →
      (∀ s' L es ep t, Moved (S :: wr) G s s' → SetMR P w s'.heap S L es ep t → L.Perm ks → (∀ b o, h0.get? b = some o → s'.heap.get? b = some o) → R (.ok (.ret .none)) s') →
      codeAny (model P w) A (.builtin "set.update.loop" ⟨[.ref S, .ref I], []⟩) R s := by
  have hSw : S ∉ wr := fun h => hSf (W.sub _ h)
  have hsub : ∀ b ∈ wr, b ∈ S :: wr := fun b hb => List.mem_cons_of_mem _ hb
  have still : ∀ {s s' : Shared}, Moved wr G s s' → (∀ b o, h0.get? b = some o → s.heap.get? b = some o) → ∀ b o, h0.get? b = some o → s'.heap.get? b = some o := fun hm hkp b o e =>
    hm.heap b o (fun hb => by rw [hw0 b hb] at e; cases e) (hkp b o e)
  intro m
  induction m with
  | zero =>
    intro i s hm' hi hst hkp ⟨L, es, ep, t, hS, g⟩ hR
    obtain rfl : i = n := by omega
    refine codeAny_builtin F.entry_set_update_loop ?_
    rw [Around.under_plainId F.plain_set_update_loop _]
    show wpAny _ A.in1 (pyNext (.ref I) >>= _) _ _ s
    refine wpAny_bind (W.done s _ _ hst fun s' hm => ?_)
    show wpAny _ A.in1 (ret Value.none) _ _ s'
    have hkp' := still hm hkp
    have g' : L.Perm ks := by
      rw [hn, List.take_length] at g
      exact g
    exact wpAny_pure (hR s' L es ep t (hm.mono hsub) (hS.keep (fun o e => hm.heap S o hSw e) fun p hp => isM_keep (hk p (g'.mem_iff.mp hp)) hkp') g' hkp')
  | succ m ih =>
    intro i s hm' hi hst hkp ⟨L, es, ep, t, hS, g⟩ hR
    have hlt : i < n := by omega
    refine codeAny_builtin F.entry_set_update_loop ?_
    rw [Around.under_plainId F.plain_set_update_loop _]
    show wpAny _ A.in1 (pyNext (.ref I) >>= _) _ _ s
    refine wpAny_bind (W.item i s _ _ hlt hst fun v s' hP hst' hm => ?_)
    obtain ⟨p, hp, rfl⟩ := hval i v hP
    have hkp' := still hm hkp
    have hS' : SetMR P w s'.heap S L es ep t := hS.keep (fun o e => hm.heap S o hSw e) fun q hq => isM_keep (hk q (List.mem_of_mem_take (g.mem_iff.mp hq))) hkp'
    have hx : IsM P w s'.heap p.2 p.1 := isM_keep (hk p (List.mem_of_getElem? hp)) hkp'
    have htk : ks.take (i + 1) = ks.take i ++ [p] := take_next hp
    have hnew : p.2 ∉ L.map (·.2) := fun z => by
      have h1 : ((ks.take (i + 1)).map (·.2)).Nodup := hnd.sublist ((List.take_sublist _ _).map _)
      rw [htk, List.map_append, List.nodup_append] at h1
      exact h1.2.2 _ ((g.map (·.2)).mem_iff.mp z) _ (by simp) rfl
    have hll : L.length = i := by
      rw [g.length_eq, List.length_take]
      omega
    show wpAny _ A.in1 (holding [Value.ref p.1] (setAdd S (.ref p.1)) >>= _) _ _ s'
    refine wpAny_bind (wpAny_holding ?_)
    unfold setAdd
    refine wpAny_holding ?_
    refine wpAny_bind (wpAny_pyHash_tuple hu hx ?_)
    refine add_new (s := { s' with toks := s'.toks + (p.2.length + 1) }) hS' hx hnew hu (by omega) fun h' L' es' ep' t' hsb hS2 pm => ?_
    have g' : L'.Perm (ks.take (i + 1)) := by
      rw [htk]
      exact pm.trans ((List.Perm.cons p g).trans (List.perm_append_comm (l₁ := [p]) (l₂ := ks.take i)))
    have hkp2 : ∀ b o, h0.get? b = some o → h'.get? b = some o := fun b o e => (hsb.2 b (fun z => by rw [z, hS0] at e; cases e)).trans (hkp' b o e)
    refine wpAny_pure ⟨plainId_quiet F.plain_set_update_loop _, ih (i + 1) _ (by omega) hlt (W.frame _ s' _ _ hst' (Nat.le_add_right _ _) fun b hb o e => ?_) hkp2 ⟨L', es', ep', t', hS2, g'⟩ fun s'' L2 es2 ep2 t2 hm'' hS'' g'' hkp'' => ?_⟩
    · rw [hsb.2 b (fun h : b = S => hSf (by rw [← h]; exact hb))]; exact e
    · refine hR s'' L2 es2 ep2 t2 (Moved.trans W.gtrans ((hm.mono hsub).then_heap (Nat.le_add_right _ _) fun b o hb e => ?_) hm'') hS'' g'' hkp''
      rw [hsb.2 b (fun h : b = S => hb (by rw [h]; exact List.mem_cons_self))]; exact e
set_option maxRecDepth 100000 in
/-- set(t), t a tuple of unlike tuples -/
theorem call_set_m {l : Addr} {items : Array Value} (ks : List (Addr × List Key)) {Q : Value → Shared → Prop} (hh : A.handled = none) (hl : s.heap.IsTuple l items) (hit : items.toList = ks.map fun p => Value.ref p.1)
    (hk : ∀ p ∈ ks, IsM P w s.heap p.2 p.1) (hfew : ks.length ≤ 4) (hnd : (ks.map (·.2)).Nodup) (hu : A.units + 3 < cLine)
    (h : ∀ (h' : Heap) (tk : Nat) L es ep t, SetMR P w h' s.heap.objs.size L es ep t → L.Perm ks → (∀ b o, s.heap.get? b = some o → h'.get? b = some o) → Q (.ref s.heap.objs.size) { s with heap := h', toks := tk }) :
    wpAny (model P w) A (call (.type "set") [.ref l]) Q E s := by
  have hisz : items.size = ks.length := by
    have q := congrArg List.length hit
    rw [Array.length_toList, List.length_map] at q
    exact q
  obtain ⟨c, tl, hmro⟩ := F.called_set.mro
  have hmade := F.called_set.made
  have hsub := F.called_set.sub
  refine wpAny_call (codeAny_of_tree ?_)
  show wpAny _ _ (callAny (.type "set") _) _ _ _
  refine wpAny_pure ⟨Code.quiet_builtin _ (by decide +kernel), codeAny_builtin F.entry_type_call ?_⟩
  rw [Around.under_plain (weight_type_call_type "set" [.ref l] []) rfl]
  have h1 := F.called_set.notType
  have h2 := F.called_set.canCreate
  have hct := F.typeCall_set_1 (.ref l)
  repeat (any_goals (first | assumption | wp_step))
  refine codeAny_mono (code_set_led1 (.ref l) (E := E) (Q₁ := fun obj s₁ => obj = .ref s.heap.objs.size ∧ s₁ = { s with heap := s.heap.push { cls := .type "set", dict := none, data := .set #[] 0 (.fresh 0 0 (!w.params.followText "set-order")) } }) ⟨rfl, rfl⟩) fun r s₁ hr => ?_
  cases r with
  | error e => exact hr
  | ok fl =>
    cases fl with
    | ret obj =>
      obtain ⟨rfl, rfl⟩ := hr
      have hS : (s.heap.push { cls := .type "set", dict := none, data := .set #[] 0 (.fresh 0 0 (!w.params.followText "set-order")) }).get? s.heap.objs.size = some { cls := .type "set", dict := none, data := .set #[] 0 (.fresh 0 0 (!w.params.followText "set-order")) } := Heap.get?_push_size _ rfl
      have hT : Shared.TypeIs { s with heap := s.heap.push { cls := .type "set", dict := none, data := .set #[] 0 (.fresh 0 0 (!w.params.followText "set-order")) } } (.ref s.heap.objs.size) "set" := ⟨_, hS, rfl⟩
      have hli := F.called_set.init.lookup
      have hbi := F.called_set.init.bind (.ref s.heap.objs.size)
      repeat (any_goals (first | assumption | wp_step))
      refine codeAny_mono (codeAny_call_builtin (R := wants (fun r s₂ => r = .none ∧ ∃ h' tk L es ep t, s₂ = { s with heap := h', toks := tk } ∧ SetMR P w h' s.heap.objs.size L es ep t ∧ L.Perm ks ∧
          (∀ b o, s.heap.get? b = some o → h'.get? b = some o)) E) F.called_set.init.plain F.entry_set_init (check_set_init_1 hT ?_)) fun r₂ s₂ hr₂ => ?_
      · obtain ⟨ol, hol, hcl, nl, hdl⟩ := hl
        obtain ⟨ocls, odict, odata, oslots⟩ := ol
        simp only at hcl hdl
        subst hcl hdl
        have hol' : (s.heap.push { cls := .type "set", dict := none, data := .set #[] 0 (.fresh 0 0 (!w.params.followText "set-order")) }).get? l = some { cls := .type "tuple", dict := odict, data := .seq items nl, slots := oslots } := Heap.get?_push_of_some _ hol
        have hsls := F.sub_tuple_set
        have hslf := F.sub_tuple_frozenset
        have hne : (Value.type "tuple" == Value.type "dict") = false := by decide
        have hl1 : (s.heap.push { cls := .type "set", dict := none, data := .set #[] 0 (.fresh 0 0 (!w.params.followText "set-order")) }).IsTuple l items := ⟨_, hol', rfl, nl, rfl⟩
        unfold Builtin.«set.__init__» noKeywords Builtin.Frozenset.updateFrom
        generalize hPI : pyIter = PI
        wp_walk
        subst hPI
        refine wpAny_pyIter_tuple hl1 ?_
        refine wpAny_bind (wpAny_runValue ?_)
        have hlS : l < s.heap.objs.size := Heap.lt_size hol
        have hh3 : A.in1.in1.in1.handled = none := by simp [hh]
        have hz1 : (s.heap.push { cls := .type "set", dict := none, data := .set #[] 0 (.fresh 0 0 (!w.params.followText "set-order")) }).objs.size = s.heap.objs.size + 1 := Heap.size_push ..
        have hneI : l ≠ (s.heap.push { cls := .type "set", dict := none, data := .set #[] 0 (.fresh 0 0 (!w.params.followText "set-order")) }).objs.size := by
          rw [Heap.size_push]; exact Nat.ne_of_lt (Nat.lt_succ_of_lt hlS)
        have hSf : s.heap.objs.size ∉ [(s.heap.push { cls := .type "set", dict := none, data := .set #[] 0 (.fresh 0 0 (!w.params.followText "set-order")) }).objs.size, l] := by
          rw [Heap.size_push]; simp only [List.mem_cons, List.not_mem_nil, or_false, not_or]
          exact ⟨Nat.ne_of_lt (Nat.lt_succ_self _), Nat.ne_of_gt hlS⟩
        have hval : ∀ (i : Nat) (v : Value), items[i]? = some v → ∃ p, ks[i]? = some p ∧ v = .ref p.1 := fun i v hv => by
          have q : items.toList[i]? = some v := by rw [Array.getElem?_toList]; exact hv
          rw [hit, List.getElem?_map, Option.map_eq_some_iff] at q
          obtain ⟨p, hp, e⟩ := q
          exact ⟨p, hp, e.symm⟩
        have none_of : ∀ b, s.heap.objs.size ≤ b → s.heap.get? b = none := fun b hb => by
          cases q : s.heap.get? b with
          | none => rfl
          | some o => exact absurd (Nat.lt_of_lt_of_le (Heap.lt_size q) hb) (Nat.lt_irrefl _)
        refine update_m ((Walks.tuple hh3 _ l hneI items).toS) s.heap.objs.size
          hSf ks hisz hfew hnd hval s.heap hk (none_of _ (Nat.le_refl _)) (fun b hb => none_of b (by
            rw [List.mem_singleton.mp hb, Heap.size_push]
            exact Nat.le_succ _)) hu (items.size - 0) 0 _ (by omega) (Nat.zero_le _)
          ⟨⟨_, Heap.get?_push_size _ rfl, rfl, rfl⟩, (hl1.push _)⟩ (fun b o e => Heap.get?_push_of_some _ (Heap.get?_push_of_some _ e)) ?hS0 ?hR
        case hS0 => exact ⟨[], #[], 0, _, setMR_fresh (Heap.get?_push_of_some _ hS), by simp⟩
        case hR =>
          intro s' L es ep t hm hS' g' hkp
          obtain ⟨h', g2, d', tk', os'⟩ := s'
          have eg : g2 = s.gens := hm.gens
          have ed : d' = s.drawn := hm.drawn
          have eo : os' = s.os := hm.os
          subst eg ed eo
          show wpAny _ _ _ _ _ _
          refine wpAny_pure ?_
          show wpAny _ _ (ret Value.none) _ _ _
          exact wpAny_pure ⟨rfl, h', tk', L, es, ep, t, rfl, hS', g', hkp⟩
      · cases r₂ with
        | error e => exact hr₂
        | ok fl₂ =>
          cases fl₂ with
          | ret r =>
            obtain ⟨rfl, h', tk, L, es, ep, t, rfl, hS', g', hk'⟩ := hr₂
            repeat (any_goals (first | assumption | wp_step))
            exact h _ _ _ _ _ _ hS' g' hk'
          | _ => exact hr₂.elim
    | _ => exact hr.elim
end
/-! ### len(set(t)) -/
/-- len(set(t)), t a tuple of at most four unlike ints or unlike tuples of ints and texts -/
def tLenSetM (K : PySem.W.Frag) (ta : TE) : TE := fun σ H Q => ta σ H fun x H1 =>
  (∃ (l : Addr) (ns : List Int), x = V.ref l ∧ SqT K H1 l (ns.map V.int) ∧ ns.length ≤ 4 ∧ ns.Nodup ∧ Q (.int (ns.length : Nat)) H1) ∨
  ∃ (l : Addr) (ks : List (Addr × List Key)), x = V.ref l ∧ SqT K H1 l (ks.map fun p => V.ref p.1) ∧ (∀ p ∈ ks, SqT K H1 p.1 (p.2.map kV)) ∧ ks.length ≤ 4 ∧ (ks.map (·.2)).Nodup ∧ Q (.int (ks.length : Nat)) H1
section
variable {X : Cx}
theorem items_mix {P : Program} {w : World} : ∀ {k : List Key} {us : List Value}, Vals (k.map kV) us → ItemsAre (mixKind P w) k us
  | [], _, r => by
    cases r
    exact .nil
  | a :: k, _, r => by
    cases r with
    | cons r1 r2 => exact .cons (kV_is r1) (items_mix r2)
theorem Inv.isM {pins : List (Addr × Obj)} {σ : St} {H : Hp} {s : Shared} {b : Addr} {k : List Key} (I : Inv X pins σ H s) (h : SqT X.K H b (k.map kV)) : IsM X.prog X.w s.heap k b := by
  obtain ⟨its, r, ⟨o, ho, hc, n, hd⟩, _⟩ := I.tuple h
  exact ⟨o, its.toArray, n, ho, hc, hd, by simpa using items_mix r⟩
theorem refs_mix : ∀ {ks : List (Addr × List Key)} {us : List Value}, Vals (ks.map fun p => V.ref p.1) us → us = ks.map fun p => Value.ref p.1
  | [], _, r => by
    cases r
    rfl
  | p :: ks, _, r => by
    cases r with
    | cons r1 r2 =>
      cases r1
      rw [refs_mix r2] <;> rfl
theorem pe_lenSetM {a : Expr} {ta : TE} {p p2 q pos : Pos} (hc : X.calm = true) (hu : X.A.units + 64 < cLine) (hg : Gl X "len") (hm : X.mg "len" = none) (hg2 : Gl X "set") (hm2 : X.mg "set" = none) (ha : PE X a ta)
    (na : starEach [a] X.env = (false, eval a X.env) :: starEach [] X.env := by rfl) : PE X (.Call (.Name "len" p) [.Call (.Name "set" p2) [a] [] q] [] pos) (tLenSetM X.K ta) := by
  refine ⟨fun pins s σ H Q I h => ?_⟩
  refine Call_ (ld_blt I hg hm PySem.boot_len ?_)
  refine PyProof.Rows.callWith_builtin1 (PyProof.Rows.args_cons ?_ rfl) rfl rfl
  refine Call_ (ld_blt I hg2 hm2 PyProof.Rows.boot_set ?_)
  refine PyProof.Rows.callWith_type1 (PyProof.Rows.args_cons (thn (ha.run pins s σ H _ I h) fun v s1 ⟨x, H1, I1, r1, q1⟩ => PyProof.Rows.args_nil ?_) na) na rfl
  rcases q1 with ⟨l, ns, rfl, hq, h1, hnd, q1⟩ | ⟨l, ks, rfl, hq, hks, h1, hnd, q1⟩
  · cases r1
    obtain ⟨its, rv, pt, hz⟩ := I1.tuple hq
    refine call_set_tupI ns (I1.ok.hd hc) (show s1.heap.IsTuple l its.toArray from pt) (ints_of_vals rv) (by unfold scanBound; omega) fun h' tk c R1 hcn k => ?_
    refine PyProof.Rows.args_nil ?_
    obtain ⟨o, es, ep, t, ho, hex, hd, _, nd, hm2', _, hf, hn, _⟩ := R1
    have hp : (es.toList.map keyOf).Perm ns := by
      rw [List.perm_ext_iff_of_nodup nd hnd]
      intro j
      rw [← hm2' j, decide_eq_true_eq]
    have hsz : es.size = ns.length := by
      have := hp.length_eq
      rw [List.length_map, Array.length_toList] at this
      exact this
    have I2 : Inv X pins σ H1 { s1 with heap := h', toks := tk } := I1.kept k
    exact call_len_set ho hex hd hf (by rw [hsz]; omega) ⟨.int (ns.length : Nat), H1, I2.tok _, ⟨_, by rw [hsz]⟩, q1⟩
  · cases r1
    obtain ⟨its, rv, pt, hz⟩ := I1.tuple hq
    refine call_set_m ks (I1.ok.hd hc) (show s1.heap.IsTuple l its.toArray from pt) (by simpa using refs_mix rv) (fun p hp => I1.isM (hks p hp)) h1 hnd (by omega) fun h' tk L es ep t R pm k => ?_
    refine PyProof.Rows.args_nil ?_
    obtain ⟨o, ho, hex, hd⟩ := R.ob
    have hsz : es.size = ks.length := by
      have h1 := congrArg List.length R.rows
      unfold rowsM at h1
      rw [Array.length_toList, List.length_map, pm.length_eq] at h1
      exact h1
    have hf : t.fits es.size = true := R.fits (s := { s1 with heap := h', toks := tk })
    have I2 : Inv X pins σ H1 { s1 with heap := h', toks := tk } := I1.kept k
    exact call_len_set ho hex hd hf (by rw [hsz]; omega) ⟨.int (ks.length : Nat), H1, I2.tok _, ⟨_, by rw [hsz]⟩, q1⟩
end
end L2
set_option maxHeartbeats 4000000
namespace K76
open PySem PySem.W PySem.Calls PyProof.Rows L2 Evl Ed
/-- what are_different is asked: a tuple of a few unlike ints, or of unlike tuples of ints and texts -/
def keyD : Int ⊕ Str → PyData
  | .inl i => .int i
  | .inr s => .str s
def lK (l : Lnk) : List (Int ⊕ Str) := [.inl l.a, .inl l.b, .inr l.w]
def mK (m : Mrk) : List (Int ⊕ Str) := [.inl m.p, .inr m.w]
def Unlike (xs : List PyData) : Prop := (∃ ns : List Int, xs = ns.map PyData.int ∧ ns.Nodup ∧ ns.length ≤ 4) ∨
  (∃ ts : List (List (Int ⊕ Str)), xs = ts.map (fun t => .tuple (t.map keyD)) ∧ ts.Nodup ∧ ts.length ≤ 4 ∧ ∀ t ∈ ts, t.length ≤ 3)
theorem unlike_ints {ns : List Int} (h : ns.Nodup) (hl : ns.length ≤ 4) : Unlike (ns.map PyData.int) := .inl ⟨ns, rfl, h, hl⟩
theorem nodup_map {α β : Type} {f : α → β} (hf : ∀ a b, f a = f b → a = b) {l : List α} (h : l.Nodup) : (l.map f).Nodup := by
  rw [List.Nodup, List.pairwise_map]
  exact h.imp fun hne e => hne (hf _ _ e)
theorem unlike_links {ls : List Lnk} (h : ls.Nodup) (hl : ls.length ≤ 4) : Unlike (ls.map lD) := .inr ⟨ls.map lK, by rw [List.map_map] <;> rfl, nodup_map (fun a b e => by
  cases a
  cases b
  simp only [lK, List.cons.injEq, Sum.inl.injEq, Sum.inr.injEq, and_true] at e
  simp only [Lnk.mk.injEq]
  exact e) h, by rw [List.length_map]; exact hl, fun t ht => by
  obtain ⟨l, _, rfl⟩ := List.mem_map.mp ht
  exact Nat.le_refl _⟩
theorem unlike_marks {ls : List Mrk} (h : ls.Nodup) (hl : ls.length ≤ 4) : Unlike (ls.map mD) := .inr ⟨ls.map mK, by rw [List.map_map] <;> rfl, nodup_map (fun a b e => by
  cases a
  cases b
  simp only [mK, List.cons.injEq, Sum.inl.injEq, Sum.inr.injEq, and_true] at e
  simp only [Mrk.mk.injEq]
  exact e) h, by rw [List.length_map]; exact hl, fun t ht => by
  obtain ⟨l, _, rfl⟩ := List.mem_map.mp ht
  exact Nat.le_succ _⟩
section
variable {w : World} {mg : Str → Option Value} {base : Heap}
def m_are_different : List PyData → PyData → Prop := fun ds d => ∃ xs, ds = [.tuple xs] ∧ Unlike xs ∧ d = .bool true
theorem sc_are_different : FnScope ["values"] ["values"] (defScope s_are_different) := ⟨rfl, rfl, rfl, by decide +kernel, rfl, by decide +kernel, by decide +kernel⟩
theorem keys_of {K : PySem.W.Frag} {H : Hp} : ∀ {t : List (Int ⊕ Str)} {us : List V}, DpAll K H us (t.map keyD) → us = t.map kV
  | [], _, h => by
    cases h
    rfl
  | .inl i :: t, _, h => by
    cases h with
    | cons a b =>
      cases a
      rw [keys_of b] <;> rfl
  | .inr x :: t, _, h => by
    cases h with
    | cons a b =>
      cases a
      rw [keys_of b] <;> rfl
theorem tuples_of {K : PySem.W.Frag} {H : Hp} : ∀ {ts : List (List (Int ⊕ Str))} {us : List V}, DpAll K H us (ts.map fun t => .tuple (t.map keyD)) → ∃ ks : List (Addr × List Key), us = ks.map (fun p => V.ref p.1) ∧ ks.map (·.2) = ts ∧ ∀ p ∈ ks, SqT K H p.1 (p.2.map kV)
  | [], _, h => by
    cases h
    exact ⟨[], rfl, rfl, fun p hp => by cases hp⟩
  | t :: ts, _, h => by
    cases h with
    | cons a b =>
      obtain ⟨c, xs, rfl, hs, hx⟩ := dp_tup a
      obtain ⟨ks, rfl, h2, h3⟩ := tuples_of b
      refine ⟨(c, t) :: ks, rfl, by rw [List.map_cons, h2], fun p hp => ?_⟩
      rcases List.mem_cons.mp hp with rfl | hp
      · rw [keys_of hx] at hs
        exact hs
      · exact h3 p hp
theorem ok_are_different (W : Wd w.params mg) : Ok w mg base CX0 1 a_are_different fd_are_different ["values"] (spM (Kw w) m_are_different) := by
  refine (F_are_different w.params).ok sc_are_different (fun vs H Q E h => ?_) (fun cdv A outer s H vs Q E hr h => ?_)
  · obtain ⟨ds, d, hd, ⟨xs, rfl, _, rfl⟩, _⟩ := h
    exact hd.len
  · obtain ⟨ds, d, hd, ⟨xs, rfl, hx, rfl⟩, k⟩ := h
    cases hd with
    | cons hv hd =>
      cases hd
      refine ⟨_, pss_one (ps_ret (pe_cmpR op_eq (pe_lenSetM rfl hr.units rfl (n_len W) rfl (n_set W) (pv 0)) (pe_callB call_len_seq rfl (n_len W) boot_len (pa_cons (pv 0) pa_nil)) (nomark _))), ?_⟩
      obtain ⟨a, vs, rfl, hs, hvs⟩ := dp_tup hv
      have e : Ev (tLenSetM (Kw w) (tVar 0)) [some (.ref a)] H (.int ((xs.length : Nat) : Int)) := fun H1 e1 Q q => by
        refine ⟨_, rfl, ?_⟩
        rcases hx with ⟨ns, rfl, hnd, hl⟩ | ⟨ts, rfl, hnd, hl, _⟩
        · rw [dpAll_ints_of hvs] at hs
          rw [List.length_map] at q
          exact .inl ⟨a, ns, rfl, ex_t e1 hs, hl, hnd, q H1 (Ex.refl _)⟩
        · obtain ⟨ks, rfl, h2, h3⟩ := tuples_of hvs
          have hl2 : ks.length = ts.length := by rw [← h2, List.length_map]
          rw [List.length_map, ← hl2] at q
          exact .inr ⟨a, ks, rfl, ex_t e1 hs, fun p hp => ex_t e1 (h3 p hp), by omega, by rw [h2]; exact hnd, q H1 (Ex.refl _)⟩
      exact s_ret (ev_is (ev_op e (ev_lenTD (ed_var rfl hv)) (rv_eq rfl)) (congrArg V.bl (decide_eq_true rfl))) fun H1 e1 => k _ H1 e1 (.bl true)
/-! ### is_slot -/
theorem sc_is_slot : FnScope ["kinds", "pages", "value", "gates", "page"] ["kinds", "pages", "value"] (defScope s_is_slot) := ⟨rfl, rfl, rfl, by decide +kernel, rfl, by decide +kernel, by decide +kernel⟩
def m_is_slot : List PyData → PyData → Prop := fun ds d => ∃ ks p s, ds = [ksD ks, .int p, sD s] ∧ OkS ks p s ∧ s.sp.length ≤ 4 ∧ d = .bool true
theorem ok_is_slot (W : Wd w.params mg) : Ok w mg base CX0 3 a_is_slot fd_is_slot ["kinds", "pages", "value"] (spM (Kw w) m_is_slot) := by
  refine (F_is_slot w.params).ok sc_is_slot (fun vs H Q E h => ?_) (fun cdv A outer s H vs Q E hr h => ?_)
  · obtain ⟨ds, d, hd, ⟨_, x, l, rfl, _, _, rfl⟩, _⟩ := h
    exact hd.len
  · obtain ⟨ds, d, hd, ⟨ks, p, sl, rfl, ⟨g, hg, hlen, hsp, hnd⟩, hl4, rfl⟩, k⟩ := h
    obtain ⟨t, u, v, rfl, ht, hu, hv⟩ := dpa3 hd
    obtain rfl := dp_int hu
    refine ⟨_, (pss_cons (ps_if (pt_not (pt_val (pe_call (ok_is_row W) (hr.mono (by decide)) rfl (g_is_row W) (F_is_row _).kp (b_is_row _) .nil pass0 (pa_cons (pv 2) (pa_cons pe_int pa_nil))))) (pss_one (ps_ret pe_bl)) pss_nil)
    (pss_cons (ps_set (i := 3) sc_is_slot.nd rfl (Or.inl rfl) (pe_call (ok_gates_of W) (hr.mono (by decide)) rfl (g_gates_of W) (F_gates_of _).kp (b_gates_of _) .nil pass0 (pa_cons (pv 0) (pa_cons (pe_ix ix_tup (pv 2) pe_int (fun _ _ => rfl)) pa_nil))))
    (pss_cons (ps_if (PW.pt (pw_or (pt_cmp (pc_isN (pv 3))) (pw_or1 (pt_not (pt_val (pe_call (ok_is_row W) (hr.mono (by decide)) rfl (g_is_row W) (F_is_row _).kp (b_is_row _) .nil pass0 (pa_cons (pe_ix ix_tup (pv 2) pe_int (fun _ _ => rfl)) (pa_cons (pv 3) pa_nil)))))))) (pss_one (ps_ret pe_bl)) pss_nil)
    (pss_one (ps_ret (pe_and (pe_callB (cr_all rfl) rfl (n_all W) boot_all (pa_cons (pe_lc (own := [("page", 4)]) (g := gName 4) (tt := tYes) rfl sc_is_slot.nd (pi_tup (pe_ix ix_tup (pv 2) pe_int (fun _ _ => rfl))) (blkOk_by (own := [("page", 4)]) (N := ["kinds", "pages", "value", "gates", "page"]) (sc := defScope s_is_slot) (by decide +kernel)) (fun _ _ _ _ _ => (pg_name (i := 4) sc_is_slot.nd rfl (Or.inl rfl))) (fun _ _ _ _ _ => pts_nil) (fun _ _ _ _ _ => (pe_call (ok_is_number W) (hr.mono (by decide)) rfl (g_is_number W) (F_is_number _).kp (b_is_number _) .nil pass0 (pa_cons (pv 4) (pa_cons pe_int (pa_cons (pe_op op_sub (pv 1) pe_int) pa_nil)))))) pa_nil)) (pe_one (pe_call (ok_are_different W) (hr.mono (by decide)) rfl (g_are_different W) (F_are_different _).kp (b_are_different _) .nil pass0 (pa_cons (pe_ix ix_tup (pv 2) pe_int (fun _ _ => rfl)) pa_nil))))))))), ?_⟩
    refine q_when (b := false) (et_is (et_not (et_B (ev_bool (ed_call (ea_consD (ed_var rfl hv) (ea_consD (ed_int ev_c) ea_nilD)) ⟨_, _, rfl, rfl⟩)))) rfl) (fun z => by cases z) fun _ H1 e1 => ?_
    have hv1 := hv.ex e1
    have ht1 := ht.ex e1
    refine q_asgD (d := .int g) (ed_to (ed_call (ea_consD (ed_var rfl ht1) (ea_consD (ed_ixTD (i := 0) (ed_var rfl hv1) (fun _ _ => ev_c) rfl) ea_nilD)) ⟨_, _, rfl, rfl⟩) (by rw [hg]; rfl)) fun y H2 e2 hy => ?_
    obtain rfl := dp_int hy
    have hv2 := hv1.ex e2
    have ht2 := ht1.ex e2
    refine q_when (b := false) (et_is (et_or (et_B (ev_isN (ev_var rfl))) fun _ => et_not (et_B (ev_bool (ed_call (ea_consD (ed_ixTD (i := 1) (ed_var rfl hv2) (fun _ _ => ev_c) rfl) (ea_consD (ed_int (ev_var rfl)) ea_nilD)) ⟨_, _, rfl, rfl⟩)))) ?_) (fun z => by cases z) fun _ H3 e3 => ?_
    · rw [List.length_map, decide_eq_true hlen] <;> rfl
    · have hv3 := hv2.ex e3
      refine s_retD (ed_to (ed_bool (ev_andV (b := true) (ev_allTD (ed_ixTD (i := 1) (ed_var rfl hv3) (fun _ _ => ev_c) rfl) (by rw [List.length_map]; omega) (fun _ => rfl) fun d hd x H4 e4 hx => ?_) fun _ =>
        ev_bool (ed_call (ea_consD (ed_ixTD (i := 1) (ed_var rfl hv3) (fun _ _ => ev_c) rfl) ea_nilD) ⟨_, rfl, unlike_ints hnd hl4, rfl⟩))) rfl) fun v H2 e4 => k v H2 (((e1.trans e2).trans e3).trans e4)
      obtain ⟨n, hn, rfl⟩ := List.mem_map.mp hd
      refine ed_to (ed_call (ea_consD (ed_var rfl hx) (ea_consD (ed_int ev_c) (ea_consD (ed_int (ev_op (ev_var rfl) ev_c rv_I0)) ea_nilD))) ⟨_, _, _, rfl, rfl⟩) ?_
      obtain ⟨h1, h2⟩ := hsp n hn
      show PyData.bool (decide (0 ≤ n) && decide (n ≤ p - 1)) = _
      rw [decide_eq_true h1, decide_eq_true (by omega : n ≤ p - 1)] <;> rfl
/-! ### is_template -/
theorem sc_is_template : FnScope ["kinds", "value", "name", "kind", "pages", "links", "marks", "slots", "gates", "row", "most", "link", "mark", "slot"] ["kinds", "value"] (defScope s_is_template) := ⟨rfl, rfl, rfl, by decide +kernel, rfl, by decide +kernel, by decide +kernel⟩
def m_is_template : List PyData → PyData → Prop := fun ds d => ∃ ks t, ds = [ksD ks, tD t] ∧ OkT ks t ∧ OkK ks ∧ d = .bool true
theorem gates_in {ks : List (Str × Int)} {x : Str} {g : Int} (h : gatesOf ks x = some g) : (x, g) ∈ ks := by
  unfold gatesOf at h
  obtain ⟨k, hk, rfl⟩ := Option.map_eq_some_iff.mp h
  have h1 := List.mem_of_find?_eq_some hk
  have h2 : decide (x = k.1) = true := by have := List.find?_some hk; exact this
  rw [of_decide_eq_true h2]
  exact h1
theorem ok_is_template (W : Wd w.params mg) : Ok w mg base CX0 4 a_is_template fd_is_template ["kinds", "value"] (spM (Kw w) m_is_template) := by
  refine (F_is_template w.params).ok sc_is_template (fun vs H Q E h => ?_) (fun cdv A outer s H vs Q E hr h => ?_)
  · obtain ⟨ds, d, hd, ⟨_, x, rfl, _, _, rfl⟩, _⟩ := h
    exact hd.len
  · obtain ⟨ds, d, hd, ⟨ks, t, rfl, ok, okk, rfl⟩, k⟩ := h
    obtain ⟨u, v, rfl, hu, hv⟩ := dpa2 hd
    obtain ⟨g, hg, hgp, hms⟩ := ok.g
    refine ⟨_, (pss_cons (ps_if (PW.pt (pw_or (pt_not (pt_val (pe_call (ok_is_row W) (hr.mono (by decide)) rfl (g_is_row W) (F_is_row _).kp (b_is_row _) .nil pass0 (pa_cons (pv 1) (pa_cons pe_int pa_nil))))) (pw_or1 (pt_not (pt_val (pe_call (ok_is_name W) (hr.mono (by decide)) rfl (g_is_name W) (F_is_name _).kp (b_is_name _) .nil pass0 (pa_cons (pe_ix ix_tup (pv 1) pe_int (fun _ _ => rfl)) pa_nil))))))) (pss_one (ps_ret pe_bl)) pss_nil)
    (pss_cons (ps_asg (pv 1) (pg_tup rfl (pgs_cons (pg_name (i := 2) sc_is_template.nd rfl (Or.inl rfl)) (pgs_cons (pg_name (i := 3) sc_is_template.nd rfl (Or.inl rfl)) (pgs_cons (pg_name (i := 4) sc_is_template.nd rfl (Or.inr rfl)) (pgs_cons (pg_name (i := 5) sc_is_template.nd rfl (Or.inl rfl)) (pgs_cons (pg_name (i := 6) sc_is_template.nd rfl (Or.inl rfl)) (pgs_cons (pg_name (i := 7) sc_is_template.nd rfl (Or.inl rfl)) pgs_nil))))))))
    (pss_cons (ps_set (i := 8) sc_is_template.nd rfl (Or.inr rfl) (pe_call (ok_gates_of W) (hr.mono (by decide)) rfl (g_gates_of W) (F_gates_of _).kp (b_gates_of _) .nil pass0 (pa_cons (pv 0) (pa_cons (pv 3) pa_nil))))
    (pss_cons (ps_if (PW.pt (pw_or (pt_cmp (pc_isN (pv 8))) (pw_or1 (pt_not (pt_val (pe_call (ok_is_number W) (hr.mono (by decide)) rfl (g_is_number W) (F_is_number _).kp (b_is_number _) .nil pass0 (pa_cons (pv 4) (pa_cons (pv 8) (pa_cons (pe_glob (v := .int (5)) rfl (g_MOST_PAGES W) ⟨_, rfl⟩) pa_nil))))))))) (pss_one (ps_ret pe_bl)) pss_nil)
    (pss_cons (ps_for PassesOwn.never rfl (pi_tup (pe_tup (pa_cons (pe_tup (pa_cons (pv 5) (pa_cons (pe_glob (v := .int (12)) rfl (g_MOST_LINKS W) ⟨_, rfl⟩) pa_nil))) (pa_cons (pe_tup (pa_cons (pv 6) (pa_cons (pe_glob (v := .int (8)) rfl (g_MOST_MARKS W) ⟨_, rfl⟩) pa_nil))) (pa_cons (pe_tup (pa_cons (pv 7) (pa_cons (pe_glob (v := .int (2)) rfl (g_MOST_SLOTS W) ⟨_, rfl⟩) pa_nil))) pa_nil))))) (pg_tup rfl (pgs_cons (pg_name (i := 9) sc_is_template.nd rfl (Or.inl rfl)) (pgs_cons (pg_name (i := 10) sc_is_template.nd rfl (Or.inl rfl)) pgs_nil)))
    (pss_one (ps_if (PW.pt (pw_or (pt_not (pt_val (pe_callB call_isi rfl (n_isinstance W) boot_isinstance (pa_cons (pv 9) (pa_cons (pe_tyN rfl (n_tuple W) boot_tuple) pa_nil))))) (pw_or1 (pt_cmpR op_gt (pe_callB call_len_seq rfl (n_len W) boot_len (pa_cons (pv 9) pa_nil)) (pv 10) (nomark _))))) (pss_one (ps_ret pe_bl)) pss_nil)))
    (pss_cons (ps_if (PW.pt (pw_or (pt_not (pt_val (pe_callB (cr_all rfl) rfl (n_all W) boot_all (pa_cons (pe_lc (own := [("link", 11)]) (g := gName 11) (tt := tYes) rfl sc_is_template.nd (pi_tup (pv 5)) (blkOk_by (own := [("link", 11)]) (N := ["kinds", "value", "name", "kind", "pages", "links", "marks", "slots", "gates", "row", "most", "link", "mark", "slot"]) (sc := defScope s_is_template) (by decide +kernel)) (fun _ _ _ _ _ => (pg_name (i := 11) sc_is_template.nd rfl (Or.inl rfl))) (fun _ _ _ _ _ => pts_nil) (fun _ _ _ _ _ => (pe_call (ok_is_link W) (hr.mono (by decide)) rfl (g_is_link W) (F_is_link _).kp (b_is_link _) .nil pass0 (pa_cons (pv 4) (pa_cons (pv 11) pa_nil))))) pa_nil)))) (pw_or1 (pt_not (pt_val (pe_call (ok_are_different W) (hr.mono (by decide)) rfl (g_are_different W) (F_are_different _).kp (b_are_different _) .nil pass0 (pa_cons (pv 5) pa_nil))))))) (pss_one (ps_ret pe_bl)) pss_nil)
    (pss_cons (ps_if (PW.pt (pw_or (pt_not (pt_val (pe_callB (cr_all rfl) rfl (n_all W) boot_all (pa_cons (pe_lc (own := [("mark", 12)]) (g := gName 12) (tt := tYes) rfl sc_is_template.nd (pi_tup (pv 6)) (blkOk_by (own := [("mark", 12)]) (N := ["kinds", "value", "name", "kind", "pages", "links", "marks", "slots", "gates", "row", "most", "link", "mark", "slot"]) (sc := defScope s_is_template) (by decide +kernel)) (fun _ _ _ _ _ => (pg_name (i := 12) sc_is_template.nd rfl (Or.inl rfl))) (fun _ _ _ _ _ => pts_nil) (fun _ _ _ _ _ => (pe_call (ok_is_mark W) (hr.mono (by decide)) rfl (g_is_mark W) (F_is_mark _).kp (b_is_mark _) .nil pass0 (pa_cons (pv 8) (pa_cons (pv 4) (pa_cons (pv 12) pa_nil)))))) pa_nil)))) (pw_or1 (pt_not (pt_val (pe_call (ok_are_different W) (hr.mono (by decide)) rfl (g_are_different W) (F_are_different _).kp (b_are_different _) .nil pass0 (pa_cons (pv 6) pa_nil))))))) (pss_one (ps_ret pe_bl)) pss_nil)
    (pss_one (ps_ret (pe_callB (cr_all rfl) rfl (n_all W) boot_all (pa_cons (pe_lc (own := [("slot", 13)]) (g := gName 13) (tt := tYes) rfl sc_is_template.nd (pi_tup (pv 7)) (blkOk_by (own := [("slot", 13)]) (N := ["kinds", "value", "name", "kind", "pages", "links", "marks", "slots", "gates", "row", "most", "link", "mark", "slot"]) (sc := defScope s_is_template) (by decide +kernel)) (fun _ _ _ _ _ => (pg_name (i := 13) sc_is_template.nd rfl (Or.inl rfl))) (fun _ _ _ _ _ => pts_nil) (fun _ _ _ _ _ => (pe_call (ok_is_slot W) (hr.mono (by decide)) rfl (g_is_slot W) (F_is_slot _).kp (b_is_slot _) .nil pass0 (pa_cons (pv 0) (pa_cons (pv 4) (pa_cons (pv 13) pa_nil)))))) pa_nil))))))))))), ?_⟩
    refine q_when (b := false) (et_is (et_or (et_not (et_B (ev_bool (ed_call (ea_consD (ed_var rfl hv) (ea_consD (ed_int ev_c) ea_nilD)) ⟨_, _, rfl, rfl⟩)))) fun _ => et_not (et_B (ev_bool (ed_call
      (ea_consD (ed_ixTD (i := 0) (ed_var rfl hv) (fun _ _ => ev_c) rfl) ea_nilD) ⟨_, rfl, ok.nm, rfl⟩)))) rfl) (fun z => by cases z) fun _ H1 e1 => ?_
    obtain ⟨a, xs, rfl, hs, hx⟩ := dp_tup (hv.ex e1)
    obtain ⟨v1, v2, v3, v4, v5, v6, rfl, d1, d2, d3, d4, d5, d6⟩ := dpa6 hx
    obtain rfl := dp_int d3
    obtain rfl := dp_str d2
    refine q_unpack rfl hs rfl (g_cons (g_cons (g_cons (g_cons (g_cons (g_cons (g_nil ?_)))))))
    have hu1 := hu.ex e1
    refine q_asgD (d := .int g) (ed_to (ed_call (ea_consD (ed_var rfl hu1) (ea_consD (ed_str (ev_var rfl)) ea_nilD)) ⟨_, _, rfl, rfl⟩) (by rw [hg]; rfl)) fun y H2 e2 hy => ?_
    obtain rfl := dp_int hy
    have hu2 := hu1.ex e2
    refine q_when (b := false) (et_is (et_or (et_B (ev_isN (ev_var rfl))) fun _ => et_not (et_B (ev_bool (ed_call (ea_consD (ed_int (ev_var rfl)) (ea_consD (ed_int (ev_var rfl)) (ea_consD (ed_int ev_c) ea_nilD))) ⟨_, _, _, rfl, rfl⟩)))) ?_) (fun z => by cases z) fun _ H3 e3 => ?_
    · show (false || !(decide (g ≤ t.pages) && decide (t.pages ≤ 5))) = false
      rw [decide_eq_true hgp, decide_eq_true ok.pg] <;> rfl
    have e03 := (e1.trans e2).trans e3
    have d43 := (d4.ex e2).ex e3
    have d53 := (d5.ex e2).ex e3
    have d63 := (d6.ex e2).ex e3
    refine q_forTX (ds := [.tuple [.tuple (t.links.map lD), .int 12], .tuple [.tuple (t.marks.map mD), .int 8], .tuple [.tuple (t.slots.map sD), .int 2]])
      (ed_tup (ea_consD (ed_tup (ea_consD (ed_var rfl d43) (ea_consD (ed_int ev_c) ea_nilD)) (by simp)) (ea_consD (ed_tup (ea_consD (ed_var rfl d53) (ea_consD (ed_int ev_c) ea_nilD)) (by simp)) (ea_consD (ed_tup (ea_consD (ed_var rfl d63) (ea_consD (ed_int ev_c) ea_nilD)) (by simp)) ea_nilD))) (by simp))
      ?_ (fun i σ' H' => Ex H3 H' ∧ ∃ p q r1 r2 r3, σ' = [some u, some (.ref a), some v1, some (.str t.kind), some (.int t.pages), some v4, some v5, some v6, some (.int g), p, q, r1, r2, r3]) (fun H4 e4 => ⟨e4, _, _, _, _, _, rfl⟩) (fun H0 e0 i d x σ' H' hi tx hd p => ?_) (fun σ' H' p => ?_)
    · show (immAll [.tuple (t.links.map lD), .int 12] && (immAll [.tuple (t.marks.map mD), .int 8] && (immAll [.tuple (t.slots.map sD), .int 2] && true))) = true
      show ((immAll (t.links.map lD) && true) && ((immAll (t.marks.map mD) && true) && ((immAll (t.slots.map sD) && true) && true))) = true
      rw [immAll_map imm_lD, immAll_map imm_mD, immAll_map imm_sD] <;> rfl
    · obtain ⟨e4, p, q, r1, r2, r3, rfl⟩ := p
      have key : ∃ (es : List PyData) (m : Nat), d = .tuple [.tuple es, .int m] ∧ es.length ≤ m := by
        match i, hi with
        | 0, hi => cases hi; exact ⟨_, 12, rfl, by rw [List.length_map]; exact Nat.le_trans ok.nl (by decide)⟩
        | 1, hi => cases hi; exact ⟨_, 8, rfl, by rw [List.length_map]; exact Nat.le_trans ok.nk (by decide)⟩
        | 2, hi => cases hi; exact ⟨_, 2, rfl, by rw [List.length_map]; exact ok.ns⟩
      obtain ⟨es, m, rfl, hm⟩ := key
      obtain ⟨b, ys, rfl, hs2, hy2⟩ := dp_tup hd
      obtain ⟨z1, z2, rfl, hz1, hz2⟩ := dpa2 hy2
      obtain rfl := dp_int hz2
      refine g_tup hs2 rfl (g_cons (g_cons (g_nil ?_)))
      refine s_when (b := false) (et_is (et_or (et_not (et_B (ev_isTp (ed_var rfl hz1)))) fun _ => et_test (ev_op (ev_lenTD (ed_var rfl hz1)) (ev_var rfl) rv_I0)) ?_) (fun z => by cases z) fun _ H5 e5 => ?_
      · show (false || decide ((m : Int) < (es.length : Int))) = false
        rw [decide_eq_false (by omega)] <;> rfl
      · exact ⟨tx.trans (Tx.of e5), e4.trans e5, _, _, _, _, _, rfl⟩
    obtain ⟨e4, p, q, r1, r2, r3, rfl⟩ := p
    have d44 := d43.ex e4
    have d54 := d53.ex e4
    have d64 := d63.ex e4
    have hu4 := (hu2.ex e3).ex e4
    refine q_when (b := false) (et_is (et_or (et_not (et_B (ev_allTD (ed_var rfl d44) (by rw [List.length_map]; have := ok.nl; omega) (fun _ => rfl) fun d hd x H5 e5 hx => ?_))) fun _ => et_not (et_B (ev_bool (ed_call
      (ea_consD (ed_var rfl d44) ea_nilD) ⟨_, rfl, unlike_links ok.dl ok.nl, rfl⟩)))) rfl) (fun z => by cases z) fun _ H5 e5 => ?_
    · obtain ⟨n, hn, rfl⟩ := List.mem_map.mp hd
      exact ed_call (ea_consD (ed_int (ev_var rfl)) (ea_consD (ed_var rfl hx) ea_nilD)) ⟨_, _, rfl, ok.ls n hn, rfl⟩
    have d55 := d54.ex e5
    have d65 := d64.ex e5
    have hu5 := hu4.ex e5
    refine q_when (b := false) (et_is (et_or (et_not (et_B (ev_allTD (ed_var rfl d55) (by rw [List.length_map]; have := ok.nk; omega) (fun _ => rfl) fun d hd x H6 e6 hx => ?_))) fun _ => et_not (et_B (ev_bool (ed_call
      (ea_consD (ed_var rfl d55) ea_nilD) ⟨_, rfl, unlike_marks ok.dm ok.nk, rfl⟩)))) rfl) (fun z => by cases z) fun _ H6 e6 => ?_
    · obtain ⟨n, hn, rfl⟩ := List.mem_map.mp hd
      exact ed_call (ea_consD (ed_int (ev_var rfl)) (ea_consD (ed_int (ev_var rfl)) (ea_consD (ed_var rfl hx) ea_nilD))) ⟨_, _, _, rfl, hms n hn, rfl⟩
    have d66 := d65.ex e6
    have hu6 := hu5.ex e6
    refine s_retD (ed_bool (ev_allTD (ed_var rfl d66) (by rw [List.length_map]; have := ok.ns; omega) (fun _ => rfl) fun d hd x H7 e7 hx => ?_)) fun v H7 e7 => k v H7 ((((e03.trans e4).trans e5).trans e6).trans e7)
    obtain ⟨n, hn, rfl⟩ := List.mem_map.mp hd
    refine ed_call (ea_consD (ed_var rfl (hu6.ex e7)) (ea_consD (ed_int (ev_var rfl)) (ea_consD (ed_var rfl hx) ea_nilD))) ⟨_, _, _, rfl, ok.ss n hn, ?_, rfl⟩
    obtain ⟨g2, hg2, hl2, _⟩ := ok.ss n hn
    have := okk.g _ (gates_in hg2)
    have h3 : g2 ≤ 3 := this.2
    omega
end
end K76
set_option maxHeartbeats 4000000
namespace K76
open PySem PySem.W PySem.Calls PyProof.Rows L2 Evl Ed
theorem nodup_notin {α : Type} {l : List α} (h : l.Nodup) {i : Nat} {x : α} (hx : l[i]? = some x) : x ∉ l.take i := fun hm => by
  obtain ⟨hlt, rfl⟩ := List.getElem?_eq_some_iff.mp hx
  obtain ⟨j, hj, e⟩ := List.getElem_of_mem hm
  rw [List.length_take] at hj
  rw [List.getElem_take] at e
  exact absurd e (List.pairwise_iff_getElem.mp h j i (by omega) hlt (by omega))
theorem take_one {α : Type} {l : List α} {i : Nat} {x : α} (h : l[i]? = some x) : l.take (i + 1) = l.take i ++ [x] := by
  rw [List.take_succ, h] <;> rfl
section
variable {w : World} {mg : Str → Option Value} {base : Heap}
/-! ### check_kinds -/
theorem sc_check_kinds : FnScope ["value", "names", "index", "kind"] ["value"] (defScope s_check_kinds) := ⟨rfl, rfl, rfl, by decide +kernel, rfl, by decide +kernel, by decide +kernel⟩
def m_check_kinds : List PyData → PyData → Prop := fun ds d => ∃ ks, ds = [ksD ks] ∧ OkK ks ∧ d = .none
theorem ok_check_kinds (W : Wd w.params mg) : Ok w mg base CX0 4 a_check_kinds fd_check_kinds ["value"] (spM (Kw w) m_check_kinds) := by
  refine (F_check_kinds w.params).ok sc_check_kinds (fun vs H Q E h => ?_) (fun cdv A outer s H vs Q E hr h => ?_)
  · obtain ⟨ds, d, hd, ⟨_, rfl, _, rfl⟩, _⟩ := h
    exact hd.len
  · obtain ⟨ds, d, hd, ⟨ks, rfl, ok, rfl⟩, k⟩ := h
    obtain ⟨v, rfl, hv⟩ := dpa1 hd
    refine ⟨_, (pss_cons (ps_if (PW.pt (pw_or (pt_not (pt_val (pe_callB call_isi rfl (n_isinstance W) boot_isinstance (pa_cons (pv 0) (pa_cons (pe_tyN rfl (n_tuple W) boot_tuple) pa_nil))))) (pw_or1 (pt_not (pt_chain op_le op_le pe_int (pe_callB call_len_seq rfl (n_len W) boot_len (pa_cons (pv 0) pa_nil)) (pe_glob (v := .int (4)) rfl (g_MOST_KINDS W) ⟨_, rfl⟩)))))) (pss_one ps_never) pss_nil)
    (pss_cons (ps_set (i := 1) sc_check_kinds.nd rfl (Or.inl rfl) (pe_lst pa_nil))
    (pss_one (ps_for PassesOwn.never rfl (pi_enumT rfl (n_enumerate W) (pa_cons (pv 0) pa_nil)) (pg_tup rfl (pgs_cons (pg_name (i := 2) sc_check_kinds.nd rfl (Or.inl rfl)) (pgs_cons (pg_name (i := 3) sc_check_kinds.nd rfl (Or.inl rfl)) pgs_nil)))
    (pss_cons (ps_if (PW.pt (pw_or (pt_not (pt_val (pe_call (ok_is_kind W) (hr.mono (by decide)) rfl (g_is_kind W) (F_is_kind _).kp (b_is_kind _) .nil pass0 (pa_cons (pv 3) pa_nil)))) (pw_or1 (pt_cmpR op_in_seq (pe_ix ix_tup (pv 3) pe_int (fun _ _ => rfl)) (pv 1) rfl)))) (pss_one ps_never) pss_nil)
    (pss_one (ps_expr (pe_bm PySem.F.plainAttrs_list PySem.F.slot_list_append PySem.F.type_list_append mt_append (pv 1) (pa_cons (pe_ix ix_tup (pv 3) pe_int (fun _ _ => rfl)) pa_nil))))))))), ?_⟩
    refine q_when (b := false) (et_is (et_or (et_not (et_B (ev_isTp (ed_var rfl hv)))) fun _ => et_not (et_test (ev_chainI ev_c (ev_lenTD (ed_var rfl hv)) ev_c))) ?_) (fun z => by cases z) fun _ H1 e1 => ?_
    · rw [List.length_map, decide_eq_true (by have := ok.lo; omega : (1 : Int) ≤ (ks.length : Int)), decide_eq_true (by have := ok.hi; omega : (ks.length : Int) ≤ 4)] <;> rfl
    refine q_asgL (el_lst ea_nil (by decide)) fun l H2 hl e2 hl2 => ?_
    refine s_forEnX (ed_var rfl ((hv.ex e1).ex e2)) (imm_ksD ks) (fun i σ' H' => Ex H1 H' ∧ H' l = some (.lst (((ks.take i).map (·.1)).map V.str)) ∧ ∃ p q, σ' = [some v, some (.ref l), p, q])
      (fun i σ' H' H'' e p => ⟨p.1.trans e, e _ _ p.2.1, p.2.2⟩) ⟨e2, hl2, _, _, rfl⟩ (fun H0 e0 i d x σ' H' hi tx hdx p => ?_) (fun σ' H' p => k _ H' (e1.trans p.1) .non)
    obtain ⟨e3, hl3, p, q, rfl⟩ := p
    rw [List.getElem?_map, Option.map_eq_some_iff] at hi
    obtain ⟨kk, hk1, rfl⟩ := hi
    have hmem := List.mem_of_getElem? hk1
    have hnot : kk.1 ∉ (ks.take i).map (·.1) := by
      rw [List.map_take]
      exact nodup_notin ok.nd (by rw [List.getElem?_map, hk1] <;> rfl)
    refine q_when (b := false) (et_is (et_or (et_not (et_B (ev_bool (ed_call (ea_consD (ed_var rfl hdx) ea_nilD) ⟨kk, rfl, ok.nm _ hmem, ok.g _ hmem, rfl⟩)))) fun _ => et_test (ev_op (ev_str (ed_ixTD (i := 0) (ed_var rfl hdx) (fun _ _ => ev_c) rfl)) (ev_var rfl)
      (rv_isL (SqL.of hl3) rfl (flat_strs _)))) ?_) (fun z => by cases z) fun _ H4 e4 => ?_
    · rw [inV_strs, decide_eq_false hnot] <;> rfl
    · refine s_appD (e4 _ _ hl3) (ev_var rfl) (ed_ixTD (i := 0) (ed_var rfl (hdx.ex e4)) (fun _ _ => ev_c) rfl) (by rw [List.length_map, List.length_map, List.length_take]; have := ok.hi; omega) fun y H5 e5 hy => ?_
      obtain rfl := dp_str hy
      refine ⟨(tx.trans (Tx.of (e4.trans e5))).trans (Tx.lst (e5 _ _ (e4 _ _ hl3))), Ex.mut ((e3.trans e4).trans e5) hl, ?_, _, _, rfl⟩
      rw [upd_same, take_one hk1, List.map_append, List.map_append] <;> rfl
/-! ### check_templates -/
theorem sc_check_templates : FnScope ["kinds", "value", "names", "index", "template"] ["kinds", "value"] (defScope s_check_templates) := ⟨rfl, rfl, rfl, by decide +kernel, rfl, by decide +kernel, by decide +kernel⟩
structure OkTs (ks : List (Str × Int)) (ts : List Tmp) : Prop where
  lo : 1 ≤ ts.length
  hi : ts.length ≤ 8
  ok : ∀ t ∈ ts, OkT ks t
  nd : (ts.map (·.name)).Nodup
def m_check_templates : List PyData → PyData → Prop := fun ds d => ∃ ks ts, ds = [ksD ks, tsD ts] ∧ OkK ks ∧ OkTs ks ts ∧ d = .none
theorem ok_check_templates (W : Wd w.params mg) : Ok w mg base CX0 5 a_check_templates fd_check_templates ["kinds", "value"] (spM (Kw w) m_check_templates) := by
  refine (F_check_templates w.params).ok sc_check_templates (fun vs H Q E h => ?_) (fun cdv A outer s H vs Q E hr h => ?_)
  · obtain ⟨ds, d, hd, ⟨_, _, rfl, _, _, rfl⟩, _⟩ := h
    exact hd.len
  · obtain ⟨ds, d, hd, ⟨ks, ts, rfl, okk, ok, rfl⟩, k⟩ := h
    obtain ⟨u, v, rfl, hu, hv⟩ := dpa2 hd
    refine ⟨_, (pss_cons (ps_if (PW.pt (pw_or (pt_not (pt_val (pe_callB call_isi rfl (n_isinstance W) boot_isinstance (pa_cons (pv 1) (pa_cons (pe_tyN rfl (n_tuple W) boot_tuple) pa_nil))))) (pw_or1 (pt_not (pt_chain op_le op_le pe_int (pe_callB call_len_seq rfl (n_len W) boot_len (pa_cons (pv 1) pa_nil)) (pe_glob (v := .int (8)) rfl (g_MOST_TEMPLATES W) ⟨_, rfl⟩)))))) (pss_one ps_never) pss_nil)
    (pss_cons (ps_set (i := 2) sc_check_templates.nd rfl (Or.inl rfl) (pe_lst pa_nil))
    (pss_one (ps_for PassesOwn.never rfl (pi_enumT rfl (n_enumerate W) (pa_cons (pv 1) pa_nil)) (pg_tup rfl (pgs_cons (pg_name (i := 3) sc_check_templates.nd rfl (Or.inl rfl)) (pgs_cons (pg_name (i := 4) sc_check_templates.nd rfl (Or.inl rfl)) pgs_nil)))
    (pss_cons (ps_if (PW.pt (pw_or (pt_not (pt_val (pe_call (ok_is_template W) (hr.mono (by decide)) rfl (g_is_template W) (F_is_template _).kp (b_is_template _) .nil pass0 (pa_cons (pv 0) (pa_cons (pv 4) pa_nil))))) (pw_or1 (pt_cmpR op_in_seq (pe_ix ix_tup (pv 4) pe_int (fun _ _ => rfl)) (pv 2) rfl)))) (pss_one ps_never) pss_nil)
    (pss_one (ps_expr (pe_bm PySem.F.plainAttrs_list PySem.F.slot_list_append PySem.F.type_list_append mt_append (pv 2) (pa_cons (pe_ix ix_tup (pv 4) pe_int (fun _ _ => rfl)) pa_nil))))))))), ?_⟩
    refine q_when (b := false) (et_is (et_or (et_not (et_B (ev_isTp (ed_var rfl hv)))) fun _ => et_not (et_test (ev_chainI ev_c (ev_lenTD (ed_var rfl hv)) ev_c))) ?_) (fun z => by cases z) fun _ H1 e1 => ?_
    · rw [List.length_map, decide_eq_true (by have := ok.lo; omega : (1 : Int) ≤ (ts.length : Int)), decide_eq_true (by have := ok.hi; omega : (ts.length : Int) ≤ 8)] <;> rfl
    refine q_asgL (el_lst ea_nil (by decide)) fun l H2 hl e2 hl2 => ?_
    refine s_forEnX (ed_var rfl ((hv.ex e1).ex e2)) (imm_tsD ts) (fun i σ' H' => Ex H1 H' ∧ H' l = some (.lst (((ts.take i).map (·.name)).map V.str)) ∧ ∃ p q, σ' = [some u, some v, some (.ref l), p, q])
      (fun i σ' H' H'' e p => ⟨p.1.trans e, e _ _ p.2.1, p.2.2⟩) ⟨e2, hl2, _, _, rfl⟩ (fun H0 e0 i d x σ' H' hi tx hdx p => ?_) (fun σ' H' p => k _ H' (e1.trans p.1) .non)
    obtain ⟨e3, hl3, p, q, rfl⟩ := p
    rw [List.getElem?_map, Option.map_eq_some_iff] at hi
    obtain ⟨kk, hk1, rfl⟩ := hi
    have hmem := List.mem_of_getElem? hk1
    have hnot : kk.name ∉ (ts.take i).map (·.name) := by
      rw [List.map_take]
      exact nodup_notin ok.nd (by rw [List.getElem?_map, hk1] <;> rfl)
    refine q_when (b := false) (et_is (et_or (et_not (et_B (ev_bool (ed_call (ea_consD (ed_var rfl (hu.ex (e1.trans e3))) (ea_consD (ed_var rfl hdx) ea_nilD)) ⟨ks, kk, rfl, ok.ok _ hmem, okk, rfl⟩)))) fun _ => et_test (ev_op (ev_str (ed_ixTD (i := 0) (ed_var rfl hdx) (fun _ _ => ev_c) rfl)) (ev_var rfl)
      (rv_isL (SqL.of hl3) rfl (flat_strs _)))) ?_) (fun z => by cases z) fun _ H4 e4 => ?_
    · rw [inV_strs, decide_eq_false hnot] <;> rfl
    · refine s_appD (e4 _ _ hl3) (ev_var rfl) (ed_ixTD (i := 0) (ed_var rfl (hdx.ex e4)) (fun _ _ => ev_c) rfl) (by rw [List.length_map, List.length_map, List.length_take]; have := ok.hi; omega) fun y H5 e5 hy => ?_
      obtain rfl := dp_str hy
      refine ⟨(tx.trans (Tx.of (e4.trans e5))).trans (Tx.lst (e5 _ _ (e4 _ _ hl3))), Ex.mut ((e3.trans e4).trans e5) hl, ?_, _, _, rfl⟩
      rw [upd_same, take_one hk1, List.map_append, List.map_append] <;> rfl
end
end K76
set_option maxHeartbeats 4000000
namespace K76
open PySem PySem.W PySem.Calls PyProof.Rows L2 Evl Ed
def fopen (f : List Str) (t : Tmp) : Bool := !decide (t.kind ∈ f) && t.slots.all fun s => decide (s.k ∈ f)
def fstep (f : List Str) (t : Tmp) : List Str := if fopen f t = true then f ++ [t.kind] else f
def fill (ts : List Tmp) : Nat → List Str
  | 0 => []
  | n + 1 => ts.foldl fstep (fill ts n)
def Filled (ks : List (Str × Int)) (ts : List Tmp) : Prop := ∀ k ∈ ks, k.1 ∈ fill ts ks.length
theorem fstep_yes {f : List Str} {t : Tmp} (h : fopen f t = true) : fstep f t = f ++ [t.kind] := if_pos h
theorem fstep_no {f : List Str} {t : Tmp} (h : fopen f t = false) : fstep f t = f := if_neg (by rw [h]; decide)
theorem fstep_len (f : List Str) (t : Tmp) : (fstep f t).length ≤ f.length + 1 := by
  unfold fstep
  split
  · rw [List.length_append] <;> exact Nat.le_refl _
  · exact Nat.le_succ _
theorem fold_len : ∀ (ts : List Tmp) (f : List Str), (ts.foldl fstep f).length ≤ f.length + ts.length
  | [], f => Nat.le_refl _
  | t :: ts, f => by
    have h1 := fold_len ts (fstep f t)
    have h2 := fstep_len f t
    rw [List.foldl_cons, List.length_cons]
    omega
theorem fill_len (ts : List Tmp) (h : ts.length ≤ 8) : ∀ n, (fill ts n).length ≤ 8 * n
  | 0 => Nat.le_refl _
  | n + 1 => by
    have h1 := fold_len ts (fill ts n)
    have h2 := fill_len ts h n
    show (ts.foldl fstep (fill ts n)).length ≤ _
    omega
section
variable {w : World} {mg : Str → Option Value} {base : Heap}
/-! ### check_filled -/
theorem sc_check_filled : FnScope ["kinds", "templates", "filled", "turn", "name", "kind", "pages", "links", "marks", "slots", "slot", "gates"] ["kinds", "templates"] (defScope s_check_filled) := ⟨rfl, rfl, rfl, by decide +kernel, rfl, by decide +kernel, by decide +kernel⟩
def m_check_filled : List PyData → PyData → Prop := fun ds d => ∃ ks ts, ds = [ksD ks, tsD ts] ∧ OkK ks ∧ OkTs ks ts ∧ Filled ks ts ∧ d = .none
theorem ok_check_filled (W : Wd w.params mg) : Ok w mg base CX0 1 a_check_filled fd_check_filled ["kinds", "templates"] (spM (Kw w) m_check_filled) := by
  refine (F_check_filled w.params).ok sc_check_filled (fun vs H Q E h => ?_) (fun cdv A outer s H vs Q E hr h => ?_)
  · obtain ⟨ds, d, hd, ⟨_, _, rfl, _, _, _, rfl⟩, _⟩ := h
    exact hd.len
  · obtain ⟨ds, d, hd, ⟨ks, ts, rfl, okk, ok, hfil, rfl⟩, k⟩ := h
    obtain ⟨u, v, rfl, hu, hv⟩ := dpa2 hd
    refine ⟨_, (pss_cons (ps_set (i := 2) sc_check_filled.nd rfl (Or.inr rfl) (pe_lst pa_nil))
    (pss_cons (ps_for PassesOwn.never rfl (pi_range1 rfl (n_range W) (pa_cons (pe_callB call_len_seq rfl (n_len W) boot_len (pa_cons (pv 0) pa_nil)) pa_nil)) (pg_name (i := 3) sc_check_filled.nd rfl (Or.inl rfl))
    (pss_one (ps_for PassesOwn.never rfl (pi_tup (pv 1)) (pg_tup rfl (pgs_cons (pg_name (i := 4) sc_check_filled.nd rfl (Or.inl rfl)) (pgs_cons (pg_name (i := 5) sc_check_filled.nd rfl (Or.inl rfl)) (pgs_cons (pg_name (i := 6) sc_check_filled.nd rfl (Or.inl rfl)) (pgs_cons (pg_name (i := 7) sc_check_filled.nd rfl (Or.inl rfl)) (pgs_cons (pg_name (i := 8) sc_check_filled.nd rfl (Or.inl rfl)) (pgs_cons (pg_name (i := 9) sc_check_filled.nd rfl (Or.inl rfl)) pgs_nil)))))))
    (pss_one (ps_if (PW.pt (pw_and (pt_cmpR op_notIn_seq (pv 5) (pv 2) rfl) (pw_and1 (pt_val (pe_callB (cr_all rfl) rfl (n_all W) boot_all (pa_cons (pe_lc (own := [("slot", 10)]) (g := gName 10) (tt := tYes) rfl sc_check_filled.nd (pi_tup (pv 9)) (blkOk_by (own := [("slot", 10)]) (N := ["kinds", "templates", "filled", "turn", "name", "kind", "pages", "links", "marks", "slots", "slot", "gates"]) (sc := defScope s_check_filled) (by decide +kernel)) (fun _ _ _ _ _ => (pg_name (i := 10) sc_check_filled.nd rfl (Or.inl rfl))) (fun _ _ _ _ _ => pts_nil) (fun _ _ _ _ _ => (pe_cmpR (op_in_seqK (K := Kw w) rfl) (pe_ix (ix_tupK (K := Kw w) rfl) (pv 10) pe_int (fun _ _ => rfl)) (pv 2) rfl))) pa_nil)))))) (pss_one (ps_expr (pe_bm PySem.F.plainAttrs_list PySem.F.slot_list_append PySem.F.type_list_append mt_append (pv 2) (pa_cons (pv 5) pa_nil)))) pss_nil)))))
    (pss_one (ps_for PassesOwn.never rfl (pi_tup (pv 0)) (pg_tup rfl (pgs_cons (pg_name (i := 4) sc_check_filled.nd rfl (Or.inl rfl)) (pgs_cons (pg_name (i := 11) sc_check_filled.nd rfl (Or.inl rfl)) pgs_nil)))
    (pss_one (ps_if (pt_cmpR op_notIn_seq (pv 4) (pv 2) rfl) (pss_one ps_never) pss_nil)))))), ?_⟩
    refine q_asgL (el_lst ea_nil (by decide)) fun l H1 hl e1 hl1 => ?_
    refine q_forR1 (n := (ks.length : Int)) (ea_cons (by have h := ev_lenTD (ed_var (σ := [some u, some v, some (.ref l), none, none, none, none, none, none, none, none, none]) (i := 0) rfl (hu.ex e1)); rw [List.length_map] at h; exact h) ea_nil) (by have := okk.hi; omega)
      (fun i σ' H' => Ex H H' ∧ H' l = some (.lst ((fill ts i).map V.str)) ∧ ∃ q3 q4 q5 q6 q7 q8 q9 q10 q11, σ' = [some u, some v, some (.ref l), q3, q4, q5, q6, q7, q8, q9, q10, q11]) (fun H2 e2 => ⟨e1.trans e2, e2 _ _ hl1, _, _, _, _, _, _, _, _, _, rfl⟩)
      (fun i σ' H' hi p => ?_) (fun σ' H' p => ?_)
    · obtain ⟨e2, hl2, q3, q4, q5, q6, q7, q8, q9, q10, q11, rfl⟩ := p
      refine s_forTX (ed_var rfl (hv.ex e2)) (imm_tsD ts) (fun j σ' H' => Ex H H' ∧ H' l = some (.lst (((ts.take j).foldl fstep (fill ts i)).map V.str)) ∧ ∃ q3 q4 q5 q6 q7 q8 q9 q10 q11, σ' = [some u, some v, some (.ref l), q3, q4, q5, q6, q7, q8, q9, q10, q11])
        (fun H3 e3 => ⟨e2.trans e3, e3 _ _ hl2, _, _, _, _, _, _, _, _, _, rfl⟩) (fun H0 e0 j d x σ' H' hj tx hdx p => ?_) (fun σ' H' p => ?_)
      · obtain ⟨e3, hl3, q3, q4, q5, q6, q7, q8, q9, q10, q11, rfl⟩ := p
        rw [List.getElem?_map, Option.map_eq_some_iff] at hj
        obtain ⟨t, ht1, rfl⟩ := hj
        have hdx0 := hdx
        obtain ⟨a, xs, rfl, hs, hx⟩ := dp_tup hdx
        obtain ⟨v1, v2, v3, v4, v5, v6, rfl, d1, d2, d3, d4, d5, d6⟩ := dpa6 hx
        obtain rfl := dp_str d2
        refine g_tup hs rfl (g_cons (g_cons (g_cons (g_cons (g_cons (g_cons (g_nil ?_)))))))
        have hstep : (ts.take (j + 1)).foldl fstep (fill ts i) = fstep ((ts.take j).foldl fstep (fill ts i)) t := by
          rw [take_one ht1, List.foldl_append] <;> rfl
        refine s_when (b := fopen ((ts.take j).foldl fstep (fill ts i)) t) (et_is (et_and (et_test (ev_op (ev_var rfl) (ev_var rfl) (rv_niL (SqL.of hl3) rfl (flat_strs _)))) fun _ => et_B (ev_allF (fun s => decide (s.k ∈ (ts.take j).foldl fstep (fill ts i))) (ed_var rfl d6)
          (by have := (ok.ok t (List.mem_of_getElem? ht1)).ns; omega) (fun _ => rfl) fun sl hsl x H4 e4 hx4 => ?_)) ?_) (fun hb H4 e4 => ?_) (fun hb H4 e4 => ?_)
        · refine ed_to (ed_bool (ev_op (ev_str (ed_ixTD (i := 0) (ed_var rfl hx4) (fun _ _ => ev_c) rfl)) (ev_var rfl) (rv_isL (SqL.of (e4 _ _ hl3)) rfl (flat_strs _)))) ?_
          rw [inV_strs]
        · rw [inV_strs] <;> rfl
        · refine s_app (e4 _ _ hl3) (ev_var rfl) (ev_var rfl) ?_ fun H5 e5 => ?_
          · rw [List.length_map]
            have h1 := fold_len (ts.take j) (fill ts i)
            have h2 := fill_len ts ok.hi i
            have h3 : (ts.take j).length ≤ 8 := Nat.le_trans (List.length_take_le' ..) ok.hi
            have h4 := okk.hi
            omega
          · refine ⟨(tx.trans (Tx.of (e4.trans e5))).trans (Tx.lst (e5 _ _ (e4 _ _ hl3))), Ex.mut ((e3.trans e4).trans e5) hl, ?_, _, _, _, _, _, _, _, _, _, rfl⟩
            rw [upd_same, hstep, fstep_yes hb, List.map_append] <;> rfl
        · refine ⟨tx.trans (Tx.of e4), e3.trans e4, ?_, _, _, _, _, _, _, _, _, _, rfl⟩
          rw [e4 _ _ hl3, hstep, fstep_no hb]
      · obtain ⟨e3, hl3, q⟩ := p
        rw [List.length_map, List.take_length] at hl3
        exact ⟨e3, hl3, q⟩
    · obtain ⟨e2, hl2, q3, q4, q5, q6, q7, q8, q9, q10, q11, rfl⟩ := p
      refine s_forTX (ed_var rfl (hu.ex e2)) (imm_ksD ks) (fun j σ' H' => Ex H H' ∧ H' l = some (.lst ((fill ts ks.length).map V.str)) ∧ ∃ q3 q4 q5 q6 q7 q8 q9 q10 q11, σ' = [some u, some v, some (.ref l), q3, q4, q5, q6, q7, q8, q9, q10, q11])
        (fun H3 e3 => ⟨e2.trans e3, e3 _ _ hl2, _, _, _, _, _, _, _, _, _, rfl⟩) (fun H0 e0 j d x σ' H' hj tx hdx p => ?_) (fun σ' H' p => k _ H' p.1 .non)
      obtain ⟨e3, hl3, q3, q4, q5, q6, q7, q8, q9, q10, q11, rfl⟩ := p
      rw [List.getElem?_map, Option.map_eq_some_iff] at hj
      obtain ⟨kk, hk1, rfl⟩ := hj
      obtain ⟨b, ys, rfl, hs2, hy⟩ := dp_tup hdx
      obtain ⟨n, g, rfl, hn, hgg⟩ := dpa2 hy
      obtain rfl := dp_str hn
      refine g_tup hs2 rfl (g_cons (g_cons (g_nil ?_)))
      refine s_when (b := false) (et_is (et_test (ev_op (ev_var rfl) (ev_var rfl) (rv_niL (SqL.of hl3) rfl (flat_strs _)))) ?_) (fun z => by cases z) fun _ H4 e4 => ?_
      · rw [inV_strs, decide_eq_true (hfil kk (List.mem_of_getElem? hk1))] <;> rfl
      · exact ⟨tx.trans (Tx.of e4), e3.trans e4, e4 _ _ hl3, _, _, _, _, _, _, _, _, _, rfl⟩
end
end K76
set_option maxHeartbeats 4000000
namespace K76
open PySem PySem.W PySem.Calls PyProof.Rows L2 Evl Ed
/-- a small int as a text -/
def iT (i : Int) : Str := toString i
theorem iT_len {i : Int} (h0 : 0 ≤ i) (h1 : i ≤ 9) : (iT i).length ≤ 1 := by
  have : ∀ n : Nat, n < 10 → (iT (n : Int)).length ≤ 1 := by decide +kernel
  have h2 := this i.toNat (by omega)
  rwa [show ((i.toNat : Nat) : Int) = i by omega] at h2
theorem log_small {i : Int} (h0 : 0 ≤ i) (h1 : i ≤ 9) : i.natAbs.log2 < 1920 := by
  have : ∀ n : Nat, n < 10 → n.log2 < 1920 := by decide +kernel
  exact this _ (by omega)
def kL (k : Str × Int) : Str := fstr ["kind ", k.1, " ", iT k.2]
def tL (t : Tmp) : Str := fstr ["template ", t.name, " ", t.kind, " ", iT t.pages]
def lL (l : Lnk) : Str := fstr ["link ", iT l.a, " ", iT l.b, " ", l.w]
def mL (m : Mrk) : Str := fstr ["mark ", iT m.p, " ", m.w]
def sL (s : Slt) : Str := Txt.join " " (([("slot" : Str), s.k] : List Str) ++ s.sp.map iT)
def bL (ts : List Tmp) : List Str := ts.flatMap fun t => [tL t] ++ t.links.map lL ++ t.marks.map mL ++ t.slots.map sL
theorem gates_bd {ks : List (Str × Int)} (okk : OkK ks) {x : Str} {g : Int} (h : gatesOf ks x = some g) : Nm x ∧ 1 ≤ g ∧ g ≤ 3 := ⟨okk.nm _ (gates_in h), okk.g _ (gates_in h)⟩
theorem len5 {a b c d : Str} : (([a, b, c, d] : List Str).map (·.length)).sum = a.length + (b.length + (c.length + (d.length + 0))) := rfl
theorem kL_len {k : Str × Int} (h : Nm k.1) (h1 : 1 ≤ k.2 ∧ k.2 ≤ 3) : (([("kind " : Str), k.1, " ", iT k.2] : List Str).map (·.length)).sum ≤ 60 := by
  have h2 := iT_len (i := k.2) (by omega) (by omega)
  have h3 : k.1.length ≤ 8 := h.hi
  show 5 + (k.1.length + (1 + ((iT k.2).length + 0))) ≤ 60
  omega
theorem tL_len {t : Tmp} (h : Nm t.name) (h' : Nm t.kind) (h1 : 0 ≤ t.pages ∧ t.pages ≤ 5) : (([("template " : Str), t.name, " ", t.kind, " ", iT t.pages] : List Str).map (·.length)).sum ≤ 60 := by
  have h2 := iT_len (i := t.pages) (by omega) (by omega)
  have h3 : t.name.length ≤ 8 := h.hi
  have h4 : t.kind.length ≤ 8 := h'.hi
  show 9 + (t.name.length + (1 + (t.kind.length + (1 + ((iT t.pages).length + 0))))) ≤ 60
  omega
theorem lL_len {p : Int} (hp : p ≤ 5) {l : Lnk} (h : OkL p l) : (([("link " : Str), iT l.a, " ", iT l.b, " ", l.w] : List Str).map (·.length)).sum ≤ 60 := by
  obtain ⟨⟨a1, a2⟩, ⟨b1, b2⟩, hn⟩ := h
  have h2 := iT_len (i := l.a) (by omega) (by omega)
  have h3 := iT_len (i := l.b) (by omega) (by omega)
  have h4 : l.w.length ≤ 8 := hn.hi
  show 5 + ((iT l.a).length + (1 + ((iT l.b).length + (1 + (l.w.length + 0))))) ≤ 60
  omega
theorem mL_len {g p : Int} (hg : 0 ≤ g) (hp : p ≤ 5) {l : Mrk} (h : OkM g p l) : (([("mark " : Str), iT l.p, " ", l.w] : List Str).map (·.length)).sum ≤ 60 := by
  obtain ⟨⟨a1, a2⟩, hn⟩ := h
  have h2 := iT_len (i := l.p) (by omega) (by omega)
  have h4 : l.w.length ≤ 8 := hn.hi
  show 5 + ((iT l.p).length + (1 + (l.w.length + 0))) ≤ 60
  omega
theorem sL_sum {p : Int} (hp : p ≤ 5) {ks : List (Str × Int)} (okk : OkK ks) {s : Slt} (h : OkS ks p s) : ((([("slot" : Str), s.k] : List Str) ++ s.sp.map iT).map (·.length)).sum + (([("slot" : Str), s.k] : List Str) ++ s.sp.map iT).length * (" " : Str).length ≤ 60 := by
  obtain ⟨g, hg, hl, hs, _⟩ := h
  obtain ⟨hn, g1, g3⟩ := gates_bd okk hg
  have h4 : s.k.length ≤ 8 := hn.hi
  have h5 : ((s.sp.map iT).map (·.length)).sum ≤ 3 * 1 := by
    refine Nat.le_trans (sum_le (b := 1) fun x hx => ?_) ?_
    · obtain ⟨y, hy, rfl⟩ := List.mem_map.mp hx
      obtain ⟨z, hz, rfl⟩ := List.mem_map.mp hy
      obtain ⟨z1, z2⟩ := hs z hz
      exact iT_len z1 (by omega)
    · rw [List.length_map, List.length_map]
      omega
  rw [List.map_append, List.sum_append, List.length_append, List.length_map]
  show (4 + (s.k.length + 0)) + ((s.sp.map iT).map (·.length)).sum + (2 + s.sp.length) * 1 ≤ 60
  omega
theorem bL_len {ks : List (Str × Int)} (okk : OkK ks) {t : Tmp} (ok : OkT ks t) : ∀ x ∈ [tL t] ++ t.links.map lL ++ t.marks.map mL ++ t.slots.map sL, x.length ≤ 60 := fun x hx => by
  obtain ⟨g, hg, hgp, hms⟩ := ok.g
  obtain ⟨hn, g1, g3⟩ := gates_bd okk hg
  have hp := ok.pg
  simp only [List.mem_append, List.mem_singleton, List.mem_map] at hx
  rcases hx with ((rfl | ⟨l, hl, rfl⟩) | ⟨m, hm, rfl⟩) | ⟨s, hs, rfl⟩
  · unfold tL
    rw [fstr_len]
    exact tL_len ok.nm hn (by omega)
  · unfold lL
    rw [fstr_len]
    exact lL_len hp (ok.ls l hl)
  · unfold mL
    rw [fstr_len]
    exact mL_len (by omega) hp (hms m hm)
  · exact Nat.le_trans (txt_join_len _ _) (sL_sum hp okk (ok.ss s hs))
theorem bL_cons (t : Tmp) (ts : List Tmp) : bL (t :: ts) = ([tL t] ++ t.links.map lL ++ t.marks.map mL ++ t.slots.map sL) ++ bL ts := rfl
theorem bL_app (ts us : List Tmp) : bL (ts ++ us) = bL ts ++ bL us := List.flatMap_append
theorem bL_one (t : Tmp) : bL [t] = [tL t] ++ t.links.map lL ++ t.marks.map mL ++ t.slots.map sL := by
  rw [bL_cons]
  exact List.append_nil _
theorem bL_count {ks : List (Str × Int)} : ∀ {ts : List Tmp}, (∀ t ∈ ts, OkT ks t) → (bL ts).length ≤ ts.length * 11
  | [], _ => Nat.le_refl _
  | t :: ts, h => by
    have h1 := bL_count (ts := ts) fun u hu => h u (by simp [hu])
    have ok := h t (by simp)
    have h2 := ok.nl
    have h3 := ok.nk
    have h4 := ok.ns
    rw [bL_cons, List.length_append, List.length_append, List.length_append, List.length_append, List.length_map, List.length_map, List.length_map, List.length_cons, List.length_cons]
    simp only [List.length_nil]
    omega
theorem bL_all {ks : List (Str × Int)} (okk : OkK ks) : ∀ {ts : List Tmp}, (∀ t ∈ ts, OkT ks t) → ∀ x ∈ bL ts, x.length ≤ 60
  | [], _, x, hx => by cases hx
  | t :: ts, h, x, hx => by
    rw [bL_cons] at hx
    rcases List.mem_append.mp hx with hx | hx
    · exact bL_len okk (h t (by simp)) x hx
    · exact bL_all okk (fun u hu => h u (by simp [hu])) x hx
theorem imm_strs {α : Type} (f : α → Str) (l : List α) : immAll (l.map fun a => PyData.str (f a)) = true := immAll_map (fun _ => rfl) l
section
variable {w : World} {mg : Str → Option Value} {base : Heap}
/-! ### book_text -/
theorem sc_book_text : FnScope ["kinds", "templates", "name", "gates", "lines", "kind", "pages", "links", "marks", "slots", "lower", "upper", "word", "page", "below", "spots"] ["kinds", "templates"] (defScope s_book_text) := ⟨rfl, rfl, rfl, by decide +kernel, rfl, by decide +kernel, by decide +kernel⟩
def m_book_text : List PyData → PyData → Prop := fun ds d => ∃ ks ts, ds = [ksD ks, tsD ts] ∧ OkK ks ∧ OkTs ks ts ∧ d = .str (Txt.join "\n" (ks.map kL ++ bL ts))
theorem ok_book_text (W : Wd w.params mg) : Ok w mg base CX0 1 a_book_text fd_book_text ["kinds", "templates"] (spM (Kw w) m_book_text) := by
  refine (F_book_text w.params).ok sc_book_text (fun vs H Q E h => ?_) (fun cdv A outer s H vs Q E hr h => ?_)
  · obtain ⟨ds, d, hd, ⟨_, _, rfl, _, _, rfl⟩, _⟩ := h
    exact hd.len
  · obtain ⟨ds, d, hd, ⟨ks, ts, rfl, okk, ok, rfl⟩, k⟩ := h
    obtain ⟨u, v, rfl, hu, hv⟩ := dpa2 hd
    refine ⟨_, (pss_cons (ps_setLc (i := 4) (own := [("name", 2), ("gates", 3)]) (g := gTup (Kw w) 2 (gCons (gName 2) (gCons (gName 3) gNil))) (tt := tYes) rfl sc_book_text.nd rfl rfl (sw_true rfl rfl rfl (by decide +kernel)) (pi_tup (pv 0)) (blkOk_by (own := [("name", 2), ("gates", 3)]) (N := ["kinds", "templates", "name", "gates", "lines", "kind", "pages", "links", "marks", "slots", "lower", "upper", "word", "page", "below", "spots"]) (sc := defScope s_book_text) (by decide +kernel)) (fun _ _ _ _ _ => (pg_tupK (K := Kw w) (n := 2) rfl rfl (pgs_cons (pg_name (i := 2) sc_book_text.nd rfl (Or.inl rfl)) (pgs_cons (pg_name (i := 3) sc_book_text.nd rfl (Or.inl rfl)) pgs_nil)))) (fun _ _ _ _ _ => pts_nil) (fun _ _ _ _ _ => (pe_joined (.cons pe_str (.cons (pe_fmt (pv 2)) (.cons pe_str (.cons (pe_fmt (pv 3)) .nil)))))))
    (pss_cons (ps_for PassesOwn.never rfl (pi_tup (pv 1)) (pg_tup rfl (pgs_cons (pg_name (i := 2) sc_book_text.nd rfl (Or.inl rfl)) (pgs_cons (pg_name (i := 5) sc_book_text.nd rfl (Or.inl rfl)) (pgs_cons (pg_name (i := 6) sc_book_text.nd rfl (Or.inl rfl)) (pgs_cons (pg_name (i := 7) sc_book_text.nd rfl (Or.inl rfl)) (pgs_cons (pg_name (i := 8) sc_book_text.nd rfl (Or.inl rfl)) (pgs_cons (pg_name (i := 9) sc_book_text.nd rfl (Or.inl rfl)) pgs_nil)))))))
    (pss_cons (ps_expr (pe_bm PySem.F.plainAttrs_list PySem.F.slot_list_append PySem.F.type_list_append mt_append (pv 4) (pa_cons (pe_joined (.cons pe_str (.cons (pe_fmt (pv 2)) (.cons pe_str (.cons (pe_fmt (pv 5)) (.cons pe_str (.cons (pe_fmt (pv 6)) .nil))))))) pa_nil)))
    (pss_cons (ps_expr (pe_bm PySem.F.plainAttrs_list PySem.F.slot_list_extend PySem.F.type_list_extend mt_extend (pv 4) (pa_cons (pe_lc (own := [("lower", 10), ("upper", 11), ("word", 12)]) (g := gTup (Kw w) 3 (gCons (gName 10) (gCons (gName 11) (gCons (gName 12) gNil)))) (tt := tYes) rfl sc_book_text.nd (pi_tup (pv 7)) (blkOk_by (own := [("lower", 10), ("upper", 11), ("word", 12)]) (N := ["kinds", "templates", "name", "gates", "lines", "kind", "pages", "links", "marks", "slots", "lower", "upper", "word", "page", "below", "spots"]) (sc := defScope s_book_text) (by decide +kernel)) (fun _ _ _ _ _ => (pg_tupK (K := Kw w) (n := 3) rfl rfl (pgs_cons (pg_name (i := 10) sc_book_text.nd rfl (Or.inl rfl)) (pgs_cons (pg_name (i := 11) sc_book_text.nd rfl (Or.inl rfl)) (pgs_cons (pg_name (i := 12) sc_book_text.nd rfl (Or.inl rfl)) pgs_nil))))) (fun _ _ _ _ _ => pts_nil) (fun _ _ _ _ _ => (pe_joined (.cons pe_str (.cons (pe_fmt (pv 10)) (.cons pe_str (.cons (pe_fmt (pv 11)) (.cons pe_str (.cons (pe_fmt (pv 12)) .nil))))))))) pa_nil)))
    (pss_cons (ps_expr (pe_bm PySem.F.plainAttrs_list PySem.F.slot_list_extend PySem.F.type_list_extend mt_extend (pv 4) (pa_cons (pe_lc (own := [("page", 13), ("word", 12)]) (g := gTup (Kw w) 2 (gCons (gName 13) (gCons (gName 12) gNil))) (tt := tYes) rfl sc_book_text.nd (pi_tup (pv 8)) (blkOk_by (own := [("page", 13), ("word", 12)]) (N := ["kinds", "templates", "name", "gates", "lines", "kind", "pages", "links", "marks", "slots", "lower", "upper", "word", "page", "below", "spots"]) (sc := defScope s_book_text) (by decide +kernel)) (fun _ _ _ _ _ => (pg_tupK (K := Kw w) (n := 2) rfl rfl (pgs_cons (pg_name (i := 13) sc_book_text.nd rfl (Or.inl rfl)) (pgs_cons (pg_name (i := 12) sc_book_text.nd rfl (Or.inl rfl)) pgs_nil)))) (fun _ _ _ _ _ => pts_nil) (fun _ _ _ _ _ => (pe_joined (.cons pe_str (.cons (pe_fmt (pv 13)) (.cons pe_str (.cons (pe_fmt (pv 12)) .nil))))))) pa_nil)))
    (pss_one (ps_expr (pe_bm PySem.F.plainAttrs_list PySem.F.slot_list_extend PySem.F.type_list_extend mt_extend (pv 4) (pa_cons (pe_lc (own := [("below", 14), ("spots", 15)]) (g := gTup (Kw w) 2 (gCons (gName 14) (gCons (gName 15) gNil))) (tt := tYes) rfl sc_book_text.nd (pi_tup (pv 9)) (blkOk_by (own := [("below", 14), ("spots", 15)]) (N := ["kinds", "templates", "name", "gates", "lines", "kind", "pages", "links", "marks", "slots", "lower", "upper", "word", "page", "below", "spots"]) (sc := defScope s_book_text) (by decide +kernel)) (fun _ _ _ _ _ => (pg_tupK (K := Kw w) (n := 2) rfl rfl (pgs_cons (pg_name (i := 14) sc_book_text.nd rfl (Or.inl rfl)) (pgs_cons (pg_name (i := 15) sc_book_text.nd rfl (Or.inl rfl)) pgs_nil)))) (fun _ _ _ _ _ => pts_nil) (fun _ _ _ _ _ => (pe_joinK (K := Kw w) rfl pe_str (pe_op op_cat (pe_lst (pa_cons pe_str (pa_cons (pv 14) pa_nil))) (pe_lc (own := [("page", 13)]) (g := gName 13) (tt := tYes) rfl sc_book_text.nd (pi_tupK (K := Kw w) rfl (pv 15)) (blkOk_by (own := [("page", 13)]) (N := ["kinds", "templates", "name", "gates", "lines", "kind", "pages", "links", "marks", "slots", "lower", "upper", "word", "page", "below", "spots"]) (sc := { kind := ScopeKind.function, names := [(".0", NameKind.local), ("below", NameKind.local), ("spots", NameKind.local)], isGenerator := false, isCoroutine := false }) (by decide +kernel)) (fun _ _ _ _ _ => (pg_name (i := 13) sc_book_text.nd rfl (Or.inl rfl))) (fun _ _ _ _ _ => pts_nil) (fun _ _ _ _ _ => (pe_callTy call_str_int rfl (n_str W) boot_str (pa_cons (pv 13) pa_nil)))))))) pa_nil))))))))
    (pss_one (ps_ret (pe_join pe_str (pv 4)))))), ?_⟩
    have hk4 := okk.hi
    refine q_asgLD (ds := ks.map fun kk => .str (kL kk)) (eld_lcTG (gD := kD) (ed_var rfl hu) (by omega) (fun _ => rfl) fun kk hkk x H' e hx => ?_) fun l xs H1 hl e1 hl1 hd1 => ?_
    · obtain ⟨b, ys, rfl, hs2, hy⟩ := dp_tup hx
      obtain ⟨n, g, rfl, hn, hgg⟩ := dpa2 hy
      obtain rfl := dp_str hn
      obtain rfl := dp_int hgg
      obtain ⟨g1, g3⟩ := okk.g kk hkk
      have hnm := okk.nm kk hkk
      exact ⟨_, fun Q q => g_tup hs2 rfl (g_cons (g_cons (g_nil q))), rfl, ed_str (ev_joined (.cons ev_c (.cons (ev_fmtS (ev_var rfl) (by have := hnm.hi; show kk.1.cps.size ≤ 100000; omega)) (.cons ev_c (.cons (ev_fmtI (ev_var rfl) (log_small (by omega) (by omega))) .nil)))) (Nat.le_trans (kL_len hnm ⟨g1, g3⟩) (by decide)))⟩
    have hxs : xs = (ks.map kL).map V.str := dpAll_strs_of (by rw [List.map_map]; exact hd1)
    subst hxs
    refine q_forTX (ed_var rfl (hv.ex e1)) (imm_tsD ts) (fun i σ' H' => Ex H H' ∧ H' l = some (.lst ((ks.map kL ++ bL (ts.take i)).map V.str)) ∧ ∃ q2 q3 q5 q6 q7 q8 q9 q10 q11 q12 q13 q14 q15, σ' = [some u, some v, q2, q3, some (.ref l), q5, q6, q7, q8, q9, q10, q11, q12, q13, q14, q15])
      (fun H2 e2 => ⟨e1.trans e2, by rw [e2 _ _ hl1]; simp [bL], _, _, _, _, _, _, _, _, _, _, _, _, _, rfl⟩) (fun H0 e0 i d x σ' H' hi tx hdx p => ?_) (fun σ' H' p => ?_)
    · obtain ⟨e2, hl2, q2, q3, q5, q6, q7, q8, q9, q10, q11, q12, q13, q14, q15, rfl⟩ := p
      rw [List.getElem?_map, Option.map_eq_some_iff] at hi
      obtain ⟨t, ht1, rfl⟩ := hi
      have hmem := List.mem_of_getElem? ht1
      have okt := ok.ok t hmem
      obtain ⟨g, hg, hgp, hms⟩ := okt.g
      obtain ⟨hkn, g1, g3⟩ := gates_bd okk hg
      have hp5 := okt.pg
      have hnl := okt.nl
      have hnk := okt.nk
      have hns := okt.ns
      have h8 := ok.hi
      have hcnt : (ks.map kL ++ bL (ts.take i)).length ≤ 92 := by
        have h1 := bL_count (ks := ks) (ts := ts.take i) fun u hu => ok.ok u (List.mem_of_mem_take hu)
        rw [List.length_append, List.length_map]
        have h2 : (ts.take i).length ≤ ts.length := List.length_take_le' ..
        omega
      obtain ⟨a, xs, rfl, hs, hx⟩ := dp_tup hdx
      obtain ⟨v1, v2, v3, v4, v5, v6, rfl, d1, d2, d3, d4, d5, d6⟩ := dpa6 hx
      obtain rfl := dp_str d1
      obtain rfl := dp_str d2
      obtain rfl := dp_int d3
      refine g_tup hs rfl (g_cons (g_cons (g_cons (g_cons (g_cons (g_cons (g_nil ?_)))))))
      refine q_app hl2 (ev_var rfl) (ev_joined (.cons ev_c (.cons (ev_fmtS (ev_var rfl) (by have := okt.nm.hi; show t.name.cps.size ≤ 100000; omega)) (.cons ev_c (.cons (ev_fmtS (ev_var rfl) (by have := hkn.hi; show t.kind.cps.size ≤ 100000; omega)) (.cons ev_c
        (.cons (ev_fmtI (ev_var rfl) (log_small (by omega) (by omega))) .nil)))))) (Nat.le_trans (tL_len okt.nm hkn (by omega)) (by decide))) (by rw [List.length_map]; omega) fun H3 e3 => ?_
      have t3 : Tx H' (upd H3 l (.lst ((ks.map kL ++ bL (ts.take i)).map V.str ++ [V.str (tL t)]))) := (Tx.of e3).trans (Tx.lst (e3 _ _ hl2))
      have d43 := d4.tx (immAll_map imm_lD _) t3
      refine q_extD (ds := t.links.map fun l => .str (lL l)) upd_same (ev_var rfl) (eld_lcTG (gD := lD) (ed_var rfl d43) (by omega) (fun _ => rfl) fun n hn x H4 e4 hx4 => ?_) (by simp only [List.length_append, List.length_map, List.length_cons, List.length_nil] at hcnt ⊢; omega) fun vs4 H4 e4 hd4 => ?_
      · obtain ⟨b, ys, rfl, hs2, hy⟩ := dp_tup hx4
        obtain ⟨z1, z2, z3, rfl, hz1, hz2, hz3⟩ := dpa3 hy
        obtain rfl := dp_int hz1
        obtain rfl := dp_int hz2
        obtain rfl := dp_str hz3
        have okl := okt.ls n hn
        obtain ⟨⟨a1, a2⟩, ⟨b1, b2⟩, hnw⟩ := id okl
        exact ⟨_, fun Q q => g_tup hs2 rfl (g_cons (g_cons (g_cons (g_nil q)))), rfl, ed_str (ev_joined (.cons ev_c (.cons (ev_fmtI (ev_var rfl) (log_small (by omega) (by omega))) (.cons ev_c (.cons (ev_fmtI (ev_var rfl) (log_small (by omega) (by omega))) (.cons ev_c
          (.cons (ev_fmtS (ev_var rfl) (by have := hnw.hi; show n.w.cps.size ≤ 100000; omega)) .nil)))))) (Nat.le_trans (lL_len hp5 okl) (by decide)))⟩
      have hv4 : vs4 = (t.links.map lL).map V.str := dpAll_strs_of (by rw [List.map_map]; exact hd4)
      subst hv4
      have t4 := t3.trans ((Tx.of e4).trans (Tx.lst (u := .lst ((ks.map kL ++ bL (ts.take i)).map V.str ++ [V.str (tL t)] ++ (t.links.map lL).map V.str)) (e4 _ _ upd_same)))
      have d54 := d5.tx (immAll_map imm_mD _) t4
      refine q_extD (ds := t.marks.map fun l => .str (mL l)) upd_same (ev_var rfl) (eld_lcTG (gD := mD) (ed_var rfl d54) (by omega) (fun _ => rfl) fun n hn x H5 e5 hx5 => ?_) (by simp only [List.length_append, List.length_map, List.length_cons, List.length_nil] at hcnt ⊢; omega) fun vs5 H5 e5 hd5 => ?_
      · obtain ⟨b, ys, rfl, hs2, hy⟩ := dp_tup hx5
        obtain ⟨z1, z3, rfl, hz1, hz3⟩ := dpa2 hy
        obtain rfl := dp_int hz1
        obtain rfl := dp_str hz3
        have okm := hms n hn
        obtain ⟨⟨a1, a2⟩, hnw⟩ := id okm
        exact ⟨_, fun Q q => g_tup hs2 rfl (g_cons (g_cons (g_nil q))), rfl, ed_str (ev_joined (.cons ev_c (.cons (ev_fmtI (ev_var rfl) (log_small (by omega) (by omega))) (.cons ev_c
          (.cons (ev_fmtS (ev_var rfl) (by have := hnw.hi; show n.w.cps.size ≤ 100000; omega)) .nil)))) (Nat.le_trans (mL_len (by omega) hp5 okm) (by decide)))⟩
      have hv5 : vs5 = (t.marks.map mL).map V.str := dpAll_strs_of (by rw [List.map_map]; exact hd5)
      subst hv5
      have t5 := t4.trans ((Tx.of e5).trans (Tx.lst (u := .lst ((ks.map kL ++ bL (ts.take i)).map V.str ++ [V.str (tL t)] ++ (t.links.map lL).map V.str ++ (t.marks.map mL).map V.str)) (e5 _ _ upd_same)))
      have d65 := d6.tx (immAll_map imm_sD _) t5
      refine s_extD (ds := t.slots.map fun l => .str (sL l)) upd_same (ev_var rfl) (eld_lcTG (gD := sD) (ed_var rfl d65) (by omega) (fun _ => rfl) fun n hn x H6 e6 hx6 => ?_) (by simp only [List.length_append, List.length_map, List.length_cons, List.length_nil] at hcnt ⊢; omega) fun vs6 H6 e6 hd6 => ?_
      · obtain ⟨b, ys, rfl, hs2, hy⟩ := dp_tup hx6
        obtain ⟨z1, z3, rfl, hz1, hz3⟩ := dpa2 hy
        obtain rfl := dp_str hz1
        have oks := okt.ss n hn
        obtain ⟨g', hg', hgl, hsp, _⟩ := id oks
        obtain ⟨hnw, g1', g3'⟩ := gates_bd okk hg'
        refine ⟨_, fun Q q => g_tup hs2 rfl (g_cons (g_cons (g_nil q))), rfl, ed_str (ev_join (ys := [("slot" : Str), n.k] ++ n.sp.map iT) ev_c ?_ (Nat.le_trans (sL_sum hp5 okk oks) (by decide)))⟩
        rw [List.map_append, List.map_map]
        refine eld_cat (eld_lst (ea_consD (ed_str ev_c) (ea_consD (ed_str (ev_var rfl)) ea_nilD)) (by simp)) (eld_lcTN (gD := PyData.int) (ed_var rfl hz3) (by omega) (fun _ => rfl) (fun _ => rfl) fun p hp x H7 e7 hx7 => ?_) rfl (by simp; omega)
        obtain rfl := dp_int hx7
        obtain ⟨p1, p2⟩ := hsp p hp
        exact ed_str (ev_cb (ea_cons (ev_var rfl) ea_nil) fun H8 e8 Q q => ⟨p, rfl, log_small p1 (by omega), q H8 (Ex.refl H8)⟩)
      have hv6 : vs6 = (t.slots.map sL).map V.str := dpAll_strs_of (by rw [List.map_map]; exact hd6)
      subst hv6
      have hlm : Ex H (upd H6 l (.lst ((ks.map kL ++ bL (ts.take i)).map V.str ++ [V.str (tL t)] ++ (t.links.map lL).map V.str ++ (t.marks.map mL).map V.str ++ (t.slots.map sL).map V.str))) :=
        Ex.mut ((Ex.mut ((Ex.mut ((Ex.mut (e2.trans e3) hl).trans e4) hl).trans e5) hl).trans e6) hl
      refine ⟨(tx.trans t5).trans ((Tx.of e6).trans (Tx.lst (e6 _ _ upd_same))), hlm, ?_, _, _, _, _, _, _, _, _, _, _, _, _, _, rfl⟩
      rw [upd_same, take_one ht1, bL_app, bL_one]
      simp only [List.map_append, List.append_assoc] <;> rfl
    · obtain ⟨e2, hl2, q2, q3, q5, q6, q7, q8, q9, q10, q11, q12, q13, q14, q15, rfl⟩ := p
      rw [List.length_map, List.take_length] at hl2
      have hcnt : (bL ts).length ≤ 88 := Nat.le_trans (bL_count ok.ok) (by have := ok.hi; omega)
      have hall : ∀ x ∈ ks.map kL ++ bL ts, x.length ≤ 60 := fun x hx => by
        rcases List.mem_append.mp hx with hx | hx
        · obtain ⟨kk, hkk, rfl⟩ := List.mem_map.mp hx
          unfold kL
          rw [fstr_len]
          exact kL_len (okk.nm kk hkk) (okk.g kk hkk)
        · exact bL_all okk ok.ok x hx
      refine s_retD (ed_str (ev_joinV (ys := ks.map kL ++ bL ts) ev_c (ev_var rfl) (SqL.of hl2) ?_)) fun v H3 e3 => k v H3 (e2.trans e3)
      · have h1 := sum_le (l := (ks.map kL ++ bL ts).map (·.length)) (b := 60) fun x hx => by
          obtain ⟨y, hy, rfl⟩ := List.mem_map.mp hx
          exact hall y hy
        rw [List.length_map] at h1
        have h2 : (ks.map kL ++ bL ts).length ≤ 92 := by rw [List.length_append, List.length_map]; omega
        have h3 : (ks.map kL ++ bL ts).length * ("\n" : Str).length = (ks.map kL ++ bL ts).length * 1 := rfl
        rw [h3]
        omega
end
end K76
set_option maxHeartbeats 4000000
namespace K76
open PySem PySem.W PySem.Calls PyProof.Rows L2 Evl Ed
/-- a valid book -/
structure OkB (ks : List (Str × Int)) (ts : List Tmp) : Prop where
  k : OkK ks
  t : OkTs ks ts
  f : Filled ks ts
def fB (u v r n t : V) : List (Str × V) := [("kinds", u), ("templates", v), ("root", r), ("names", n), ("text", t)]
/-- a Book stands at x -/
def BookAt (K : PySem.W.Frag) (H : Hp) (x : Addr) (ks : List (Str × Int)) (ts : List Tmp) : Prop := ∃ dx u v r n t, H x = some (.ins 835 dx (fB u v r n t)) ∧ Dp K H u (ksD ks) ∧ Dp K H v (tsD ts) ∧ Dp K H n (.tuple (ts.map fun t => .str t.name))
theorem imm_names (ts : List Tmp) : immD (.tuple (ts.map fun t => PyData.str t.name)) = true := immAll_map (fun _ => rfl) ts
theorem BookAt.off {K : PySem.W.Frag} {H H' : Hp} {x : Addr} {ks : List (Str × Int)} {ts : List Tmp} (h : BookAt K H x ks ts) (hx : ∀ o, H x = some o → H' x = some o) (t : Tx H H') : BookAt K H' x ks ts := by
  obtain ⟨dx, u, v, r, n, tt, h1, h2, h3, h4⟩ := h
  exact ⟨dx, u, v, r, n, tt, hx _ h1, h2.tx (imm_ksD _) t, h3.tx (imm_tsD _) t, h4.tx (imm_names _) t⟩
theorem BookAt.ex {K : PySem.W.Frag} {H H' : Hp} {x : Addr} {ks : List (Str × Int)} {ts : List Tmp} (h : BookAt K H x ks ts) (e : Ex H H') : BookAt K H' x ks ts := h.off (fun o ho => e x o ho) (Tx.of e)
section
variable {w : World} {mg : Str → Option Value} {base : Heap}
/-! ### Book.__init__ -/
theorem sc_Book___init__ : FnScope ["self", "kinds", "templates", "template"] ["self", "kinds", "templates"] (defScope s_Book___init__) := ⟨rfl, rfl, rfl, by decide +kernel, rfl, by decide +kernel, by decide +kernel⟩
def spBookInit (K : PySem.W.Frag) : Sp := fun vs H Q _ => ∃ (x dx : Addr) (u v : V) (ks : List (Str × Int)) (ts : List Tmp), vs = [.ref x, u, v] ∧ H x = some (.ins 835 dx []) ∧ Dp K H u (ksD ks) ∧ Dp K H v (tsD ts) ∧ OkB ks ts ∧
  ∀ H', Off [x] H H' → BookAt K H' x ks ts → Q .non H'
theorem ok_Book___init__ (W : Wd w.params mg) : Ok w mg base CX0 6 a_Book___init__ fd_Book___init__ ["self", "kinds", "templates"] (spBookInit (Kw w)) := by
  refine (F_Book___init__ w.params).ok sc_Book___init__ (fun vs H Q E h => ?_) (fun cdv A outer s H vs Q E hr h => ?_)
  · obtain ⟨x, dx, u, v, ks, ts, rfl, _⟩ := h
    rfl
  · obtain ⟨x, dx, u, v, ks, ts, rfl, hx, hu, hv, ok, k⟩ := h
    refine ⟨_, (pss_cons (ps_expr (pe_call (ok_check_kinds W) (hr.mono (by decide)) rfl (g_check_kinds W) (F_check_kinds _).kp (b_check_kinds _) .nil pass0 (pa_cons (pv 1) pa_nil)))
    (pss_cons (ps_expr (pe_call (ok_check_templates W) (hr.mono (by decide)) rfl (g_check_templates W) (F_check_templates _).kp (b_check_templates _) .nil pass0 (pa_cons (pv 1) (pa_cons (pv 2) pa_nil))))
    (pss_cons (ps_expr (pe_call (ok_check_filled W) (hr.mono (by decide)) rfl (g_check_filled W) (F_check_filled _).kp (b_check_filled _) .nil pass0 (pa_cons (pv 1) (pa_cons (pv 2) pa_nil))))
    (pss_cons (ps_fld (pv 0) (pv 1) rfl)
    (pss_cons (ps_fld (pv 0) (pv 2) rfl)
    (pss_cons (ps_fld (pv 0) (pe_ix ix_tup (pe_ix ix_tup (pv 1) pe_int (fun _ _ => rfl)) pe_int (fun _ _ => rfl)) rfl)
    (pss_cons (ps_fld (pv 0) (pe_callTy call_tuple_of rfl (n_tuple W) boot_tuple (pa_cons (pe_lc (own := [("template", 3)]) (g := gName 3) (tt := tYes) rfl sc_Book___init__.nd (pi_tup (pv 2)) (blkOk_by (own := [("template", 3)]) (N := ["self", "kinds", "templates", "template"]) (sc := defScope s_Book___init__) (by decide +kernel)) (fun _ _ _ _ _ => (pg_name (i := 3) sc_Book___init__.nd rfl (Or.inl rfl))) (fun _ _ _ _ _ => pts_nil) (fun _ _ _ _ _ => (pe_ix (ix_tupK (K := Kw w) rfl) (pv 3) pe_int (fun _ _ => rfl)))) pa_nil)) rfl)
    (pss_one (ps_fld (pv 0) (pe_call (ok_book_text W) (hr.mono (by decide)) rfl (g_book_text W) (F_book_text _).kp (b_book_text _) .nil pass0 (pa_cons (pv 1) (pa_cons (pv 2) pa_nil))) rfl))))))))), ?_⟩
    refine q_dropD (ed_call (ea_consD (ed_var rfl hu) ea_nilD) ⟨ks, rfl, ok.k, rfl⟩) fun _ H1 e1 _ => ?_
    have hu1 := hu.ex e1
    have hv1 := hv.ex e1
    refine q_dropD (ed_call (ea_consD (ed_var rfl hu1) (ea_consD (ed_var rfl hv1) ea_nilD)) ⟨ks, ts, rfl, ok.k, ok.t, rfl⟩) fun _ H2 e2 _ => ?_
    have hu2 := hu1.ex e2
    have hv2 := hv1.ex e2
    refine q_dropD (ed_call (ea_consD (ed_var rfl hu2) (ea_consD (ed_var rfl hv2) ea_nilD)) ⟨ks, ts, rfl, ok.k, ok.t, ok.f, rfl⟩) fun _ H3 e3 _ => ?_
    have hu3 := hu2.ex e3
    have hv3 := hv2.ex e3
    have e03 := (e1.trans e2).trans e3
    refine q_fldD (ed_var rfl hu3) (ev_var rfl) (e03 _ _ hx) cls_Book na_Book_kinds (by decide) fun k1 H4 e4 hk1 hx4 => ?_
    have o4 : Off [x] H (upd H4 x (.ins 835 dx (putF "kinds" k1 []))) := (Off.of (e03.trans e4)).trans (Off.upd (by simp))
    have t4 : Tx H4 (upd H4 x (.ins 835 dx (putF "kinds" k1 []))) := Tx.ins hx4
    have hu4 := (hu3.ex e4).tx (imm_ksD ks) t4
    have hv4 := (hv3.ex e4).tx (imm_tsD ts) t4
    have hk4 := hk1.tx (imm_ksD ks) t4
    refine q_fldD (ed_var rfl hv4) (ev_var rfl) upd_same cls_Book na_Book_templates (show (1 : Nat) < 1000 by decide) fun k2 H5 e5 hk2 hx5 => ?_
    have o5 : Off [x] H (upd H5 x (.ins 835 dx (putF "templates" k2 (putF "kinds" k1 [])))) := (o4.trans (Off.of e5)).trans (Off.upd (by simp))
    have t5 : Tx H5 (upd H5 x (.ins 835 dx (putF "templates" k2 (putF "kinds" k1 [])))) := Tx.ins hx5
    have hu5 := (hu4.ex e5).tx (imm_ksD ks) t5
    have hv5 := (hv4.ex e5).tx (imm_tsD ts) t5
    have hk5 := (hk4.ex e5).tx (imm_ksD ks) t5
    have hs5 := hk2.tx (imm_tsD ts) t5
    obtain ⟨k0, ks', hks⟩ : ∃ k0 ks', ks = k0 :: ks' := by
      have := ok.k.lo
      match ks, this with
      | k0 :: ks', _ => exact ⟨k0, ks', rfl⟩
    refine q_fldD (d := .str k0.1) (ed_ixTD (i := 0) (ds := [.str k0.1, .int k0.2]) (ed_ixTD (i := 0) (ed_var rfl hu5) (fun _ _ => ev_c) (by rw [hks] <;> rfl)) (fun _ _ => ev_c) rfl) (ev_var rfl) upd_same cls_Book na_Book_root (show (2 : Nat) < 1000 by decide) fun k3 H6 e6 hk3 hx6 => ?_
    have o6 : Off [x] H (upd H6 x (.ins 835 dx (putF "root" k3 (putF "templates" k2 (putF "kinds" k1 []))))) := (o5.trans (Off.of e6)).trans (Off.upd (by simp))
    have t6 : Tx H6 (upd H6 x (.ins 835 dx (putF "root" k3 (putF "templates" k2 (putF "kinds" k1 []))))) := Tx.ins hx6
    have hu6 := (hu5.ex e6).tx (imm_ksD ks) t6
    have hv6 := (hv5.ex e6).tx (imm_tsD ts) t6
    have hk6 := (hk5.ex e6).tx (imm_ksD ks) t6
    have hs6 := (hs5.ex e6).tx (imm_tsD ts) t6
    refine q_fldD (ed_tupleOf (eld_lcTN (gD := tD) (eD := fun t => .str t.name) (ed_var rfl hv6) (by have := ok.t.hi; omega) (fun _ => rfl) (fun _ => rfl) fun t ht y H7 e7 hy => ed_ixTD (i := 0) (ed_var rfl hy) (fun _ _ => ev_c) rfl)) (ev_var rfl) upd_same cls_Book na_Book_names (show (3 : Nat) < 1000 by decide) fun k4 H7 e7 hk4' hx7 => ?_
    have o7 : Off [x] H (upd H7 x (.ins 835 dx (putF "names" k4 (putF "root" k3 (putF "templates" k2 (putF "kinds" k1 [])))))) := (o6.trans (Off.of e7)).trans (Off.upd (by simp))
    have t7 : Tx H7 (upd H7 x (.ins 835 dx (putF "names" k4 (putF "root" k3 (putF "templates" k2 (putF "kinds" k1 [])))))) := Tx.ins hx7
    have hu7 := (hu6.ex e7).tx (imm_ksD ks) t7
    have hv7 := (hv6.ex e7).tx (imm_tsD ts) t7
    have hk7 := (hk6.ex e7).tx (imm_ksD ks) t7
    have hs7 := (hs6.ex e7).tx (imm_tsD ts) t7
    have hn7 := hk4'.tx (imm_names ts) t7
    refine s_fldD (ed_call (ea_consD (ed_var rfl hu7) (ea_consD (ed_var rfl hv7) ea_nilD)) ⟨ks, ts, rfl, ok.k, ok.t, rfl⟩) (ev_var rfl) upd_same cls_Book na_Book_text (show (4 : Nat) < 1000 by decide) fun k5 H8 e8 hk5' hx8 => ?_
    have t8 : Tx H8 (upd H8 x (.ins 835 dx (putF "text" k5 (putF "names" k4 (putF "root" k3 (putF "templates" k2 (putF "kinds" k1 []))))))) := Tx.ins hx8
    refine k _ ((o7.trans (Off.of e8)).trans (Off.upd (by simp))) ⟨dx, k1, k2, k3, k4, k5, ?_, (hk7.ex e8).tx (imm_ksD ks) t8, (hs7.ex e8).tx (imm_tsD ts) t8, (hn7.ex e8).tx (imm_names ts) t8⟩
    exact upd_same
end
end K76
set_option maxHeartbeats 4000000
/-! OkN: defs whose exceptions bear no context. -/
namespace Ed
open PySem PySem.W PySem.Calls PySem.Spec PyProof.Rows L2
/-- a def whose exceptions bear no context -/
theorem _root_.L2.Fun.okXN {P : Program} {w : World} {K : PySem.W.Frag} {mg : Str → Option Value} {base : Heap} {x qual : Str} {st : Stmt} {f : Addr} {fd : FuncData} {N ps : List Str} {k : Nat} {sp : Sp} (F : Fun K x qual st f fd) (S : FnScope N ps (defScope st)) (len : ∀ vs H Q E, sp vs H Q E → vs.length = ps.length)
    (hbody : ∀ (cdv : Value) (A : Around) (outer : List Env) (s : Shared) (H : Hp) (vs : List V) (Q : VK) (E : XK), Room k (A.deeper (envOfC qual (defScope st) s.heap.objs.size f cdv)) → sp vs H Q E →
      ∃ t, PSs (cxOf (L2N.CX P w) P w K mg base N qual (defScope st) f cdv A outer s H E) (defBody st) t ∧ t { nx := fun _ H' => Q .non H', rt := Q } (start N vs) H) : FnOk P w K mg base (L2N.CX P w) (k + 1) f fd ps sp := by
  obtain ⟨oc, od, kV, doc, pm, an, cdv, ct, osl, rfl, lk, hcd⟩ := F.ex
  exact fn_of lk hcd S len fun A outer s H vs Q E hr hsp => hbody cdv A outer s H vs Q E hr hsp
/-- what came before a new object does not matter to what leaves -/
theorem cxUpN {P : Program} {w : World} : StX.CXUp (L2N.CX P w) := by
  rintro outer s H s2 H2 E e s' un kp ho ⟨a, B, H', cls, d, ea, fl, hok, ub, na, os, ag, he⟩
  refine ⟨a, B, H', cls, d, ea, fl, hok, ⟨fun b o q n hb => ub.keep b o (kp b o q) (un.free b o q n (by simp)) hb, fun b o q hb => ub.slot b o (kp b o q) hb, fun b o q n => ub.free b o (kp b o q) (un.free b o q n (by simp)),
    fun b o q hb => ub.there b o (kp b o q) hb, fun b xs q => ub.tups b xs (un.tups b xs q), fun b o xs q => ub.frzs b o xs (un.frzs b o xs q), fun b ps q => ?_⟩, na, os.trans ho, ag, he⟩
  obtain ⟨m1, h1⟩ := un.tbls b ps q
  obtain ⟨m2, h2⟩ := ub.tbls b _ h1
  exact ⟨m1 ++ m2, by rw [h2, Array.append_assoc]⟩
end Ed
set_option maxHeartbeats 4000000
namespace K76
open PySem PySem.W PySem.Calls PyProof.Rows L2 Evl Ed
abbrev OkX (w : World) (mg : Str → Option Value) (base : Heap) (k : Nat) (f : Addr) (fd : FuncData) (ps : List Str) (sp : Sp) : Prop := FnOk PR w (Kw w) mg base (L2N.CX PR w) k f fd ps sp
/-- raised: an exception of the class at C, its field f is v; the heap as by R -/
def Xc (R : Hp → Prop) (C : Addr) (f : Str) (v : V) (E : XK) : Prop := ∀ d H', R H' → H' d = some (.xd [(f, v)]) → E (.ref C) (some d) H'
section
variable {w : World} {mg : Str → Option Value} {base : Heap}
/-! ### Book.place -/
theorem sc_Book_place : FnScope ["self", "name", "spot", "own"] ["self", "name"] (defScope s_Book_place) := ⟨rfl, rfl, rfl, by decide +kernel, rfl, by decide +kernel, by decide +kernel⟩
def spPlace (K : PySem.W.Frag) : Sp := fun vs H Q E => ∃ (x : Addr) (ks : List (Str × Int)) (ts : List Tmp) (nm : Str), vs = [.ref x, .str nm] ∧ BookAt K H x ks ts ∧
  ((∃ i t, ts[i]? = some t ∧ t.name = nm ∧ (∀ (j : Nat) t', j < i → ts[j]? = some t' → t'.name ≠ nm) ∧ ∀ H', Ex H H' → Q (.int (i : Int)) H') ∨ ((∀ t ∈ ts, t.name ≠ nm) ∧ Xc (Ex H) 222 "value" (.str nm) E))
theorem ok_Book_place (W : Wd w.params mg) : OkX w mg base 3 a_Book_place fd_Book_place ["self", "name"] (spPlace (Kw w)) := by
  refine (F_Book_place w.params).okXN sc_Book_place (fun vs H Q E h => ?_) (fun cdv A outer s H vs Q E hr h => ?_)
  · obtain ⟨x, ks, ts, nm, rfl, _⟩ := h
    rfl
  · obtain ⟨x, ks, ts, nm, rfl, hb, k⟩ := h
    refine ⟨_, (pss_cons (ps_for (passes_of rfl) rfl (pi_enumT rfl (n_enumerate W) (pa_cons (pe_fld (pv 0) rfl) pa_nil)) (pg_tup rfl (pgs_cons (pg_name (i := 2) sc_Book_place.nd rfl (Or.inl rfl)) (pgs_cons (pg_name (i := 3) sc_Book_place.nd rfl (Or.inl rfl)) pgs_nil)))
    (pss_one (ps_if (PW.pt (pw_and (pt_val (pe_callB call_isi rfl (n_isinstance W) boot_isinstance (pa_cons (pv 1) (pa_cons (pe_tyN rfl (n_str W) boot_str) pa_nil)))) (pw_and1 (pt_cmpR op_eq (pv 3) (pv 1) (nomark _))))) (pss_one (ps_ret (pv 2))) pss_nil)))
    (pss_one (ps_raiseAN (k := 1) rfl (xt_UnknownTemplate W) (hr.mono (by decide)) (L2N.takes_of rfl rfl rfl rfl) (pa_cons (pv 1) pa_nil)))), ?_⟩
    obtain ⟨dx, u, v, r, n, t, hx, _, _, hn⟩ := hb
    refine q_forEnX (ed_fld (ev_var rfl) hx cls_Book na_Book_names rfl hn) (imm_names ts) (fun i σ' H' => Ex H H' ∧ (∃ p q, σ' = [some (.ref x), some (.str nm), p, q]) ∧ ∀ (j : Nat) t', j < i → ts[j]? = some t' → t'.name ≠ nm)
      (fun i σ' H' H'' e p => ⟨p.1.trans e, p.2⟩) ⟨Ex.refl H, ⟨_, _, rfl⟩, fun j t' hj => absurd hj (Nat.not_lt_zero j)⟩ (fun H0 e0 i d y σ' H' hi tx hd p => ?_) (fun σ' H' p => ?_)
    · obtain ⟨e1, ⟨p, q, rfl⟩, hno⟩ := p
      rw [List.getElem?_map, Option.map_eq_some_iff] at hi
      obtain ⟨t, ht, rfl⟩ := hi
      obtain rfl := dp_str hd
      refine s_when (b := decide (t.name = nm)) (et_is (et_and (et_B (ev_isS (ed_var rfl (.str nm)))) fun _ => et_test (ev_op (ev_var rfl) (ev_var rfl) (rv_eq rfl))) ?_) (fun hb H1 e2 => ?_) (fun hb H1 e2 => ?_)
      · show (true && decide (V.str t.name = V.str nm)) = _
        simp
      · refine s_ret (v := .int (i : Int)) (ev_var rfl) fun H2 e3 => ?_
        have htn : t.name = nm := of_decide_eq_true hb
        rcases k with ⟨i2, t2, h1, h2, h3, k⟩ | ⟨h1, _⟩
        · have hii : i2 = i := by
            rcases Nat.lt_trichotomy i2 i with c | c | c
            · exact absurd h2 (hno i2 t2 c h1)
            · exact c
            · exact absurd htn (h3 i t c ht)
          subst hii
          exact k H2 ((e1.trans e2).trans e3)
        · exact absurd htn (h1 t (List.mem_of_getElem? ht))
      · refine ⟨tx.trans (Tx.of e2), e1.trans e2, ⟨_, _, rfl⟩, fun j t' hj ht' => ?_⟩
        rcases Nat.lt_succ_iff_lt_or_eq.mp hj with c | c
        · exact hno j t' c ht'
        · subst c
          rw [ht] at ht'
          cases ht'
          exact of_decide_eq_false hb
    · obtain ⟨e1, ⟨p, q, rfl⟩, hno⟩ := p
      rw [List.length_map] at hno
      rcases k with ⟨i2, t2, h1, h2, h3, k⟩ | ⟨h1, k⟩
      · exact absurd h2 (hno i2 t2 (List.getElem?_eq_some_iff.mp h1).1 h1)
      · exact s_raiseA (ea_cons (ev_var rfl) ea_nil) fun d H1 e2 hd => k d H1 (e1.trans e2) hd
end
end K76
set_option maxHeartbeats 4000000
namespace K76
open PySem PySem.W PySem.Calls PyProof.Rows L2
section
variable {P : Params} {H : Hp} {a dx : Addr} {fs : List (Str × V)}
theorem ty_Book (h : H a = some (.ins 835 dx fs)) : TyX (K0 P) H (.ref a) (.ref 835) := .base (.ins h cls_Book (by kernel_rfl) (by kernel_rfl) (by kernel_rfl) (by kernel_rfl))
theorem ty_Workshop (h : H a = some (.ins 1440 dx fs)) : TyX (K0 P) H (.ref a) (.ref 1440) := .base (.ins h cls_Workshop (by kernel_rfl) (by kernel_rfl) (by kernel_rfl) (by kernel_rfl))
theorem ty_SiteWorkshop (h : H a = some (.ins 1504 dx fs)) : TyX (K0 P) H (.ref a) (.ref 1504) := .base (.ins h cls_SiteWorkshop (by kernel_rfl) (by kernel_rfl) (by kernel_rfl) (by kernel_rfl))
theorem kit_Book_Book : kitOne (K0 P) (.ref 835) (.ref 835) = some true := by kernel_rfl
theorem kit_Workshop_Book : kitOne (K0 P) (.ref 1440) (.ref 835) = some false := by kernel_rfl
theorem kit_SiteWorkshop_Book : kitOne (K0 P) (.ref 1504) (.ref 835) = some false := by kernel_rfl
theorem kit_none_Book : kitOne (K0 P) (.type "NoneType") (.ref 835) = some false := by kernel_rfl
theorem kit_bool_Book : kitOne (K0 P) (.type "bool") (.ref 835) = some false := by kernel_rfl
theorem kit_int_Book : kitOne (K0 P) (.type "int") (.ref 835) = some false := by kernel_rfl
theorem kit_str_Book : kitOne (K0 P) (.type "str") (.ref 835) = some false := by kernel_rfl
theorem kit_tuple_Book : kitOne (K0 P) (.type "tuple") (.ref 835) = some false := by kernel_rfl
theorem kit_list_Book : kitOne (K0 P) (.type "list") (.ref 835) = some false := by kernel_rfl
theorem mt_Book___len__ : Meth (K0 P) 835 "__len__" 804 := ⟨by kernel_rfl, by kernel_rfl, by kernel_rfl⟩
theorem mt_Book___contains__ : Meth (K0 P) 835 "__contains__" 811 := ⟨by kernel_rfl, by kernel_rfl, by kernel_rfl⟩
theorem mt_Book___eq__ : Meth (K0 P) 835 "__eq__" 818 := ⟨by kernel_rfl, by kernel_rfl, by kernel_rfl⟩
end
end K76
set_option maxHeartbeats 4000000
namespace K76
open PySem PySem.W PySem.Calls PyProof.Rows L2 Evl Ed
section
variable {w : World} {mg : Str → Option Value} {base : Heap}
theorem make_book {K : PySem.W.Frag} {σ : L2.St} {H : Hp} {tr : TA} {E : XK} {ks : List (Str × Int)} {ts : List Tmp} {Q : VK} (ha : EvAD K tr σ H [ksD ks, tsD ts]) (ok : OkB ks ts) (k : ∀ y H', H y = none → Ex H H' → BookAt K H' y ks ts → Q (.ref y) H') : tMake 835 (spBookInit K) [] E tr σ H Q :=
  ha H (Ex.refl H) _ fun vs H1 e1 hd x dx hx hdx hne => by
    obtain ⟨u, v, rfl, hu, hv⟩ := dpa2 hd
    have e2 : Ex H1 (upd H1 dx (.own x)) := Ex.new hdx
    have hx2 : upd H1 dx (.own x) x = none := (upd_ne (Ne.symm hne)).trans hx
    have e3 : Ex (upd H1 dx (.own x)) (upd (upd H1 dx (.own x)) x (.ins 835 dx [])) := Ex.new hx2
    refine ⟨x, dx, u, v, ks, ts, rfl, upd_same, (hu.ex e2).ex e3, (hv.ex e2).ex e3, ok, fun H' o' b => ⟨rfl, k x H' (fresh_back (e1.trans e2) hx2) ?_ b⟩⟩
    intro b' o hb
    have hbx : b' ≠ x := fun z => by
      subst z
      rw [fresh_back (e1.trans e2) hx2] at hb
      cases hb
    exact o' b' o (by simpa using hbx) (e3 _ _ (e2 _ _ (e1 _ _ hb)))
/-! ### Book.with_template, of one that is there -/
theorem sc_Book_with_template : FnScope ["self", "template", "each", "made"] ["self", "template"] (defScope s_Book_with_template) := ⟨rfl, rfl, rfl, by decide +kernel, rfl, by decide +kernel, by decide +kernel⟩
def spWith (K : PySem.W.Frag) : Sp := fun vs H Q _ => ∃ (x : Addr) (ks : List (Str × Int)) (ts : List Tmp) (t : Tmp) (v : V), vs = [.ref x, v] ∧ BookAt K H x ks ts ∧ OkB ks ts ∧ Dp K H v (tD t) ∧ t ∈ ts ∧
  ∀ y H', H y = none → Ex H H' → BookAt K H' y ks ts → Q (.ref y) H'
theorem same_name {ts : List Tmp} (nd : (ts.map (·.name)).Nodup) {a b : Tmp} (ha : a ∈ ts) (hb : b ∈ ts) (h : a.name = b.name) : a = b := by
  obtain ⟨i, hi, rfl⟩ := List.getElem_of_mem ha
  obtain ⟨j, hj, rfl⟩ := List.getElem_of_mem hb
  have h1 : i = j := by
    have e1 : (ts.map (·.name))[i]'(by simpa using hi) = (ts.map (·.name))[j]'(by simpa using hj) := by simpa using h
    exact (List.getElem_inj nd).mp e1
  subst h1
  rfl
theorem ok_Book_with_template (W : Wd w.params mg) : Ok w mg base CX0 8 a_Book_with_template fd_Book_with_template ["self", "template"] (spWith (Kw w)) := by
  refine (F_Book_with_template w.params).ok sc_Book_with_template (fun vs H Q E h => ?_) (fun cdv A outer s H vs Q E hr h => ?_)
  · obtain ⟨x, ks, ts, t, v, rfl, _⟩ := h
    rfl
  · obtain ⟨x, ks, ts, t, v, rfl, hb, ok, hv, hm, k⟩ := h
    refine ⟨_, (pss_cons (ps_if (pt_not (pt_val (pe_call (ok_is_template W) (hr.mono (by decide)) rfl (g_is_template W) (F_is_template _).kp (b_is_template _) .nil pass0 (pa_cons (pe_fld (pv 0) rfl) (pa_cons (pv 1) pa_nil))))) (pss_one ps_never) pss_nil)
    (pss_cons (ps_if (pt_cmpR op_in_seq (pe_ix ix_tup (pv 1) pe_int (fun _ _ => rfl)) (pe_fld (pv 0) rfl) rfl) (pss_cons (ps_set (i := 3) sc_Book_with_template.nd rfl (Or.inl rfl) (pe_callTy call_tuple_of rfl (n_tuple W) boot_tuple (pa_cons (pe_lc (own := [("each", 2)]) (g := gName 2) (tt := tYes) rfl sc_Book_with_template.nd (pi_tup (pe_fld (pv 0) rfl)) (blkOk_by (own := [("each", 2)]) (N := ["self", "template", "each", "made"]) (sc := defScope s_Book_with_template) (by decide +kernel)) (fun _ _ _ _ _ => (pg_name (i := 2) sc_Book_with_template.nd rfl (Or.inl rfl))) (fun _ _ _ _ _ => pts_nil) (fun _ _ _ _ _ => (pe_ifExp (pt_cmpR op_eq (pe_ix (ix_tupK (K := Kw w) rfl) (pv 2) pe_int (fun _ _ => rfl)) (pe_ix (ix_tupK (K := Kw w) rfl) (pv 1) pe_int (fun _ _ => rfl)) (nomark _)) (pv 1) (pv 2)))) pa_nil)))
    (pss_one (ps_ret (pe_make mk_Book (ok_Book___init__ W) (hr.mono (by decide)) rfl (g_Book W) (b_Book___init__ _) .nil pass0 (pa_cons (pe_fld (pv 0) rfl) (pa_cons (pv 3) pa_nil)))))) pss_nil)
    (pss_cons (ps_if (pt_cmpR op_eq (pe_callB call_len_seq rfl (n_len W) boot_len (pa_cons (pe_fld (pv 0) rfl) pa_nil)) (pe_glob (v := .int (8)) rfl (g_MOST_TEMPLATES W) ⟨_, rfl⟩) (nomark _)) (pss_one ps_never) pss_nil)
    (pss_one (ps_ret (pe_make mk_Book (ok_Book___init__ W) (hr.mono (by decide)) rfl (g_Book W) (b_Book___init__ _) .nil pass0 (pa_cons (pe_fld (pv 0) rfl) (pa_cons (pe_op op_catA (pe_fld (pv 0) rfl) (pe_tup (pa_cons (pv 1) pa_nil))) pa_nil)))))))), ?_⟩
    obtain ⟨dx, k1, k2, r, n, tt, hx, hk1, hk2, hn⟩ := id hb
    refine q_when (b := false) (et_is (et_not (et_B (ev_bool (ed_call (ea_consD (ed_fld (ev_var rfl) hx cls_Book na_Book_kinds rfl hk1) (ea_consD (ed_var rfl hv) ea_nilD)) ⟨ks, t, rfl, ok.t.ok t hm, ok.k, rfl⟩)))) rfl) (fun z => by cases z) fun _ H1 e1 => ?_
    have hx1 := e1 _ _ hx
    have hv1 := hv.ex e1
    refine q_when (b := true) (et_is (et_test (ev_inStrs (neg := false) (l := ts.map (·.name)) (ev_str (ed_ixTD (i := 0) (ed_var rfl hv1) (fun _ _ => ev_c) rfl)) (ed_fld (ev_var rfl) hx1 cls_Book na_Book_names rfl (by rw [List.map_map]; exact hn.ex e1)))) ?_) (fun _ H2 e2 => ?_) (fun z => by cases z)
    · exact decide_eq_true (List.mem_map.mpr ⟨t, hm, rfl⟩)
    have hx2 := e2 _ _ hx1
    have hv2 := hv1.ex e2
    have e12 := e1.trans e2
    refine q_asgD (d := tsD ts) (ed_to (ed_tupleOf (eld_lcTN (gD := tD) (eD := fun e => tD (if t.name = e.name then t else e)) (ed_fld (ev_var rfl) hx2 cls_Book na_Book_templates rfl (hk2.ex e12)) (by have := ok.t.hi; omega) (fun _ => imm_tD _) (fun _ => rfl) fun e he y H3 e3 hy => ?_)) ?_) fun z H3 e3 hz => ?_
    · have hv3 := hv2.ex e3
      by_cases hne : t.name = e.name
      · rw [if_pos hne]
        refine ed_if (b := true) (et_is (et_test (ev_op (ev_str (ed_ixTD (i := 0) (ed_var rfl hy) (fun _ _ => ev_c) rfl)) (ev_str (ed_ixTD (i := 0) (ed_var rfl hv3) (fun _ _ => ev_c) rfl)) (rv_eq rfl))) ?_) (fun _ => ed_var rfl hv3) (fun z => by cases z)
        simp [hne]
      · rw [if_neg hne]
        refine ed_if (b := false) (et_is (et_test (ev_op (ev_str (ed_ixTD (i := 0) (ed_var rfl hy) (fun _ _ => ev_c) rfl)) (ev_str (ed_ixTD (i := 0) (ed_var rfl hv3) (fun _ _ => ev_c) rfl)) (rv_eq rfl))) ?_) (fun z => by cases z) (fun _ => ed_var rfl hy)
        simp [Ne.symm hne]
    · unfold tsD
      congr 1
      refine List.map_congr_left fun e he => ?_
      by_cases hne : t.name = e.name
      · rw [if_pos hne, same_name ok.t.nd hm he hne]
      · rw [if_neg hne]
    · have e13 := e12.trans e3
      exact make_book (ea_consD (ed_fld (ev_var rfl) (e3 _ _ hx2) cls_Book na_Book_kinds rfl (hk1.ex e13)) (ea_consD (ed_var rfl hz) ea_nilD)) ok fun y H' hy e b => k y H' (fresh_back e13 hy) (e13.trans e) b
end
end K76
set_option maxHeartbeats 4000000
namespace K76
open PySem PySem.W PySem.Calls PyProof.Rows L2 Evl Ed
section
variable {w : World} {mg : Str → Option Value} {base : Heap}
/-! ### Book.template, there -/
theorem sc_Book_template : FnScope ["self", "name"] ["self", "name"] (defScope s_Book_template) := ⟨rfl, rfl, rfl, by decide +kernel, rfl, by decide +kernel, by decide +kernel⟩
def spTemplate (K : PySem.W.Frag) : Sp := fun vs H Q _ => ∃ (x : Addr) (ks : List (Str × Int)) (ts : List Tmp) (t : Tmp), vs = [.ref x, .str t.name] ∧ BookAt K H x ks ts ∧ OkB ks ts ∧ t ∈ ts ∧
  ∀ v H', Ex H H' → Dp K H' v (tD t) → Q v H'
theorem ok_Book_template (W : Wd w.params mg) : Ok w mg base CX0 4 a_Book_template fd_Book_template ["self", "name"] (spTemplate (Kw w)) := by
  refine (F_Book_template w.params).ok sc_Book_template (fun vs H Q E h => ?_) (fun cdv A outer s H vs Q E hr h => ?_)
  · obtain ⟨x, ks, ts, t, rfl, _⟩ := h
    rfl
  · obtain ⟨x, ks, ts, t, rfl, hb, ok, hm, k⟩ := h
    refine ⟨_, (pss_one (ps_ret (pe_ix ix_tup (pe_fld (pv 0) rfl) (pe_meth (pv 0) cls_Book mt_Book_place (ok_Book_place W) (hr.mono (by decide)) (b_Book_place _) .nil passF (pa_cons (pv 1) pa_nil)) (fun _ _ => rfl)))), ?_⟩
    obtain ⟨dx, k1, k2, r, n, tt, hx, hk1, hk2, hn⟩ := id hb
    obtain ⟨a, xs, rfl, hs, hxs⟩ := dp_tup hk2
    obtain ⟨i, hi, hti⟩ := List.getElem_of_mem hm
    have hget : ts[i]? = some t := by rw [List.getElem?_eq_getElem hi, hti]
    refine ⟨_, rfl, x, 835, dx, _, .ref a, rfl, hx, cls_Book, na_Book_templates, rfl, _, rfl, x, dx, _, rfl, hx, rfl, _, rfl, x, ks, ts, t.name, rfl, hb, Or.inl ⟨i, t, hget, rfl, fun j t' hj ht' hne => ?_, fun H2 e12 => ?_⟩⟩
    · have h1 := same_name ok.t.nd (List.mem_of_getElem? ht') hm hne
      subst h1
      exact nodup_notin (List.Pairwise.of_map (fun t : Tmp => t.name) (fun a b hne e => hne (congrArg _ e)) ok.t.nd) hget (List.mem_of_getElem? (i := j) (by rw [List.getElem?_take, if_pos hj]; exact ht'))
    · obtain ⟨y, hy, hdy⟩ := hxs.get (i := i) (d := tD t) (by rw [List.getElem?_map, hget] <;> rfl)
      exact ⟨a, xs, (i : Int), y, rfl, rfl, ex_t e12 hs, atI_nat hy, k y H2 e12 (hdy.ex e12)⟩
/-! ### Book.without, not there -/
theorem sc_Book_without : FnScope ["self", "name", "at", "left"] ["self", "name"] (defScope s_Book_without) := ⟨rfl, rfl, rfl, by decide +kernel, rfl, by decide +kernel, by decide +kernel⟩
def spWithout (K : PySem.W.Frag) : Sp := fun vs H Q E => ∃ (x : Addr) (ks : List (Str × Int)) (ts : List Tmp) (nm : Str), vs = [.ref x, .str nm] ∧ BookAt K H x ks ts ∧ (∀ t ∈ ts, t.name ≠ nm) ∧ Xc (Ex H) 222 "value" (.str nm) E
theorem ok_Book_without (W : Wd w.params mg) : OkX w mg base 8 a_Book_without fd_Book_without ["self", "name"] (spWithout (Kw w)) := by
  refine (F_Book_without w.params).okXN sc_Book_without (fun vs H Q E h => ?_) (fun cdv A outer s H vs Q E hr h => ?_)
  · obtain ⟨x, ks, ts, nm, rfl, _⟩ := h
    rfl
  · obtain ⟨x, ks, ts, nm, rfl, hb, hno, k⟩ := h
    refine ⟨_, (pss_cons (ps_set (i := 2) sc_Book_without.nd rfl (Or.inl rfl) (pe_meth (pv 0) cls_Book mt_Book_place (ok_Book_place W) (hr.mono (by decide)) (b_Book_place _) .nil (passX (L2N.takes_of rfl rfl rfl rfl) (fun _ _ _ _ h => h)) (pa_cons (pv 1) pa_nil)))
    (pss_cons (ps_set (i := 3) sc_Book_without.nd rfl (Or.inl rfl) (pe_op op_catA (pe_slice sl_tup (pe_fld (pv 0) rfl) po_none (po_some (pv 2))) (pe_slice sl_tup (pe_fld (pv 0) rfl) (po_some (pe_op op_add (pv 2) pe_int)) po_none)))
    (pss_cons (ps_if (pt_cmpR (op_eqEmp hr.units0) (pv 3) (pe_tup pa_nil) (nomark _)) (pss_one ps_never) pss_nil)
    (pss_one (ps_ret (pe_make mk_Book (ok_Book___init__ W) (hr.mono (by decide)) rfl (g_Book W) (b_Book___init__ _) .nil pass0 (pa_cons (pe_fld (pv 0) rfl) (pa_cons (pv 3) pa_nil)))))))), ?_⟩
    obtain ⟨dx, k1, k2, r, n, tt, hx, hk1, hk2, hn⟩ := id hb
    exact ⟨_, rfl, x, dx, _, rfl, hx, rfl, _, rfl, x, ks, ts, nm, rfl, hb, Or.inr ⟨hno, fun d H' e hd => k d H' e hd⟩⟩
/-! ### Book.__len__ -/
theorem sc_Book___len__ : FnScope ["self"] ["self"] (defScope s_Book___len__) := ⟨rfl, rfl, rfl, by decide +kernel, rfl, by decide +kernel, by decide +kernel⟩
def spBLen (K : PySem.W.Frag) : Sp := fun vs H Q _ => ∃ (x : Addr) (ks : List (Str × Int)) (ts : List Tmp), vs = [.ref x] ∧ BookAt K H x ks ts ∧ ∀ H', Ex H H' → Q (.int (ts.length : Int)) H'
theorem ok_Book___len__ (W : Wd w.params mg) : Ok w mg base CX0 1 a_Book___len__ fd_Book___len__ ["self"] (spBLen (Kw w)) := by
  refine (F_Book___len__ w.params).ok sc_Book___len__ (fun vs H Q E h => ?_) (fun cdv A outer s H vs Q E hr h => ?_)
  · obtain ⟨x, ks, ts, rfl, _⟩ := h
    rfl
  · obtain ⟨x, ks, ts, rfl, hb, k⟩ := h
    refine ⟨_, (pss_one (ps_ret (pe_callB call_len_seq rfl (n_len W) boot_len (pa_cons (pe_fld (pv 0) rfl) pa_nil)))), ?_⟩
    obtain ⟨dx, k1, k2, r, n, tt, hx, hk1, hk2, hn⟩ := id hb
    refine s_ret (v := .int (ts.length : Int)) (ev_is (ev_lenTD (ed_fld (ev_var rfl) hx cls_Book na_Book_templates rfl hk2)) (by rw [List.length_map])) k
/-! ### Book.__contains__ -/
theorem sc_Book___contains__ : FnScope ["self", "value"] ["self", "value"] (defScope s_Book___contains__) := ⟨rfl, rfl, rfl, by decide +kernel, rfl, by decide +kernel, by decide +kernel⟩
def spBIn (K : PySem.W.Frag) : Sp := fun vs H Q _ => ∃ (x : Addr) (ks : List (Str × Int)) (ts : List Tmp) (nm : Str), vs = [.ref x, .str nm] ∧ BookAt K H x ks ts ∧ ∀ H', Ex H H' → Q (.bl (decide (nm ∈ ts.map (·.name)))) H'
theorem ok_Book___contains__ (W : Wd w.params mg) : Ok w mg base CX0 1 a_Book___contains__ fd_Book___contains__ ["self", "value"] (spBIn (Kw w)) := by
  refine (F_Book___contains__ w.params).ok sc_Book___contains__ (fun vs H Q E h => ?_) (fun cdv A outer s H vs Q E hr h => ?_)
  · obtain ⟨x, ks, ts, nm, rfl, _⟩ := h
    rfl
  · obtain ⟨x, ks, ts, nm, rfl, hb, k⟩ := h
    refine ⟨_, (pss_one (ps_ret (pe_and (pe_callB call_isi rfl (n_isinstance W) boot_isinstance (pa_cons (pv 1) (pa_cons (pe_tyN rfl (n_str W) boot_str) pa_nil))) (pe_one (pe_cmpR op_in_seq (pv 1) (pe_fld (pv 0) rfl) rfl))))), ?_⟩
    obtain ⟨dx, k1, k2, r, n, tt, hx, hk1, hk2, hn⟩ := id hb
    refine s_ret (v := .bl (decide (nm ∈ ts.map (·.name)))) (ev_is (ev_andV (a := true) (b := decide (nm ∈ ts.map fun t : Tmp => t.name)) (ev_isS (ed_var rfl (.str nm))) fun _ => ev_is (ev_inStrs (K := Kw w) (x := nm) (neg := false) (l := ts.map fun t : Tmp => t.name) (ev_var rfl) (ed_fld (ev_var rfl) hx cls_Book na_Book_names rfl (by rw [List.map_map]; exact hn))) rfl) ?_) k
    rw [Bool.true_and] <;> rfl
/-! ### Book.__eq__, asked of what is no book -/
theorem sc_Book___eq__ : FnScope ["self", "other"] ["self", "other"] (defScope s_Book___eq__) := ⟨rfl, rfl, rfl, by decide +kernel, rfl, by decide +kernel, by decide +kernel⟩
def spBEq (K : PySem.W.Frag) : Sp := fun vs H Q _ => ∃ (x : Addr) (y : V) (t : Value), vs = [.ref x, y] ∧ TyX K H y t ∧ kitOne K t (.ref 835) = some false ∧ ∀ H', Ex H H' → Q (.bl false) H'
theorem ok_Book___eq__ (W : Wd w.params mg) : Ok w mg base CX0 1 a_Book___eq__ fd_Book___eq__ ["self", "other"] (spBEq (Kw w)) := by
  refine (F_Book___eq__ w.params).ok sc_Book___eq__ (fun vs H Q E h => ?_) (fun cdv A outer s H vs Q E hr h => ?_)
  · obtain ⟨x, y, t, rfl, _⟩ := h
    rfl
  · obtain ⟨x, y, t, rfl, ht, hk, k⟩ := h
    refine ⟨_, (pss_one (ps_ret (pe_and (pe_callB call_isi rfl (n_isinstance W) boot_isinstance (pa_cons (pv 1) (pa_cons (pe_glob (v := .ref 835) rfl (g_Book W) rfl) pa_nil))) (pe_and (pe_cmpR (op_eqD hr.units) (pe_fld (pv 0) rfl) (pe_fld (pv 1) rfl) (nomark _)) (pe_one (pe_cmpR (op_eqD hr.units) (pe_fld (pv 0) rfl) (pe_fld (pv 1) rfl) (nomark _))))))), ?_⟩
    exact s_ret (v := .bl false) (ev_andV (a := false) (b := false) (ev_isOwn (ev_var rfl) ev_c ht hk) fun z => by cases z) k
/-! ### check_book -/
theorem sc_check_book : FnScope ["value"] ["value"] (defScope s_check_book) := ⟨rfl, rfl, rfl, by decide +kernel, rfl, by decide +kernel, by decide +kernel⟩
def spCheckBook (K : PySem.W.Frag) : Sp := fun vs H Q E => ∃ (y : V) (t : Value) (b : Bool), vs = [y] ∧ TyX K H y t ∧ kitOne K t (.ref 835) = some b ∧ (b = true → ∀ H', Ex H H' → Q .non H') ∧ (b = false → Xc (Ex H) 127 "value" y E)
theorem ok_check_book (W : Wd w.params mg) : OkX w mg base 3 a_check_book fd_check_book ["value"] (spCheckBook (Kw w)) := by
  refine (F_check_book w.params).okXN sc_check_book (fun vs H Q E h => ?_) (fun cdv A outer s H vs Q E hr h => ?_)
  · obtain ⟨y, t, b, rfl, _⟩ := h
    rfl
  · obtain ⟨y, t, b, rfl, ht, hk, k1, k2⟩ := h
    refine ⟨_, (pss_one (ps_if (pt_not (pt_val (pe_callB call_isi rfl (n_isinstance W) boot_isinstance (pa_cons (pv 0) (pa_cons (pe_glob (v := .ref 835) rfl (g_Book W) rfl) pa_nil))))) (pss_one (ps_raiseAN (k := 1) rfl (xt_NotABook W) (hr.mono (by decide)) (L2N.takes_of rfl rfl rfl rfl) (pa_cons (pv 0) pa_nil))) pss_nil)), ?_⟩
    refine s_when (b := !b) (et_not (et_B (ev_isOwn (ev_var rfl) ev_c ht hk))) (fun hb H1 e1 => ?_) (fun hb H1 e1 => ?_)
    · exact s_raiseA (ea_cons (ev_var rfl) ea_nil) fun d H2 e2 hd => k2 (by simpa using hb) d H2 (e1.trans e2) hd
    · exact k1 (by simpa using hb) H1 e1
end
end K76
set_option maxHeartbeats 4000000
namespace Ed
open PySem L2 Evl
section
variable {K : PySem.W.Frag} {σ : L2.St} {H : Hp} {te ta tb td ty tx : TE} {v z : V}
/-- isinstance(e, a built-in class) by the type alone -/
theorem ev_isV {A T : String} {b : Bool} (h : Ev ta σ H v) (hv : TyX K H v (.type A)) (hk : kitB A T = some b) : Ev (tCB (rIsi K) (tCons ta (tCons (tC (.ty T)) tNil))) σ H (.bl b) := fun H1 e Q q =>
  h H1 e _ fun H2 e2 => ⟨v, .ty T, .type A, .type T, b, rfl, .ty T, tyX_ex hv (e.trans e2), kit_ty hk, q H2 e2⟩
/-- t == () -/
theorem ev_eqEmp {a : Addr} {xs : List V} (h : Ev ta σ H (.ref a)) (hs : SqT K H a xs) : Ev (tOp (rEqEmp K) ta (tTup tNil)) σ H (.bl xs.isEmpty) := fun H1 e Q q =>
  h H1 e _ fun H2 e2 => ⟨sz_of (show ([] : List V).length ≤ 100000 by decide), fun p hp => ⟨a, xs, p, rfl, ex_t (Ex.new hp) (ex_t (e.trans e2) hs), rfl, upd_same, q _ (e2.trans (Ex.new hp))⟩⟩
/-- d.get(k, x), d written -/
theorem ev_kget {d : Addr} {k : Str} (ho : Ev td σ H (.ref d)) (he : Ev ty σ H (.str k)) (hx : Ev tx σ H z) (hv : (∃ u, PySem.W.nsIn K d k = some (some u) ∧ RelV v u) ∨ (PySem.W.nsIn K d k = some none ∧ v = z)) : Ev (tKGet2 K d td ty tx) σ H v := fun H1 e Q q =>
  ho H1 e _ fun H2 e2 => ⟨rfl, he H2 (e.trans e2) _ fun H3 e3 => hx H3 ((e.trans e2).trans e3) _ fun H4 e4 => ⟨k, rfl, by
    rcases hv with ⟨u, h1, h2⟩ | ⟨h1, h2⟩
    · exact .inl ⟨u, v, h1, h2, q H4 ((e2.trans e3).trans e4)⟩
    · subst h2
      exact .inr ⟨h1, q H4 ((e2.trans e3).trans e4)⟩⟩⟩
end
end Ed
namespace K76
open PySem PySem.W PySem.Calls PyProof.Rows L2 Evl Ed
/-! ### deeds -/
def heads : List Str := ["put", "drop", "guard", "unguard", "keep", "forget", "change", "put ", "PUT", ""]
def LN (h : Str) : Int := (([("put", 2), ("drop", 2), ("guard", 2), ("unguard", 2)] : List (Str × Int)).lookup h).getD 0
def LS (h : Str) : Int := (([("keep", 3), ("forget", 2), ("change", 4)] : List (Str × Int)).lookup h).getD 0
theorem kW {P : Params} {h : Str} (hh : h ∈ heads) : (∃ u, nsIn (K0 P) 1313 h = some (some u) ∧ RelV (.int (LN h)) u) ∨ (nsIn (K0 P) 1313 h = some none ∧ V.int (LN h) = .int 0) := by
  simp only [heads, List.mem_cons, List.not_mem_nil, or_false] at hh
  rcases hh with rfl | rfl | rfl | rfl | rfl | rfl | rfl | rfl | rfl | rfl
  · exact .inl ⟨.int 2 1972, by kernel_rfl, ⟨_, rfl⟩⟩
  · exact .inl ⟨.int 2 1974, by kernel_rfl, ⟨_, rfl⟩⟩
  · exact .inl ⟨.int 2 1976, by kernel_rfl, ⟨_, rfl⟩⟩
  · exact .inl ⟨.int 2 1978, by kernel_rfl, ⟨_, rfl⟩⟩
  · exact .inr ⟨by kernel_rfl, rfl⟩
  · exact .inr ⟨by kernel_rfl, rfl⟩
  · exact .inr ⟨by kernel_rfl, rfl⟩
  · exact .inr ⟨by kernel_rfl, rfl⟩
  · exact .inr ⟨by kernel_rfl, rfl⟩
  · exact .inr ⟨by kernel_rfl, rfl⟩
theorem kS {P : Params} {h : Str} (hh : h ∈ heads) : (∃ u, nsIn (K0 P) 1314 h = some (some u) ∧ RelV (.int (LS h)) u) ∨ (nsIn (K0 P) 1314 h = some none ∧ V.int (LS h) = .int 0) := by
  simp only [heads, List.mem_cons, List.not_mem_nil, or_false] at hh
  rcases hh with rfl | rfl | rfl | rfl | rfl | rfl | rfl | rfl | rfl | rfl
  · exact .inr ⟨by kernel_rfl, rfl⟩
  · exact .inr ⟨by kernel_rfl, rfl⟩
  · exact .inr ⟨by kernel_rfl, rfl⟩
  · exact .inr ⟨by kernel_rfl, rfl⟩
  · exact .inl ⟨.int 3 1985, by kernel_rfl, ⟨_, rfl⟩⟩
  · exact .inl ⟨.int 2 1987, by kernel_rfl, ⟨_, rfl⟩⟩
  · exact .inl ⟨.int 4 1989, by kernel_rfl, ⟨_, rfl⟩⟩
  · exact .inr ⟨by kernel_rfl, rfl⟩
  · exact .inr ⟨by kernel_rfl, rfl⟩
  · exact .inr ⟨by kernel_rfl, rfl⟩
/-- what a check of a deed says of v: b; f is asked where it is a tuple with a text at its head -/
inductive Jdg (K : PySem.W.Frag) (H : Hp) (v : V) (f : Str → Nat → Bool) : Bool → Prop where
  | nt {A : String} (h : TyX K H v (.type A)) (hk : kitB A "tuple" = some false) : Jdg K H v f false
  | em {a : Addr} (e : v = .ref a) (h : SqT K H a []) : Jdg K H v f false
  | ns {a : Addr} {y : V} {ys : List V} {A : String} (e : v = .ref a) (h : SqT K H a (y :: ys)) (hy : TyX K H y (.type A)) (hk : kitB A "str" = some false) : Jdg K H v f false
  | hd {a : Addr} {x : Str} {ys : List V} {b : Bool} (e : v = .ref a) (h : SqT K H a (.str x :: ys)) (hx : x ∈ heads) (hb : b = f x (ys.length + 1)) : Jdg K H v f b
def fW (x : Str) (n : Nat) : Bool := decide (LN x = (n : Int))
def fS (x : Str) (n : Nat) : Bool := decide (LS x = (n : Int))
def fWS (x : Str) (n : Nat) : Bool := fW x n || fS x n
theorem Jdg.ex {K : PySem.W.Frag} {H H' : Hp} {v : V} {f : Str → Nat → Bool} {b : Bool} (j : Jdg K H v f b) (e : Ex H H') : Jdg K H' v f b := by
  cases j with
  | nt h hk => exact .nt (tyX_ex h e) hk
  | em e1 h => exact .em e1 (ex_t e h)
  | ns e1 h hy hk => exact .ns e1 (ex_t e h) (tyX_ex hy e) hk
  | hd e1 h hx hb => exact .hd e1 (ex_t e h) hx hb
/-! ### the shop -/
def fS' (b l h p s : V) (z : Bool) : List (Str × V) := [("book", b), ("log", l), ("held", h), ("past", p), ("sites", s), ("busy", .bl z)]
/-- all but the object at x stands as it stood -/
structure Kp (x : Addr) (H H' : Hp) : Prop where
  off : Off [x] H H'
  tx : Tx H H'
  ins : ∀ C dx fs, H x = some (.ins C dx fs) → ∃ fs', H' x = some (.ins C dx fs')
theorem Kp.refl (x : Addr) (H : Hp) : Kp x H H := ⟨Off.refl _ _, Tx.refl _, fun C dx fs h => ⟨fs, h⟩⟩
theorem Kp.trans {x : Addr} {H H1 H2 : Hp} (a : Kp x H H1) (b : Kp x H1 H2) : Kp x H H2 := ⟨a.off.trans b.off, a.tx.trans b.tx, fun C dx fs h => by
  obtain ⟨fs1, h1⟩ := a.ins C dx fs h
  exact b.ins C dx fs1 h1⟩
theorem Kp.of {x : Addr} {H H' : Hp} (e : Ex H H') : Kp x H H' := ⟨Off.of e, Tx.of e, fun C dx fs h => ⟨fs, e _ _ h⟩⟩
theorem Kp.upd {x C dx : Addr} {H : Hp} {fs : List (Str × V)} {u : HO} (h : H x = some (.ins C dx fs)) (hu : ∃ fs', u = .ins C dx fs' := by exact ⟨_, rfl⟩) : Kp x H (L2.upd H x u) := ⟨Off.upd (by simp), Tx.ins h, fun C' dx' fs' h' => by
  rw [h] at h'
  cases h'
  obtain ⟨fs2, rfl⟩ := hu
  exact ⟨fs2, upd_same⟩⟩
/-- the object at x stands as it stood, too -/
theorem Kp.ex {x : Addr} {H H' : Hp} (k : Kp x H H') (h : ∀ o, H x = some o → H' x = some o) : Ex H H' := fun b o hb => by
  by_cases hx : b = x
  · subst hx
    exact h o hb
  · exact k.off b o (by simpa using hx) hb
theorem Kp.at_ {x b : Addr} {H H' : Hp} {o : HO} (k : Kp x H H') (h : H b = some o) (hn : b ≠ x) : H' b = some o := k.off b o (by simpa using hn) h
/-- a book that is not the object at x -/
def Bk (K : PySem.W.Frag) (H : Hp) (x b : Addr) (ks : List (Str × Int)) (ts : List Tmp) : Prop := BookAt K H b ks ts ∧ b ≠ x
theorem Bk.kp {K : PySem.W.Frag} {H H' : Hp} {x b : Addr} {ks : List (Str × Int)} {ts : List Tmp} (h : Bk K H x b ks ts) (k : Kp x H H') : Bk K H' x b ks ts := ⟨h.1.off (fun o ho => k.at_ ho h.2) k.tx, h.2⟩
theorem Bk.ex {K : PySem.W.Frag} {H H' : Hp} {x b : Addr} {ks : List (Str × Int)} {ts : List Tmp} (h : Bk K H x b ks ts) (e : Ex H H') : Bk K H' x b ks ts := h.kp (.of e)
def Before (K : PySem.W.Frag) (H : Hp) (x : Addr) (ks : List (Str × Int)) (ts : List Tmp) (v : V) : Prop := ∃ q b h s, v = .ref q ∧ SqT K H q [.ref b, h, s] ∧ Bk K H x b ks ts ∧ Dp K H h (.tuple []) ∧ Dp K H s (.tuple [])
theorem Before.kp {K : PySem.W.Frag} {H H' : Hp} {x : Addr} {ks : List (Str × Int)} {ts : List Tmp} {v : V} (h : Before K H x ks ts v) (k : Kp x H H') : Before K H' x ks ts v := by
  obtain ⟨q, b, h, s, e, h1, h2, h3, h4⟩ := h
  exact ⟨q, b, h, s, e, tx_t k.tx h1, h2.kp k, h3.tx rfl k.tx, h4.tx rfl k.tx⟩
/-- the workshop at x: a log of n deeds d, no guards, no sites, as many pasts -/
structure Shp (K : PySem.W.Frag) (H : Hp) (x : Addr) (ks : List (Str × Int)) (ts : List Tmp) (d : PyData) (n : Nat) (b : Addr) (l h p s : V) : Prop where
  bk : Bk K H x b ks ts
  log : Dp K H l (.tuple (List.replicate n d))
  held : Dp K H h (.tuple [])
  past : ∃ a xs, p = .ref a ∧ SqT K H a xs ∧ xs.length = n ∧ ∀ v ∈ xs, Before K H x ks ts v
  sites : Dp K H s (.tuple [])
theorem Shp.kp {K : PySem.W.Frag} {H H' : Hp} {x : Addr} {ks : List (Str × Int)} {ts : List Tmp} {d : PyData} {n : Nat} {b : Addr} {l h p s : V} (q : Shp K H x ks ts d n b l h p s) (hd : immD d = true) (k : Kp x H H') : Shp K H' x ks ts d n b l h p s := by
  obtain ⟨a, xs, e, h1, h2, h3⟩ := q.past
  exact ⟨q.bk.kp k, q.log.tx (immAll_iff.mpr fun y hy => by rw [(List.mem_replicate.mp hy).2]; exact hd) k.tx, q.held.tx rfl k.tx, ⟨a, xs, e, tx_t k.tx h1, h2, fun v hv => (h3 v hv).kp k⟩, q.sites.tx rfl k.tx⟩
def ShopAt (K : PySem.W.Frag) (C : Addr) (H : Hp) (x : Addr) (ks : List (Str × Int)) (ts : List Tmp) (d : PyData) (z : Bool) (n : Nat) : Prop :=
  ∃ dx b l h p s, H x = some (.ins C dx (fS' (.ref b) l h p s z)) ∧ Shp K H x ks ts d n b l h p s
theorem ShopAt.ex {K : PySem.W.Frag} {C : Addr} {H H' : Hp} {x : Addr} {ks : List (Str × Int)} {ts : List Tmp} {d : PyData} {z : Bool} {n : Nat} (q : ShopAt K C H x ks ts d z n) (hd : immD d = true) (e : Ex H H') : ShopAt K C H' x ks ts d z n := by
  obtain ⟨dx, b, l, h, p, s, hx, q⟩ := q
  exact ⟨dx, b, l, h, p, s, e _ _ hx, q.kp hd (.of e)⟩
/-- the deed of the law: put a template that is there -/
def putD (t : Tmp) : PyData := .tuple [.str "put", tD t]
theorem imm_putD (t : Tmp) : immD (putD t) = true := by
  show immAll [.str "put", tD t] = true
  exact immAll_iff.mpr fun y hy => by
    simp only [List.mem_cons, List.not_mem_nil, or_false] at hy
    rcases hy with rfl | rfl
    · rfl
    · exact imm_tD t
def dropD : PyData := .tuple [.str "drop", .str "nosuch"]
def unguardD : PyData := .tuple [.str "unguard", .int 5]
end K76
set_option maxHeartbeats 4000000
namespace K76
open PySem PySem.W PySem.Calls PyProof.Rows L2 Evl Ed
/-- a class of workshops -/
structure Sc (K : PySem.W.Frag) (C : Addr) : Prop where
  cls : Cls K C
  book : NoAttr K C "book"
  log : NoAttr K C "log"
  held : NoAttr K C "held"
  past : NoAttr K C "past"
  sites : NoAttr K C "sites"
  busy : NoAttr K C "busy"
theorem scW {P : Params} : Sc (K0 P) 1440 := ⟨cls_Workshop, na_Workshop_book, na_Workshop_log, na_Workshop_held, na_Workshop_past, na_Workshop_sites, na_Workshop_busy⟩
theorem scS {P : Params} : Sc (K0 P) 1504 := ⟨cls_SiteWorkshop, na_SiteWorkshop_book, na_SiteWorkshop_log, na_SiteWorkshop_held, na_SiteWorkshop_past, na_SiteWorkshop_sites, na_SiteWorkshop_busy⟩
section
variable {w : World} {mg : Str → Option Value} {base : Heap}
/-! ### check_idle -/
theorem sc_Workshop_check_idle : FnScope ["self"] ["self"] (defScope s_Workshop_check_idle) := ⟨rfl, rfl, rfl, by decide +kernel, rfl, by decide +kernel, by decide +kernel⟩
def spIdle (K : PySem.W.Frag) : Sp := fun vs H Q _ => ∃ (x C dx : Addr) (fs : List (Str × V)), vs = [.ref x] ∧ Sc K C ∧ H x = some (.ins C dx fs) ∧ fs.lookup ("busy" : Str) = some (.bl false) ∧ ∀ H', Ex H H' → Q .non H'
theorem ok_Workshop_check_idle (W : Wd w.params mg) : Ok w mg base CX0 1 a_Workshop_check_idle fd_Workshop_check_idle ["self"] (spIdle (Kw w)) := by
  refine (F_Workshop_check_idle w.params).ok sc_Workshop_check_idle (fun vs H Q E h => ?_) (fun cdv A outer s H vs Q E hr h => ?_)
  · obtain ⟨x, C, dx, fs, rfl, _⟩ := h
    rfl
  · obtain ⟨x, C, dx, fs, rfl, sc, hx, hb, k⟩ := h
    refine ⟨_, (pss_one (ps_if (pt_val (pe_fld (pv 0) rfl)) (pss_one ps_never) pss_nil)), ?_⟩
    exact s_when (b := false) (et_test (ev_fld (ev_var rfl) hx sc.cls sc.busy hb)) (fun z => by cases z) fun _ H1 e1 => k H1 e1
/-! ### is_deed, of a workshop -/
theorem sc_Workshop_is_deed : FnScope ["self", "value"] ["self", "value"] (defScope s_Workshop_is_deed) := ⟨rfl, rfl, rfl, by decide +kernel, rfl, by decide +kernel, by decide +kernel⟩
def spDeed (K : PySem.W.Frag) (f : Str → Nat → Bool) : Sp := fun vs H Q _ => ∃ (u v : V) (b : Bool), vs = [u, v] ∧ Jdg K H v f b ∧ ∀ H', Ex H H' → Q (.bl b) H'
theorem fW_v (x : Str) (n : Nat) : fW x n = decide (V.int (LN x) = V.int (n : Int)) := decide_eq_decide.mpr ⟨fun e => by rw [e], fun e => V.int.inj e⟩
theorem fS_v (x : Str) (n : Nat) : fS x n = decide (V.int (LS x) = V.int (n : Int)) := decide_eq_decide.mpr ⟨fun e => by rw [e], fun e => V.int.inj e⟩
theorem kit_tt : kitB "tuple" "tuple" = some true := by decide +kernel
theorem kit_ss : kitB "str" "str" = some true := by decide +kernel
theorem ok_Workshop_is_deed (W : Wd w.params mg) : Ok w mg base CX0 1 a_Workshop_is_deed fd_Workshop_is_deed ["self", "value"] (spDeed (Kw w) fW) := by
  refine (F_Workshop_is_deed w.params).ok sc_Workshop_is_deed (fun vs H Q E h => ?_) (fun cdv A outer s H vs Q E hr h => ?_)
  · obtain ⟨u, v, b, rfl, _⟩ := h
    rfl
  · obtain ⟨u, v, b, rfl, j, k⟩ := h
    refine ⟨_, (pss_cons (ps_if (PW.pt (pw_or (pt_not (pt_val (pe_callB call_isi rfl (n_isinstance W) boot_isinstance (pa_cons (pv 1) (pa_cons (pe_tyN rfl (n_tuple W) boot_tuple) pa_nil))))) (pw_or (pt_cmpR (op_eqEmp hr.units0) (pv 1) (pe_tup pa_nil) (nomark _)) (pw_or1 (pt_not (pt_val (pe_callB call_isi rfl (n_isinstance W) boot_isinstance (pa_cons (pe_ix ix_tup (pv 1) pe_int (fun _ _ => rfl)) (pa_cons (pe_tyN rfl (n_str W) boot_str) pa_nil))))))))) (pss_one (ps_ret pe_bl)) pss_nil)
    (pss_one (ps_ret (pe_cmpR op_eq (pe_kget2 (kd_LENGTHS w) (pe_glob (v := .ref 1313) rfl (g_LENGTHS W) rfl) (pe_ix ix_tup (pv 1) pe_int (fun _ _ => rfl)) pe_int ⟨rfl, rfl, rfl, rfl⟩) (pe_callB call_len_seq rfl (n_len W) boot_len (pa_cons (pv 1) pa_nil)) (nomark _))))), ?_⟩
    cases j with
    | nt h hk => exact q_when (b := true) (et_or (b := false) (et_not (et_B (ev_isV (ev_var rfl) h hk))) fun z => by cases z) (fun _ H1 e1 => s_ret (v := .bl false) ev_c fun H2 e2 => k H2 (e1.trans e2)) fun z => by cases z
    | em e h =>
      subst e
      exact q_when (b := true) (et_or (b := true) (et_not (et_B (ev_isV (ev_var rfl) (tyX_t h) kit_tt))) fun _ => et_or (b := false) (et_test (ev_eqEmp (ev_var rfl) h)) fun z => by cases z) (fun _ H1 e1 => s_ret (v := .bl false) ev_c fun H2 e2 => k H2 (e1.trans e2)) fun z => by cases z
    | ns e h hy hk =>
      subst e
      exact q_when (b := true) (et_or (b := true) (et_not (et_B (ev_isV (ev_var rfl) (tyX_t h) kit_tt))) fun _ => et_or (b := true) (et_test (ev_eqEmp (ev_var rfl) h)) fun _ => et_not (et_B (ev_isV (ev_op (ev_var rfl) (ev_c (v := .int 0)) (rv_ixT h (atI_nat (j := 0) rfl))) hy hk))) (fun _ H1 e1 => s_ret (v := .bl false) ev_c fun H2 e2 => k H2 (e1.trans e2)) fun z => by cases z
    | @hd a x ys _ e h hx hb =>
      subst e
      refine q_when (b := false) (et_or (b := false) (et_not (et_B (ev_isV (ev_var rfl) (tyX_t h) kit_tt))) fun _ => et_or (b := false) (et_test (ev_eqEmp (ev_var rfl) h)) fun _ => et_not (et_B (ev_isV (ev_op (ev_var rfl) (ev_c (v := .int 0)) (rv_ixT h (atI_nat (j := 0) rfl))) (.base (.str _)) kit_ss))) (fun z => by cases z) fun _ H1 e1 => ?_
      have h1 := ex_t e1 h
      refine s_ret (ev_op (ev_kget ev_c (ev_op (ev_var rfl) (ev_c (v := .int 0)) (rv_ixT h1 (atI_nat (j := 0) rfl))) ev_c (kW hx)) (ev_lenT (ev_var rfl) h1) (rv_eq rfl)) fun H2 e2 => ?_
      show Q (.bl (decide (V.int (LN x) = V.int ((ys.length + 1 : Nat) : Int)))) H2
      rw [← fW_v, ← hb]
      exact k H2 (e1.trans e2)
/-! ### is_site_deed -/
theorem sc_is_site_deed : FnScope ["value"] ["value"] (defScope s_is_site_deed) := ⟨rfl, rfl, rfl, by decide +kernel, rfl, by decide +kernel, by decide +kernel⟩
def spDeed1 (K : PySem.W.Frag) (f : Str → Nat → Bool) : Sp := fun vs H Q _ => ∃ (v : V) (b : Bool), vs = [v] ∧ Jdg K H v f b ∧ ∀ H', Ex H H' → Q (.bl b) H'
theorem ok_is_site_deed (W : Wd w.params mg) : Ok w mg base CX0 1 a_is_site_deed fd_is_site_deed ["value"] (spDeed1 (Kw w) fS) := by
  refine (F_is_site_deed w.params).ok sc_is_site_deed (fun vs H Q E h => ?_) (fun cdv A outer s H vs Q E hr h => ?_)
  · obtain ⟨v, b, rfl, _⟩ := h
    rfl
  · obtain ⟨v, b, rfl, j, k⟩ := h
    refine ⟨_, (pss_cons (ps_if (PW.pt (pw_or (pt_not (pt_val (pe_callB call_isi rfl (n_isinstance W) boot_isinstance (pa_cons (pv 0) (pa_cons (pe_tyN rfl (n_tuple W) boot_tuple) pa_nil))))) (pw_or (pt_cmpR (op_eqEmp hr.units0) (pv 0) (pe_tup pa_nil) (nomark _)) (pw_or1 (pt_not (pt_val (pe_callB call_isi rfl (n_isinstance W) boot_isinstance (pa_cons (pe_ix ix_tup (pv 0) pe_int (fun _ _ => rfl)) (pa_cons (pe_tyN rfl (n_str W) boot_str) pa_nil))))))))) (pss_one (ps_ret pe_bl)) pss_nil)
    (pss_one (ps_ret (pe_cmpR op_eq (pe_kget2 (kd_SITE_LENGTHS w) (pe_glob (v := .ref 1314) rfl (g_SITE_LENGTHS W) rfl) (pe_ix ix_tup (pv 0) pe_int (fun _ _ => rfl)) pe_int ⟨rfl, rfl, rfl, rfl⟩) (pe_callB call_len_seq rfl (n_len W) boot_len (pa_cons (pv 0) pa_nil)) (nomark _))))), ?_⟩
    cases j with
    | nt h hk => exact q_when (b := true) (et_or (b := false) (et_not (et_B (ev_isV (ev_var rfl) h hk))) fun z => by cases z) (fun _ H1 e1 => s_ret (v := .bl false) ev_c fun H2 e2 => k H2 (e1.trans e2)) fun z => by cases z
    | em e h =>
      subst e
      exact q_when (b := true) (et_or (b := true) (et_not (et_B (ev_isV (ev_var rfl) (tyX_t h) kit_tt))) fun _ => et_or (b := false) (et_test (ev_eqEmp (ev_var rfl) h)) fun z => by cases z) (fun _ H1 e1 => s_ret (v := .bl false) ev_c fun H2 e2 => k H2 (e1.trans e2)) fun z => by cases z
    | ns e h hy hk =>
      subst e
      exact q_when (b := true) (et_or (b := true) (et_not (et_B (ev_isV (ev_var rfl) (tyX_t h) kit_tt))) fun _ => et_or (b := true) (et_test (ev_eqEmp (ev_var rfl) h)) fun _ => et_not (et_B (ev_isV (ev_op (ev_var rfl) (ev_c (v := .int 0)) (rv_ixT h (atI_nat (j := 0) rfl))) hy hk))) (fun _ H1 e1 => s_ret (v := .bl false) ev_c fun H2 e2 => k H2 (e1.trans e2)) fun z => by cases z
    | @hd a x ys _ e h hx hb =>
      subst e
      refine q_when (b := false) (et_or (b := false) (et_not (et_B (ev_isV (ev_var rfl) (tyX_t h) kit_tt))) fun _ => et_or (b := false) (et_test (ev_eqEmp (ev_var rfl) h)) fun _ => et_not (et_B (ev_isV (ev_op (ev_var rfl) (ev_c (v := .int 0)) (rv_ixT h (atI_nat (j := 0) rfl))) (.base (.str _)) kit_ss))) (fun z => by cases z) fun _ H1 e1 => ?_
      have h1 := ex_t e1 h
      refine s_ret (ev_op (ev_kget ev_c (ev_op (ev_var rfl) (ev_c (v := .int 0)) (rv_ixT h1 (atI_nat (j := 0) rfl))) ev_c (kS hx)) (ev_lenT (ev_var rfl) h1) (rv_eq rfl)) fun H2 e2 => ?_
      show Q (.bl (decide (V.int (LS x) = V.int ((ys.length + 1 : Nat) : Int)))) H2
      rw [← fS_v, ← hb]
      exact k H2 (e1.trans e2)
/-! ### check_guards, of none -/
theorem sc_check_guards : FnScope ["guards", "book", "first", "at", "guard", "found"] ["guards", "book", "first"] (defScope s_check_guards) := ⟨rfl, rfl, rfl, by decide +kernel, rfl, by decide +kernel, by decide +kernel⟩
def spGuards0 (K : PySem.W.Frag) : Sp := fun vs H Q _ => ∃ (g b i : V), vs = [g, b, i] ∧ Dp K H g (.tuple []) ∧ ∀ H', Ex H H' → Q .non H'
theorem ok_check_guards (W : Wd w.params mg) : Ok w mg base CX0 1 a_check_guards fd_check_guards ["guards", "book", "first"] (spGuards0 (Kw w)) := by
  refine (F_check_guards w.params).ok sc_check_guards (fun vs H Q E h => ?_) (fun cdv A outer s H vs Q E hr h => ?_)
  · obtain ⟨g, b, i, rfl, _⟩ := h
    rfl
  · obtain ⟨g, b, i, rfl, hg, k⟩ := h
    refine ⟨_, (pss_one (ps_for PassesOwn.never rfl (pi_enumT rfl (n_enumerate W) (pa_cons (pv 0) pa_nil)) (pg_tup rfl (pgs_cons (pg_name (i := 3) sc_check_guards.nd rfl (Or.inl rfl)) (pgs_cons (pg_name (i := 4) sc_check_guards.nd rfl (Or.inl rfl)) pgs_nil)))
    pss_never)), ?_⟩
    refine s_forEnX (ds := []) (ed_var rfl hg) rfl (fun i σ' H' => Ex H H') (fun i σ' H' H'' e p => p.trans e) (Ex.refl H) (fun H0 e0 i d y σ' H' hi tx hd p => ?_) (fun σ' H' p => ?_)
    · cases hi
    · exact k H' p
/-! ### the guards -/
theorem sc_Workshop_guards : FnScope ["self"] ["self"] (defScope s_Workshop_guards) := ⟨rfl, rfl, rfl, by decide +kernel, rfl, by decide +kernel, by decide +kernel⟩
def spHeld (K : PySem.W.Frag) : Sp := fun vs H Q _ => ∃ (x C dx : Addr) (fs : List (Str × V)) (v : V), vs = [.ref x] ∧ Sc K C ∧ H x = some (.ins C dx fs) ∧ fs.lookup ("held" : Str) = some v ∧ ∀ H', Ex H H' → Q v H'
theorem ok_Workshop_guards (W : Wd w.params mg) : Ok w mg base CX0 1 a_Workshop_guards fd_Workshop_guards ["self"] (spHeld (Kw w)) := by
  refine (F_Workshop_guards w.params).ok sc_Workshop_guards (fun vs H Q E h => ?_) (fun cdv A outer s H vs Q E hr h => ?_)
  · obtain ⟨x, C, dx, fs, v, rfl, _⟩ := h
    rfl
  · obtain ⟨x, C, dx, fs, v, rfl, sc, hx, hb, k⟩ := h
    refine ⟨_, (pss_one (ps_ret (pe_fld (pv 0) rfl))), ?_⟩
    exact s_ret (ev_fld (ev_var rfl) hx sc.cls sc.held hb) fun H1 e1 => k H1 e1
/-! ### len, repr -/
theorem sc_Workshop___len__ : FnScope ["self"] ["self"] (defScope s_Workshop___len__) := ⟨rfl, rfl, rfl, by decide +kernel, rfl, by decide +kernel, by decide +kernel⟩
def spWLen (K : PySem.W.Frag) : Sp := fun vs H Q _ => ∃ (x C dx : Addr) (fs : List (Str × V)) (v : V) (ds : List PyData), vs = [.ref x] ∧ Sc K C ∧ H x = some (.ins C dx fs) ∧ fs.lookup ("log" : Str) = some v ∧ Dp K H v (.tuple ds) ∧ ∀ H', Ex H H' → Q (.int (ds.length : Int)) H'
theorem ok_Workshop___len__ (W : Wd w.params mg) : Ok w mg base CX0 1 a_Workshop___len__ fd_Workshop___len__ ["self"] (spWLen (Kw w)) := by
  refine (F_Workshop___len__ w.params).ok sc_Workshop___len__ (fun vs H Q E h => ?_) (fun cdv A outer s H vs Q E hr h => ?_)
  · obtain ⟨x, C, dx, fs, v, ds, rfl, _⟩ := h
    rfl
  · obtain ⟨x, C, dx, fs, v, ds, rfl, sc, hx, hb, hd, k⟩ := h
    refine ⟨_, (pss_one (ps_ret (pe_callB call_len_seq rfl (n_len W) boot_len (pa_cons (pe_fld (pv 0) rfl) pa_nil)))), ?_⟩
    exact s_ret (ev_lenTD (ed_fld (ev_var rfl) hx sc.cls sc.log hb hd)) fun H1 e1 => k H1 e1
theorem ev_lenBook {K : PySem.W.Frag} {σ : L2.St} {H : Hp} {te : TE} {E : XK} {a : Addr} {ks : List (Str × Int)} {ts : List Tmp} (h : Ev te σ H (.ref a)) (hb : BookAt K H a ks ts) (hz : ts.length ≤ 1000) : Ev (tCB (rLenO 835 (spBLen K) E) (tCons te tNil)) σ H (.int (ts.length : Int)) := fun H1 e Q q =>
  h H1 e _ fun H2 e2 => by
    have hb2 := hb.ex (e.trans e2)
    obtain ⟨dx, u, v, r, n, tt, hx, _⟩ := id hb2
    exact ⟨a, dx, _, rfl, hx, a, ks, ts, rfl, hb2, fun H3 e3 => ⟨_, rfl, by omega, by omega, q H3 (e2.trans e3)⟩⟩
theorem sc_Workshop___repr__ : FnScope ["self"] ["self"] (defScope s_Workshop___repr__) := ⟨rfl, rfl, rfl, by decide +kernel, rfl, by decide +kernel, by decide +kernel⟩
def reprW (nm : Str) (n : Nat) : Str := fstr [nm, "(", iT (n : Int), " templates, ", iT ((0 : Nat) : Int), " guards)"]
def spRepr (K : PySem.W.Frag) : Sp := fun vs H Q _ => ∃ (x C dx b : Addr) (fs : List (Str × V)) (h : V) (nm : Str) (u : Value) (ks : List (Str × Int)) (ts : List Tmp), vs = [.ref x] ∧ Sc K C ∧ H x = some (.ins C dx fs) ∧ fs.lookup ("book" : Str) = some (.ref b) ∧ fs.lookup ("held" : Str) = some h ∧ fs.lookup ("LABEL" : Str) = none ∧ Con K C "LABEL" (.str nm) u ∧ nm.length ≤ 20 ∧ BookAt K H b ks ts ∧ ts.length ≤ 9 ∧ Dp K H h (.tuple []) ∧ ∀ H', Ex H H' → Q (.str (reprW nm ts.length)) H'
theorem ok_Workshop___repr__ (W : Wd w.params mg) : Ok w mg base CX0 3 a_Workshop___repr__ fd_Workshop___repr__ ["self"] (spRepr (Kw w)) := by
  refine (F_Workshop___repr__ w.params).ok sc_Workshop___repr__ (fun vs H Q E h => ?_) (fun cdv A outer s H vs Q E hr h => ?_)
  · obtain ⟨x, C, dx, b, fs, hv, nm, u, ks, ts, rfl, _⟩ := h
    rfl
  · obtain ⟨x, C, dx, b, fs, hv, nm, u, ks, ts, rfl, sc, hx, h1, h2, h3, hc, hz, hb, ht, hd, k⟩ := h
    refine ⟨_, (pss_one (ps_ret (pe_joined (.cons (pe_fmt (pe_con (pv 0) rfl)) (.cons pe_str (.cons (pe_fmt (pe_callB (call_lenO spc_Book___len__ (ok_Book___len__ W) (hr.mono (by decide)) (b_Book___len__ _) pass0) rfl (n_len W) boot_len (pa_cons (pe_fld (pv 0) rfl) pa_nil))) (.cons pe_str (.cons (pe_fmt (pe_callB call_len_seq rfl (n_len W) boot_len (pa_cons (pe_fld (pv 0) rfl) pa_nil))) (.cons pe_str .nil))))))))), ?_⟩
    refine s_ret (v := .str (reprW nm ts.length)) (ev_joined (.cons (ev_fmtS (ev_con (ev_var rfl) hx sc.cls hc h3) (by omega)) (.cons ev_c (.cons (ev_fmtI (ev_lenBook (ev_fld (ev_var rfl) hx sc.cls sc.book h1) hb (by omega)) (log_small (by omega) (by omega))) (.cons ev_c
      (.cons (ev_fmtI (ev_lenTD (ed_fld (ev_var rfl) hx sc.cls sc.held h2 hd)) (log_small (by decide) (by decide))) (.cons ev_c .nil)))))) ?_) fun H1 e1 => k H1 e1
    have h9 := iT_len (i := (ts.length : Int)) (by omega) (by omega)
    show nm.length + (1 + ((iT (ts.length : Int)).length + (12 + (1 + (8 + 0))))) ≤ 100000
    omega
/-! ### check_use, move -/
theorem sc_Workshop_check_use : FnScope ["self", "word", "value"] ["self", "word", "value"] (defScope s_Workshop_check_use) := ⟨rfl, rfl, rfl, by decide +kernel, rfl, by decide +kernel, by decide +kernel⟩
def spUse0 : Sp := fun vs H Q _ => ∃ (a b c : V), vs = [a, b, c] ∧ ∀ H', Ex H H' → Q .non H'
theorem ok_Workshop_check_use (W : Wd w.params mg) : Ok w mg base CX0 1 a_Workshop_check_use fd_Workshop_check_use ["self", "word", "value"] spUse0 := by
  refine (F_Workshop_check_use w.params).ok sc_Workshop_check_use (fun vs H Q E h => ?_) (fun cdv A outer s H vs Q E hr h => ?_)
  · obtain ⟨a, b, c, rfl, _⟩ := h
    rfl
  · obtain ⟨a, b, c, rfl, k⟩ := h
    refine ⟨_, (pss_one (ps_ret pe_non)), ?_⟩
    exact s_ret (v := .non) ev_c fun H1 e1 => k H1 e1
theorem sc_Workshop_move : FnScope ["self", "book"] ["self", "book"] (defScope s_Workshop_move) := ⟨rfl, rfl, rfl, by decide +kernel, rfl, by decide +kernel, by decide +kernel⟩
def spMove (K : PySem.W.Frag) : Sp := fun vs H Q _ => ∃ (x C dx : Addr) (fs : List (Str × V)) (b : V), vs = [.ref x, b] ∧ Sc K C ∧ H x = some (.ins C dx fs) ∧ fs.length < 1000 ∧ ∀ H', Ex H H' → H' x = some (.ins C dx fs) → Q .non (upd H' x (.ins C dx (putF "book" b fs)))
theorem ok_Workshop_move (W : Wd w.params mg) : Ok w mg base CX0 1 a_Workshop_move fd_Workshop_move ["self", "book"] (spMove (Kw w)) := by
  refine (F_Workshop_move w.params).ok sc_Workshop_move (fun vs H Q E h => ?_) (fun cdv A outer s H vs Q E hr h => ?_)
  · obtain ⟨x, C, dx, fs, b, rfl, _⟩ := h
    rfl
  · obtain ⟨x, C, dx, fs, b, rfl, sc, hx, hl, k⟩ := h
    refine ⟨_, (pss_one (ps_fld (pv 0) (pv 1) rfl)), ?_⟩
    exact s_fld (ev_var rfl) (ev_var rfl) hx sc.cls sc.book hl fun H1 e1 hx1 => k H1 e1 hx1
/-! ### Workshop.__init__ -/
theorem sc_Workshop___init__ : FnScope ["self", "book"] ["self", "book"] (defScope s_Workshop___init__) := ⟨rfl, rfl, rfl, by decide +kernel, rfl, by decide +kernel, by decide +kernel⟩
def spWInit (K : PySem.W.Frag) (C : Addr) : Sp := fun vs H Q E => ∃ (x dx : Addr), H x = some (.ins C dx []) ∧
  ((∃ (b : Addr) (ks : List (Str × Int)) (ts : List Tmp), vs = [.ref x, .ref b] ∧ Bk K H x b ks ts ∧ ∀ H', Off [x] H H' → (∀ d, ShopAt K C H' x ks ts d false 0) → Q .non H') ∨
   (∃ (y : V) (t : Value), vs = [.ref x, y] ∧ TyX K H y t ∧ kitOne K t (.ref 835) = some false ∧ Xc (Ex H) 127 "value" y E))
theorem ok_Workshop___init__ (W : Wd w.params mg) {C : Addr} (sc : Sc (Kw w) C) : OkX w mg base 4 a_Workshop___init__ fd_Workshop___init__ ["self", "book"] (spWInit (Kw w) C) := by
  refine (F_Workshop___init__ w.params).okXN sc_Workshop___init__ (fun vs H Q E h => ?_) (fun cdv A outer s H vs Q E hr h => ?_)
  · obtain ⟨x, dx, _, ⟨b, ks, ts, rfl, _⟩ | ⟨y, t, rfl, _⟩⟩ := h <;> rfl
  · have h := h
    refine ⟨_, (pss_cons (ps_expr (pe_call (ok_check_book W) (hr.mono (by decide)) rfl (g_check_book W) (F_check_book _).kp (b_check_book _) .nil (passX (L2N.takes_of rfl rfl rfl rfl) (fun _ _ _ _ h => h)) (pa_cons (pv 1) pa_nil)))
    (pss_cons (ps_fld (pv 0) (pv 1) rfl)
    (pss_cons (ps_fld (pv 0) (pe_tup pa_nil) rfl)
    (pss_cons (ps_fld (pv 0) (pe_tup pa_nil) rfl)
    (pss_cons (ps_fld (pv 0) (pe_tup pa_nil) rfl)
    (pss_cons (ps_fld (pv 0) (pe_tup pa_nil) rfl)
    (pss_one (ps_fld (pv 0) pe_bl rfl)))))))), ?_⟩
    obtain ⟨x, dx, hx, ⟨b, ks, ts, rfl, hb, k⟩ | ⟨y, t, rfl, ht, hk, k⟩⟩ := h
    · obtain ⟨dxb, u, v, r, n, tt, hbx, _⟩ := id hb.1
      refine ⟨_, rfl, .ref b, .ref 835, true, rfl, ty_Book hbx, kit_Book_Book, fun _ H1 e1 => ?_, fun z => by cases z⟩
      have hb1 := hb.ex e1
      refine q_fld (v := .ref b) (ev_var rfl) (ev_var rfl) (e1 _ _ hx) sc.cls sc.book (by decide) fun H2 e2 hx2 => ?_
      have k2 := (Kp.of (x := x) (e1.trans e2)).trans (Kp.upd (u := .ins C dx (putF "book" (.ref b) [])) hx2)
      refine q_fldD (d := .tuple []) (ed_tup ea_nilD (by decide)) (ev_var rfl) upd_same sc.cls sc.log (show (1 : Nat) < 1000 by decide) fun v1 H3 e3 d1 hx3 => ?_
      have k3 := (Kp.of (x := x) e3).trans (Kp.upd (u := .ins C dx (putF "log" v1 (putF "book" (.ref b) []))) hx3)
      have d1 := d1.tx rfl (Tx.ins (u := .ins C dx (putF "log" v1 (putF "book" (.ref b) []))) hx3)
      refine q_fldD (d := .tuple []) (ed_tup ea_nilD (by decide)) (ev_var rfl) upd_same sc.cls sc.held (show (2 : Nat) < 1000 by decide) fun v2 H4 e4 d2 hx4 => ?_
      have k4 := (Kp.of (x := x) e4).trans (Kp.upd (u := .ins C dx (putF "held" v2 (putF "log" v1 (putF "book" (.ref b) [])))) hx4)
      have d2 := d2.tx rfl (Tx.ins (u := .ins C dx (putF "held" v2 (putF "log" v1 (putF "book" (.ref b) [])))) hx4)
      refine q_fldD (d := .tuple []) (ed_tup ea_nilD (by decide)) (ev_var rfl) upd_same sc.cls sc.past (show (3 : Nat) < 1000 by decide) fun v3 H5 e5 d3 hx5 => ?_
      have k5 := (Kp.of (x := x) e5).trans (Kp.upd (u := .ins C dx (putF "past" v3 (putF "held" v2 (putF "log" v1 (putF "book" (.ref b) []))))) hx5)
      have d3 := d3.tx rfl (Tx.ins (u := .ins C dx (putF "past" v3 (putF "held" v2 (putF "log" v1 (putF "book" (.ref b) []))))) hx5)
      refine q_fldD (d := .tuple []) (ed_tup ea_nilD (by decide)) (ev_var rfl) upd_same sc.cls sc.sites (show (4 : Nat) < 1000 by decide) fun v4 H6 e6 d4 hx6 => ?_
      have k6 := (Kp.of (x := x) e6).trans (Kp.upd (u := .ins C dx (putF "sites" v4 (putF "past" v3 (putF "held" v2 (putF "log" v1 (putF "book" (.ref b) [])))))) hx6)
      have d4 := d4.tx rfl (Tx.ins (u := .ins C dx (putF "sites" v4 (putF "past" v3 (putF "held" v2 (putF "log" v1 (putF "book" (.ref b) [])))))) hx6)
      refine s_fld (v := .bl false) ev_c (ev_var rfl) upd_same sc.cls sc.busy (show (5 : Nat) < 1000 by decide) fun H7 e7 hx7 => ?_
      have k7 := (Kp.of (x := x) e7).trans (Kp.upd (u := .ins C dx (fS' (.ref b) v1 v2 v3 v4 false)) hx7)
      refine k _ ((((((k2.trans k3).trans k4).trans k5).trans k6).trans k7).off) fun d => ⟨dx, b, v1, v2, v3, v4, upd_same, hb.kp (((((k2.trans k3).trans k4).trans k5).trans k6).trans k7), d1.tx rfl (((k4.trans k5).trans k6).trans k7).tx, d2.tx rfl ((k5.trans k6).trans k7).tx, ?_, d4.tx rfl k7.tx⟩
      obtain ⟨a, xs, rfl, hs, hxs⟩ := dp_tup (d3.tx rfl (k6.trans k7).tx)
      have := hxs.len
      exact ⟨a, xs, rfl, hs, this, fun v hv => by
        cases xs with
        | nil => cases hv
        | cons y ys => cases this⟩
    · exact ⟨_, rfl, y, t, false, rfl, ht, hk, fun z => by (cases z), fun _ d H1 e1 hd => k d H1 e1 hd⟩
end
end K76
set_option maxHeartbeats 4000000
/-! Wk: more readings: pairs, choices, starred tuples, the last one off, loops over any tuple. -/
namespace Ed
open PySem L2 Evl StX
section
variable {K : PySem.W.Frag} {σ : L2.St} {H : Hp} {te ta tb tl : TE} {tr : TA} {t : TT} {d d1 d2 : PyData} {ds es : List PyData} {D : Ends} {tz tu : TS} {a C dx : Addr} {fs : List (Str × V)} {f : Str} {v : V} {xs ys : List V} {i j l : Nat}
theorem q_parD (h : EvAD K tr σ H [d1, d2]) (k : ∀ v1 v2 H1, Ex H H1 → Dp K H1 v1 d1 → Dp K H1 v2 d2 → tz D ((σ.set i (some v1)).set j (some v2)) H1) : tSeq (tPar i j tr) tz D σ H := h H (Ex.refl H) _ fun vs H1 e1 hd => by
  cases hd with
  | cons a1 r =>
    cases r with
    | cons a2 r =>
      cases r
      exact ⟨_, _, rfl, k _ _ H1 e1 a1 a2⟩
theorem q_par3 {v1 v2 v3 : V} (h : EvA tr σ H [v1, v2, v3]) (k : ∀ H1, Ex H H1 → tz D (((σ.set i (some v1)).set j (some v2)).set l (some v3)) H1) : tSeq (tPar3 i j l tr) tz D σ H := h H (Ex.refl H) _ fun H1 e1 => ⟨_, _, _, rfl, k H1 e1⟩
theorem q_asgIfT (h : EvT t σ H true) (k : ∀ H1, Ex H H1 → ta σ H1 fun v H2 => tz D (σ.set i (some v)) H2) : tSeq (tAsg (tIf t ta tb) (gName i)) tz D σ H := h H (Ex.refl H) _ fun H1 e1 => by
  rw [if_pos rfl]
  exact k H1 e1
theorem q_asgIfF (h : EvT t σ H false) (k : ∀ H1, Ex H H1 → tb σ H1 fun v H2 => tz D (σ.set i (some v)) H2) : tSeq (tAsg (tIf t ta tb) (gName i)) tz D σ H := h H (Ex.refl H) _ fun H1 e1 => by
  rw [if_neg (by decide)]
  exact k H1 e1
theorem ea_star (h : Ev te σ H (.ref a)) (hs : SqT K H a xs) (hr : EvA tr σ H ys) : EvA (tStar K te tr) σ H (xs ++ ys) := fun H1 e Q q =>
  h H1 e _ fun H2 e2 => ⟨a, xs, rfl, .inl (ex_t (e.trans e2) hs), hr H2 (e.trans e2) _ fun H3 e3 => q H3 (e2.trans e3)⟩
theorem ea_starD (h : EvD K te σ H (.tuple ds)) (hr : EvAD K tr σ H es) : EvAD K (tStar K te tr) σ H (ds ++ es) := fun H1 e Q q =>
  h H1 e _ fun v H2 e2 hd => by
    obtain ⟨a, xs, rfl, hs, hx⟩ := dp_tup hd
    exact ⟨a, xs, rfl, .inl hs, hr H2 (e.trans e2) _ fun vs H3 e3 hv => q _ H3 (e2.trans e3) ((hx.ex e3).app hv)⟩
theorem s_fldU (hv : EvU te σ H xs) (ho : Ev ta σ H (.ref a)) (ha : H a = some (.ins C dx fs)) (c : Cls K C) (n : NoAttr K C f) (hl : fs.length < 1000)
    (k : ∀ p H1, H p = none → Ex H H1 → H1 p = some (.tup xs) → H1 a = some (.ins C dx fs) → D.nx σ (upd H1 a (.ins C dx (putF f (.ref p) fs)))) : sFld K ta te f D σ H :=
  hv H (Ex.refl H) _ fun p H1 hp e1 h1 => ho H1 e1 _ fun H2 e2 => ⟨a, C, dx, fs, rfl, e2 _ _ (e1 _ _ ha), c, n, hl, k p H2 hp (e1.trans e2) (e2 _ _ h1) (e2 _ _ (e1 _ _ ha))⟩
theorem q_fldU (hv : EvU te σ H xs) (ho : Ev ta σ H (.ref a)) (ha : H a = some (.ins C dx fs)) (c : Cls K C) (n : NoAttr K C f) (hl : fs.length < 1000)
    (k : ∀ p H1, H p = none → Ex H H1 → H1 p = some (.tup xs) → H1 a = some (.ins C dx fs) → tz D σ (upd H1 a (.ins C dx (putF f (.ref p) fs)))) : tSeq (sFld K ta te f) tz D σ H := s_fldU (D := { D with nx := tz D }) hv ho ha c n hl k
theorem cutV_last {x : V} : cutV (xs ++ [x]) none (some (-1)) = xs := by
  have h : HT.sIx (xs ++ [x]).length (xs ++ [x]).length (some (-1)) = xs.length := by
    show (if (-1 : Int) < 0 then ((-1 : Int) + ((xs ++ [x]).length : Nat)).toNat else min ((-1 : Int)).toNat (xs ++ [x]).length) = _
    rw [if_pos (by decide), List.length_append, List.length_singleton]
    omega
  unfold cutV
  rw [h]
  show ((xs ++ [x]).drop 0).take (xs.length - 0) = xs
  rw [List.drop_zero, Nat.sub_zero, List.take_left]
theorem slT_last {x : V} (hs : SqT K H a (xs ++ [x])) {Q : VK} (q : ∀ p, H p = none → Q (.ref p) (upd H p (.tup xs))) : rSlT K (.ref a) none (some (-1)) H Q := by
  refine ⟨a, _, rfl, hs, ?_, fun p hp => by rw [cutV_last]; exact q p hp⟩
  rintro ⟨_, h⟩
  have h1 : HT.sIx (xs ++ [x]).length (xs ++ [x]).length (some (-1)) = xs.length := by
    show (if (-1 : Int) < 0 then ((-1 : Int) + ((xs ++ [x]).length : Nat)).toNat else min ((-1 : Int)).toNat (xs ++ [x]).length) = _
    rw [if_pos (by decide), List.length_append, List.length_singleton]
    omega
  rw [h1, List.length_append, List.length_singleton] at h
  omega
abbrev tNeg1 : TE := tUn (rU fun i => .int (-i)) (tC (.int 1))
theorem ev_neg1 : Ev tNeg1 σ H (.int (-1)) := fun H1 e Q q => ⟨1, rfl, q H1 (Ex.refl H1)⟩
theorem eu_last {x : V} (h : Ev te σ H (.ref a)) (hs : SqT K H a (xs ++ [x])) : EvU (tSl (rSlT K) te tNoPart (tPart tNeg1)) σ H xs := fun H1 e Q q =>
  h H1 e _ fun H2 e2 => ⟨1, rfl, -1, rfl, slT_last (ex_t (e.trans e2) hs) fun p hp => q p _ (fresh_back e2 hp) (e2.trans (Ex.new hp)) upd_same⟩
/-- for i, x in enumerate(t), t any tuple: it stands where tuples stand -/
theorem s_forEnV {p q : Nat} (h : Ev tl σ H (.ref a)) (hq : SqT K H a xs) (Pv : Nat → L2.St → Hp → Prop) (h0 : ∀ H1, Ex H H1 → Pv 0 σ H1)
    (hs : ∀ H0, Ex H H0 → ∀ (i : Nat) (x : V) (σ' : L2.St) (H' H'' : Hp), xs[i]? = some x → Tx H0 H' → Pv i σ' H' → Ex H' H'' →
      tu { D with nx := fun σ3 H3 => Tx H0 H3 ∧ Pv (i + 1) σ3 H3, ct := fun σ3 H3 => Tx H0 H3 ∧ Pv (i + 1) σ3 H3, bk := D.nx } ((σ'.set p (some (.int (i : Int)))).set q (some x)) H'')
    (hd : ∀ σ' H', Pv xs.length σ' H' → D.nx σ' H') : tFor (iEnumT K (tCons tl tNil)) (gTup K 2 (gCons (gName p) (gCons (gName q) gNil))) tu D σ H := h H (Ex.refl H) _ fun H1 e1 => by
  refine ⟨a, xs, rfl, ex_t e1 hq, for_it walk_enumT (fun i σ' H' => Tx H1 H' ∧ Pv i σ' H') ⟨Tx.refl H1, h0 H1 e1⟩ (fun i σ' H' _ p => tx_t p.1 (ex_t e1 hq)) (fun i y σ' H' H'' hlt p yy => ?_) fun σ' H' p => hd σ' H' p.2⟩
  obtain ⟨T, y1, x, rfl, hT, rfl, h1, h2⟩ := yy
  cases h1
  have e2 : Ex H' (upd H' T (.tup [.int (i : Int), x])) := Ex.new hT
  refine ⟨T, _, rfl, SqT.of upd_same, rfl, _, _, rfl, _, _, rfl, rfl, ?_⟩
  exact hs H1 e1 i x σ' H' _ h2 p.1 p.2 e2
theorem q_forEnV {p q : Nat} (h : Ev tl σ H (.ref a)) (hq : SqT K H a xs) (Pv : Nat → L2.St → Hp → Prop) (h0 : ∀ H1, Ex H H1 → Pv 0 σ H1)
    (hs : ∀ H0, Ex H H0 → ∀ (i : Nat) (x : V) (σ' : L2.St) (H' H'' : Hp), xs[i]? = some x → Tx H0 H' → Pv i σ' H' → Ex H' H'' →
      tu { D with nx := fun σ3 H3 => Tx H0 H3 ∧ Pv (i + 1) σ3 H3, ct := fun σ3 H3 => Tx H0 H3 ∧ Pv (i + 1) σ3 H3, bk := tz D } ((σ'.set p (some (.int (i : Int)))).set q (some x)) H'')
    (hd : ∀ σ' H', Pv xs.length σ' H' → tz D σ' H') : tSeq (tFor (iEnumT K (tCons tl tNil)) (gTup K 2 (gCons (gName p) (gCons (gName q) gNil))) tu) tz D σ H := s_forEnV (D := { D with nx := tz D }) h hq Pv h0 hs hd
end
section
theorem pi_enumTK {X : Cx} {K : PySem.W.Frag} {e : Expr} {ta : TA} {p pos tpos : Pos} {elts : List Expr} {kk : Nat} (hK : X.K = K) (hg : Gl X "enumerate") (hm : X.mg "enumerate" = none) (ha : PA X [e] ta) (hs : starEach [e] X.env = [(false, eval e X.env)] := by rfl) :
    PI X (.Tuple elts kk tpos) (.Call (.Name "enumerate" p) [e] [] pos) (iEnumT K ta) := hK ▸ pi_enumT hg hm ha hs
theorem ev_guards0 {K : PySem.W.Frag} {σ : L2.St} {H : Hp} {tr : TA} {E : XK} {g b i : V} (h : EvA tr σ H [g, b, i]) (hd : Dp K H g (.tuple [])) : Ev (tCall (K76.spGuards0 K) [] E tr) σ H .non := fun H1 e Q q =>
  h H1 e _ fun H2 e2 => ⟨g, b, i, rfl, hd.ex (e.trans e2), fun H3 e3 => q H3 (e2.trans e3)⟩
end
end Ed
set_option maxHeartbeats 4000000
namespace K76
open PySem PySem.W PySem.Calls PyProof.Rows L2 Evl Ed
/-! ### names in plain words -/
def Nm4 (s : Str) : Prop := Nm s ∧ s.cps.size ≤ 4
def sg (c : Nat) : Str := ⟨#[c]⟩
def ofC (cs : List Nat) : Str := ⟨cs.toArray⟩
theorem str_ext {a b : Str} (h : a.cps = b.cps) : a = b := by
  cases a
  cases b
  cases h
  rfl
theorem join_sg : ∀ cs : List Nat, Str.join "" (cs.map sg) = ofC cs
  | [] => str_ext rfl
  | [c] => str_ext rfl
  | c :: d :: r => by
    show (sg c ++ "" ++ Str.join "" ((d :: r).map sg)) = _
    rw [join_sg (d :: r)]
    refine str_ext ?_
    show (#[c] ++ #[] ++ (d :: r).toArray) = (c :: d :: r).toArray
    simp
theorem tjoin_sg (cs : List Nat) : Txt.join "" (cs.map sg) = ofC cs := (TL.join_eq _ _).trans (join_sg cs)
/-- a stem: one to four letters -/
structure Stm (cs : List Nat) : Prop where
  lo : 1 ≤ cs.length
  hi : cs.length ≤ 4
  az : ∀ c ∈ cs, 97 ≤ c ∧ c ≤ 122
def nmK (cs : List Nat) (at_ base k : Nat) : Str := ofC (cs.set at_ (97 + (base + k) % 26))
theorem nmK_ok {cs : List Nat} (h : Stm cs) (a b k : Nat) : Nm4 (nmK cs a b k) := by
  have hs : (nmK cs a b k).cps.size = cs.length := by
    show (cs.set a (97 + (b + k) % 26)).toArray.size = _
    simp
  refine ⟨⟨by rw [hs]; exact h.lo, by rw [hs]; have := h.hi; omega, fun c hc => ?_⟩, by rw [hs]; exact h.hi⟩
  have hc : c ∈ (cs.set a (97 + (b + k) % 26)).toArray.toList := hc
  rcases List.mem_or_eq_of_mem_set hc with hc | rfl
  · exact h.az c hc
  · omega
theorem nmK_inj {cs : List Nat} {a b i j : Nat} (ha : a < cs.length) (hi : i < 26) (hj : j < 26) (h : nmK cs a b i = nmK cs a b j) : i = j := by
  have h1 : cs.set a (97 + (b + i) % 26) = cs.set a (97 + (b + j) % 26) := by
    have h2 : (cs.set a (97 + (b + i) % 26)).toArray = (cs.set a (97 + (b + j) % 26)).toArray := congrArg Str.cps h
    exact congrArg Array.toList h2
  have h3 : (cs.set a (97 + (b + i) % 26))[a]? = (cs.set a (97 + (b + j) % 26))[a]? := by rw [h1]
  rw [List.getElem?_set_self ha, List.getElem?_set_self ha] at h3
  have := Option.some.inj h3
  omega
theorem names_nodup {cs : List Nat} {a b m : Nat} (ha : a < cs.length) (hm : m ≤ 26) : ((List.range m).map (nmK cs a b)).Nodup := by
  rw [List.Nodup, List.pairwise_map]
  refine List.Pairwise.imp_of_mem (fun {i j} hi hj hne e => hne (nmK_inj ha (by have := List.mem_range.mp hi; omega) (by have := List.mem_range.mp hj; omega) e)) List.nodup_range
theorem letters_at {r : Nat} (h : r < 26) : ("abcdefghijklmnopqrstuvwxyz" : Str).cps.toList[r]? = some (97 + r) := by
  have : ∀ r, r < 26 → ("abcdefghijklmnopqrstuvwxyz" : Str).cps.toList[r]? = some (97 + r) := by decide +kernel
  exact this r h
section
variable {K : PySem.W.Frag} {σ : L2.St} {H : Hp} {E : XK} {tp tm te : TE} {ta : TA} {p : Addr} {m : Int} {n d M j : Nat} {vs : List Nat}
theorem draw_at {Q : VK} (hp : Ev tp σ H (.ref p)) (hm : Ev tm σ H (.int m)) (h : PoolAt H p n) (hn : n ≤ 100000) (h1 : 1 ≤ m) (h2 : m ≤ 1000000) (k : ∀ (r : Nat) H', (r : Int) < m → Kl p H H' → PoolAt H' p (n + 1) → Q (.int (r : Int)) H') : tCall spDraw [] E (tCons tp (tCons tm tNil)) σ H Q :=
  hp H (Ex.refl H) _ fun H1 e1 => hm H1 e1 _ fun H2 e2 => ⟨p, m, n, rfl, h.ex (e1.trans e2), hn, h1, h2, fun r H' r0 r1 kl po => by
    obtain ⟨r', rfl⟩ : ∃ r' : Nat, r = (r' : Int) := ⟨r.toNat, by omega⟩
    exact k r' H' r1 ((Kl.of (e1.trans e2)).trans kl) po⟩
/-- [e for k in range(..)], drawing from a pool in each turn -/
theorem lc_pool {Q : VK} {Py : Nat → V → Prop} {Pm : Nat → Prop} (hM : M ≤ 40000) (hp : ∃ o, H p = some o) (hw : ∀ x, wipe ((wipe σ vs).set j (some x)) vs = wipe σ vs)
    (harg : ∀ Q : List V → Hp → Prop, (∀ (m : Nat) H1, m ≤ M → Pm m → Kl p H H1 → PoolAt H1 p n → Q [.int (m : Int)] H1) → ta σ H Q)
    (he : ∀ (i : Nat) H1, i < M → Kl p H H1 → PoolAt H1 p (n + d * i) → ∀ Q : VK, (∀ y H2, Kl p H1 H2 → PoolAt H2 p (n + d * (i + 1)) → Py i y → Q y H2) → te ((wipe σ vs).set j (some (.int (i : Int)))) H1 Q)
    (k : ∀ l ys H2, Pm ys.length → ys.length ≤ M → H l = none → Kl p H H2 → PoolAt H2 p (n + d * M) → H2 l = some (.lst ys) → (∀ (i : Nat) y, ys[i]? = some y → Py i y) → Q (.ref l) H2) : tLc (iRng1 ta) (gName j) tYes te vs σ H Q := by
  refine harg _ fun m H1 hm pm k1 po1 => ⟨(m : Int), rfl, by omega, by omega, fun D hD => ?_⟩
  obtain ⟨o, ho⟩ := hp
  have hDp : D ≠ p := fun z => by
    subst z
    obtain ⟨_, _, _, h, _⟩ := po1
    rw [h] at hD
    cases hD
  have hDH : H D = none := by
    cases q : H D with
    | none => rfl
    | some u =>
      rw [k1.at_ q hDp] at hD
      cases hD
  refine lc_range (n := m) (fun i H' => ∃ acc, H' D = some (.lst acc) ∧ acc.length = i ∧ (∀ (a : Nat) y, acc[a]? = some y → Py a y) ∧ Kl p H1 H' ∧ PoolAt H' p (n + d * i)) ⟨[], upd_same, rfl, fun a y h => by simp at h, .of (Ex.new hD), po1.ex (Ex.new hD)⟩ (fun i H' hi ⟨acc, h1, h2, h3, h4, h5⟩ => ?_) (fun H' ⟨acc, h1, h2, h3, h4, h5⟩ => ?_)
  · show wipe ((wipe σ vs).set j (some (.int (0 + (i : Int))))) vs = wipe σ vs ∧ _
    rw [Int.zero_add]
    refine ⟨hw _, ?_⟩
    show te _ H' _
    refine he i H' (by omega) (k1.trans h4) h5 _ fun y H2 k2 po2 hy => ?_
    have hD2 := k2.at_ h1 hDp
    refine ⟨acc, hD2, sz_lt (by omega), acc ++ [y], upd_same, by rw [List.length_append, List.length_singleton, h2], fun a z hz => ?_, ⟨fun b o hb e => ?_, (h4.trans k2).tx.trans (Tx.lst hD2)⟩, ?_⟩
    · rcases Nat.lt_or_ge a acc.length with c | c
      · rw [List.getElem?_append_left c] at hz
        exact h3 a z hz
      · rw [List.getElem?_append_right c] at hz
        have e0 : a - acc.length = 0 := by
          have := (List.getElem?_eq_some_iff.mp hz).1
          simp at this
          omega
        rw [e0] at hz
        cases hz
        have : a = i := by omega
        rw [this]
        exact hy
    · have hbD : b ≠ D := fun z => by
        subst z
        rw [hD] at e
        cases e
      rw [upd_ne hbD]
      exact (h4.trans k2).off b o hb e
    · obtain ⟨a, b, c, q1, q2⟩ := po2
      exact ⟨a, b, c, (upd_ne (Ne.symm hDp)).trans q1, q2⟩
  · refine k D acc H' (by rw [h2]; exact pm) (by omega) hDH (k1.trans h4) (h5.mono ?_) h1 h3
    exact Nat.add_le_add_left (Nat.mul_le_mul_left _ hm) _
end
theorem singles {ys : List V} (h : ∀ (i : Nat) y, ys[i]? = some y → ∃ c, y = .str (sg c) ∧ 97 ≤ c ∧ c ≤ 122) : ∃ cs : List Nat, ys = cs.map (fun c => V.str (sg c)) ∧ ∀ c ∈ cs, 97 ≤ c ∧ c ≤ 122 := by
  induction ys with
  | nil => exact ⟨[], rfl, fun c hc => by cases hc⟩
  | cons y ys ih =>
    obtain ⟨c, rfl, hc⟩ := h 0 y rfl
    obtain ⟨cs, rfl, hcs⟩ := ih fun i z hz => h (i + 1) z (by simpa using hz)
    exact ⟨c :: cs, rfl, fun d hd => by
      rcases List.mem_cons.mp hd with rfl | hd
      · exact hc
      · exact hcs d hd⟩
section
variable {w : World} {mg : Str → Option Value} {base : Heap}
/-! ### _law_names -/
theorem sc__law_names : FnScope ["_law_pool_here", "_law_many", "_law_letters", "_law_found", "_law_k", "_law_stem", "_law_at", "_law_base", "_law_own"] ["_law_pool_here", "_law_many"] (defScope s__law_names) := ⟨rfl, rfl, rfl, by decide +kernel, rfl, by decide +kernel, by decide +kernel⟩
def spNames : Sp := fun vs H Q _ => ∃ (p : Addr) (m n : Nat), vs = [.ref p, .int (m : Int)] ∧ PoolAt H p n ∧ n ≤ 90000 ∧ m ≤ 26 ∧
  ∀ l (ss : List Str) H', H l = none → Kl p H H' → PoolAt H' p (n + 8) → H' l = some (.lst (ss.map V.str)) → ss.length = m → ss.Nodup → (∀ s ∈ ss, Nm4 s) → Q (.ref l) H'
theorem ok__law_names (W : Wd w.params mg) : Ok w mg base CX0 2 a__law_names fd__law_names ["_law_pool_here", "_law_many"] spNames := by
  refine (F__law_names w.params).ok sc__law_names (fun vs H Q E h => ?_) (fun cdv A outer s H vs Q E hr h => ?_)
  · obtain ⟨p, m, n, rfl, _⟩ := h
    rfl
  · obtain ⟨p, m, n, rfl, po, hn, hm, k⟩ := h
    refine ⟨_, (pss_cons (ps_asg (pe_tup (pa_cons pe_str (pa_cons (pe_lst pa_nil) pa_nil))) (pg_tup rfl (pgs_cons (pg_name (i := 2) sc__law_names.nd rfl (Or.inr rfl)) (pgs_cons (pg_name (i := 3) sc__law_names.nd rfl (Or.inl rfl)) pgs_nil))))
    (pss_cons (ps_setLc (i := 5) (own := [("_law_k", 4)]) (g := gName 4) (tt := tYes) rfl sc__law_names.nd rfl rfl (sw_true rfl rfl rfl (by decide +kernel)) (pi_range1 rfl (n_range W) (pa_cons (pe_op op_add pe_int (pe_call (ok__law_draw W) (hr.mono (by decide)) rfl (g__law_draw W) (F__law_draw _).kp (b__law_draw _) .nil pass0 (pa_cons (pv 0) (pa_cons pe_int pa_nil)))) pa_nil)) (blkOk_by (own := [("_law_k", 4)]) (N := ["_law_pool_here", "_law_many", "_law_letters", "_law_found", "_law_k", "_law_stem", "_law_at", "_law_base", "_law_own"]) (sc := defScope s__law_names) (by decide +kernel)) (fun _ _ _ _ _ => (pg_name (i := 4) sc__law_names.nd rfl (Or.inl rfl))) (fun _ _ _ _ _ => pts_nil) (fun _ _ _ _ _ => (pe_ix ix_str (pv 2) (pe_call (ok__law_draw W) (hr.mono (by decide)) rfl (g__law_draw W) (F__law_draw _).kp (b__law_draw _) .nil pass0 (pa_cons (pv 0) (pa_cons pe_int pa_nil))) (fun _ _ => rfl))))
    (pss_cons (ps_par (i := 6) (j := 7) rfl sc__law_names.nd rfl rfl (by decide) rfl rfl (pa_cons (pe_call (ok__law_draw W) (hr.mono (by decide)) rfl (g__law_draw W) (F__law_draw _).kp (b__law_draw _) .nil pass0 (pa_cons (pv 0) (pa_cons (pe_callB call_len_seq rfl (n_len W) boot_len (pa_cons (pv 5) pa_nil)) pa_nil))) (pa_cons (pe_call (ok__law_draw W) (hr.mono (by decide)) rfl (g__law_draw W) (F__law_draw _).kp (b__law_draw _) .nil pass0 (pa_cons (pv 0) (pa_cons pe_int pa_nil))) pa_nil)) rfl)
    (pss_cons (ps_for PassesOwn.never rfl (pi_range1 rfl (n_range W) (pa_cons (pv 1) pa_nil)) (pg_name (i := 4) sc__law_names.nd rfl (Or.inl rfl))
    (pss_cons (ps_set (i := 8) sc__law_names.nd rfl (Or.inl rfl) (pe_callTy call_list_of rfl (n_list W) boot_list (pa_cons (pv 5) pa_nil)))
    (pss_cons (ps_asg (pe_ix ix_str (pv 2) (pe_op op_mod (pe_callTy call_int1 rfl (n_int W) boot_int (pa_cons (pe_op op_add (pv 7) (pv 4)) pa_nil)) pe_int) (fun _ _ => rfl)) (pg_sub (pv 8) (pv 6) set_list))
    (pss_one (ps_expr (pe_bm PySem.F.plainAttrs_list PySem.F.slot_list_append PySem.F.type_list_append mt_append (pv 3) (pa_cons (pe_join pe_str (pv 8)) pa_nil)))))))
    (pss_one (ps_ret (pv 3))))))), ?_⟩
    refine q_asgG ?_
    refine ⟨sz_of (by decide), fun l hl => ⟨sz_of (show (2 : Nat) ≤ 100000 by decide), fun t ht => ?_⟩⟩
    refine ⟨t, _, rfl, SqT.of upd_same, rfl, _, _, rfl, _, _, rfl, rfl, ?_⟩
    have e1 : Ex H (upd H l (.lst [])) := Ex.new hl
    have e2 : Ex (upd H l (.lst [])) (upd (upd H l (.lst [])) t (.tup [.str "abcdefghijklmnopqrstuvwxyz", .ref l])) := Ex.new ht
    have hl2 : (upd (upd H l (.lst [])) t (.tup [.str "abcdefghijklmnopqrstuvwxyz", .ref l])) l = some (.lst []) := e2 _ _ upd_same
    have e12 := e1.trans e2
    generalize (upd (upd H l (.lst [])) t (.tup [.str "abcdefghijklmnopqrstuvwxyz", .ref l])) = H2 at e12 hl2
    clear e2 e1 ht
    have hlp : l ≠ p := fun z => by
      subst z
      obtain ⟨_, _, _, q, _⟩ := po
      rw [hl] at q
      cases q
    have po2 := po.ex e12
    refine q_asgW ?_
    refine lc_pool (p := p) (n := n + 1) (d := 1) (M := 4) (Pm := fun k => 1 ≤ k) (Py := fun _ y => ∃ c, y = .str (sg c) ∧ 97 ≤ c ∧ c ≤ 122) (by decide) (by
      obtain ⟨_, _, _, q, _⟩ := po2
      exact ⟨_, q⟩) (by exact fun _ => rfl) (fun Q q => ?_) (fun i H3 hi k3 po3 Q q => ?_) (fun l5 ys H3 pm hM hl5 k3 po3 h5 hy => ?_)
    · refine consW (opW ?_)
      refine draw_at (m := 4) (ev_var rfl) ev_c po2 (by omega) (by decide) (by decide) fun r H3 hr k3 po3 => ?_
      refine ⟨1, (r : Int), rfl, rfl, ?_⟩
      show Q [.int (1 + (r : Int))] H3
      have e : (1 + (r : Int)) = ((1 + r : Nat) : Int) := by omega
      rw [e]
      exact q (1 + r) H3 (by omega) (by omega) k3 po3
    · refine opW (varW rfl ?_)
      refine draw_at (m := 26) (ev_var rfl) ev_c po3 (by omega) (by decide) (by decide) fun r H4 hr k4 po4 => ?_
      exact ⟨_, _, 97 + r, rfl, rfl, sz_of (by decide), atI_nat (letters_at (by omega)), q _ H4 k4 (po4.mono (by omega)) ⟨97 + r, rfl, by omega, by omega⟩⟩
    obtain ⟨cs, rfl, hcs⟩ := singles hy
    rw [List.length_map] at pm hM
    have hst : Stm cs := ⟨pm, hM, hcs⟩
    have hl3 : H3 l = some (.lst []) := k3.at_ hl2 hlp
    refine q_parW (consW ?_)
    refine draw_at (m := (cs.length : Int)) (ev_var rfl) (ev_is (ev_len (ev_var rfl) (sq_of h5)) (by rw [List.length_map])) po3 (by omega) (by omega) (by omega) fun a H4 ha k4 po4 => ?_
    refine consW ?_
    refine draw_at (m := 26) (ev_var rfl) ev_c po4 (by omega) (by decide) (by decide) fun b H5 hb k5 po5 => ?_
    refine ⟨_, _, rfl, ?_⟩
    have hlp5 : l5 ≠ p := fun z => by
      subst z
      obtain ⟨_, _, _, q, _⟩ := po2
      rw [hl5] at q
      cases q
    have hl55 := k5.at_ (k4.at_ h5 hlp5) hlp5
    have hll : l5 ≠ l := fun z => by
      subst z
      rw [hl5] at hl2
      cases hl2
    have hl_5 := k5.at_ (k4.at_ hl3 hlp) hlp
    have ha' : a < cs.length := by omega
    have kH5 : Kl p H H5 := (((Kl.of e12).trans k3).trans k4).trans k5
    refine q_forR1 (n := (m : Int)) (ea_cons (ev_var rfl) ea_nil) (by omega) (fun i σ' H' => Kl l H5 H' ∧ H' l = some (.lst (((List.range i).map (nmK cs a b)).map V.str)) ∧ ∃ x y, σ' = [some (.ref p), some (.int (m : Int)), some (.str "abcdefghijklmnopqrstuvwxyz"), some (.ref l), x, some (.ref l5), some (.int (a : Int)), some (.int (b : Int)), y])
      (fun H6 e6 => ⟨.of e6, e6 _ _ hl_5, _, _, rfl⟩) (fun i σ' H' hi pv => ?_) (fun σ' H' pv => ?_)
    · obtain ⟨k6, h6, x, y, rfl⟩ := pv
      have h56 := k6.at_ hl55 hll
      refine q_asgL (el_list (ev_var rfl) (sq_of h56)) fun o H7 ho e7 h7 => ?_
      refine q_setL (j := a) (v := .str (sg (97 + (b + i) % 26))) h7 (ev_op (ev_var rfl) (ev_is (ev_mod (ev_int1 (ev_addI (ev_var rfl) (ev_var rfl))) ev_c (by decide)) (?_ : V.int (((b : Int) + (i : Int)) % 26) = .int (((b + i) % 26 : Nat) : Int))) (rv_ixS (by decide) (atI_nat (letters_at (Nat.mod_lt _ (by decide)))))) (ev_var rfl) (ev_var rfl) (by rw [List.length_map]; exact ha') fun H8 e8 => ?_
      · congr 1
      have h8 : (upd H8 o (.lst ((cs.map fun c => V.str (sg c)).set a (.str (sg (97 + (b + i) % 26)))))) o = some (.lst (((cs.set a (97 + (b + i) % 26)).map sg).map V.str)) := by
        rw [upd_same, List.map_map, List.map_set] <;> rfl
      have hlo : l ≠ o := fun z => by
        subst z
        rw [h6] at ho
        cases ho
      have h68 : (upd H8 o (.lst ((cs.map fun c => V.str (sg c)).set a (.str (sg (97 + (b + i) % 26)))))) l = some (.lst (((List.range i).map (nmK cs a b)).map V.str)) := (upd_ne hlo).trans (e8 _ _ (e7 _ _ h6))
      have e68 : Ex H' (upd H8 o (.lst ((cs.map fun c => V.str (sg c)).set a (.str (sg (97 + (b + i) % 26)))))) := Ex.mut (e7.trans e8) ho
      refine s_app h68 (ev_var rfl) (v := .str (nmK cs a b i)) (ev_is (ev_joinV ev_c (ev_var rfl) (sq_of h8) ?_) ?_) (by rw [List.length_map, List.length_map, List.length_range]; omega) fun H9 e9 => ?_
      · have h0 : (((cs.set a (97 + (b + i) % 26)).map sg).map (·.length)).sum ≤ (((cs.set a (97 + (b + i) % 26)).map sg).map (·.length)).length * 1 := sum_le fun z hz => by
          obtain ⟨s1, hs1, rfl⟩ := List.mem_map.mp hz
          obtain ⟨c1, _, rfl⟩ := List.mem_map.mp hs1
          exact Nat.le_refl _
        have h1 : (((cs.set a (97 + (b + i) % 26)).map sg).map (·.length)).length = cs.length := by simp
        have h2 : ((cs.set a (97 + (b + i) % 26)).map sg).length = cs.length := by simp
        rw [h1] at h0
        rw [h2]
        show _ + cs.length * 0 ≤ _
        omega
      · rw [tjoin_sg] <;> rfl
      · refine ⟨(k6.trans (.of (e68.trans e9))).trans (Kl.upd (e9 _ _ h68)), ?_, _, _, rfl⟩
        rw [upd_same, List.range_succ, List.map_append, List.map_append] <;> rfl
    · obtain ⟨k6, h6, x, y, rfl⟩ := pv
      refine s_ret (v := .ref l) (ev_var rfl) fun H7 e7 => ?_
      rw [show ((m : Int)).toNat = m from rfl] at h6
      refine k l ((List.range m).map (nmK cs a b)) H7 hl ((kH5.comb k6 hl).trans (.of e7)) ((PoolAt.mono ?_ (by omega : n + 1 + 1 * 4 + 1 + 1 ≤ n + 8)).ex e7) (e7 _ _ h6) (by rw [List.length_map, List.length_range]) (names_nodup ha' hm) fun s hs => ?_
      · obtain ⟨a', b', c', q, r⟩ := po5
        exact ⟨a', b', c', k6.at_ q (Ne.symm hlp), r⟩
      · obtain ⟨i, _, rfl⟩ := List.mem_map.mp hs
        exact nmK_ok hst a b i
end
end K76
set_option maxHeartbeats 4000000
/-! Sd: how deep data lie. -/
namespace K76
open PySem PySem.W PySem.Calls PyProof.Rows L2 Evl Ed
def Sh (k : Nat) (d : PyData) : Prop := d.canLay0 = true ∧ d.depth ≤ k
theorem Sh.up {k j : Nat} {d : PyData} (h : Sh k d) (hj : k ≤ j) : Sh j d := ⟨h.1, Nat.le_trans h.2 hj⟩
theorem Sh.shaped {k : Nat} {d : PyData} (h : Sh k d) (hk : k ≤ 64) : SeqAt.shaped d = true := Bool.and_eq_true_iff.mpr ⟨h.1, decide_eq_true (Nat.le_trans h.2 hk)⟩
theorem Sh.refl {k : Nat} {d : PyData} (h : Sh k d) : PyData.eqv d d = true := SeqAt.eqv_refl d h.1
theorem sh_all {k : Nat} : ∀ {ds : List PyData}, (∀ d ∈ ds, Sh k d) → PyData.canLayAll0 ds = true ∧ PyData.depthAll ds ≤ k
  | [], _ => ⟨by simp [PyData.canLayAll0], by simp [PyData.depthAll]⟩
  | d :: r, h => by
    obtain ⟨h1, h2⟩ := h d (by simp)
    obtain ⟨h3, h4⟩ := sh_all (ds := r) fun e he => h e (by simp [he])
    exact ⟨by rw [PyData.canLayAll0, h1, h3] <;> rfl, by rw [PyData.depthAll]; exact Nat.max_le.mpr ⟨h2, h4⟩⟩
theorem sh_tup {k : Nat} {ds : List PyData} (h : ∀ d ∈ ds, Sh k d) : Sh (k + 1) (.tuple ds) := ⟨by rw [PyData.canLay0]; exact (sh_all h).1, by rw [PyData.depth]; exact Nat.succ_le_succ (sh_all h).2⟩
theorem sh_lst {k : Nat} {ds : List PyData} (h : ∀ d ∈ ds, Sh k d) : Sh (k + 1) (.list ds) := ⟨by rw [PyData.canLay0]; exact (sh_all h).1, by rw [PyData.depth]; exact Nat.succ_le_succ (sh_all h).2⟩
theorem sh_int (k : Nat) (i : Int) : Sh k (.int i) := ⟨by simp [PyData.canLay0], by simp [PyData.depth]⟩
theorem sh_bool (k : Nat) (i : Bool) : Sh k (.bool i) := ⟨by simp [PyData.canLay0], by simp [PyData.depth]⟩
theorem sh_none (k : Nat) : Sh k .none := ⟨by simp [PyData.canLay0], by simp [PyData.depth]⟩
theorem sh_strOk {k : Nat} {x : Str} (h : PyData.strOk x = true) : Sh k (.str x) := ⟨by rw [PyData.canLay0]; exact h, by simp [PyData.depth]⟩
theorem Nm.ok {x : Str} (h : Nm x) : PyData.strOk x = true := by
  unfold PyData.strOk
  rw [Array.all_eq_true_iff_forall_mem]
  intro c hc
  have := h.az c (Array.mem_toList_iff.mpr hc)
  exact decide_eq_true (by omega)
theorem sh_nm {k : Nat} {x : Str} (h : Nm x) : Sh k (.str x) := sh_strOk h.ok
theorem sh_strs {k : Nat} {l : List Str} (h : ∀ x ∈ l, Nm x) : ∀ d ∈ l.map PyData.str, Sh k d := fun d hd => by
  obtain ⟨x, hx, rfl⟩ := List.mem_map.mp hd
  exact sh_nm (h x hx)
theorem sh_map {α : Type} {k : Nat} {f : α → PyData} {l : List α} (h : ∀ a ∈ l, Sh k (f a)) : ∀ d ∈ l.map f, Sh k d := fun d hd => by
  obtain ⟨x, hx, rfl⟩ := List.mem_map.mp hd
  exact h x hx
theorem sh_c1 {k : Nat} {d : PyData} {ds : List PyData} (h : Sh k d) (r : ∀ e ∈ ds, Sh k e) : ∀ e ∈ d :: ds, Sh k e := fun e he => by
  rcases List.mem_cons.mp he with rfl | he
  · exact h
  · exact r e he
theorem sh_c0 {k : Nat} : ∀ e ∈ ([] : List PyData), Sh k e := fun e he => by cases he
theorem sh_tD {ks : List (Str × Int)} (okk : OkK ks) {t : Tmp} (ok : OkT ks t) : Sh 4 (tD t) := by
  obtain ⟨g, hg, hgp, hms⟩ := ok.g
  obtain ⟨hn, g1, g3⟩ := gates_bd okk hg
  refine sh_tup (k := 3) (sh_c1 (sh_nm ok.nm) (sh_c1 (sh_nm hn) (sh_c1 (sh_int _ _) (sh_c1 ?_ (sh_c1 ?_ (sh_c1 ?_ sh_c0))))))
  · refine Sh.up (sh_tup (k := 1) (sh_map fun l hl => ?_)) (by decide)
    obtain ⟨_, _, hw⟩ := ok.ls l hl
    exact sh_tup (k := 0) (sh_c1 (sh_int _ _) (sh_c1 (sh_int _ _) (sh_c1 (sh_nm hw) sh_c0)))
  · refine Sh.up (sh_tup (k := 1) (sh_map fun l hl => ?_)) (by decide)
    obtain ⟨_, hw⟩ := hms l hl
    exact sh_tup (k := 0) (sh_c1 (sh_int _ _) (sh_c1 (sh_nm hw) sh_c0))
  · refine Sh.up (sh_tup (k := 2) (sh_map fun l hl => ?_)) (by decide)
    obtain ⟨g', hg', _⟩ := ok.ss l hl
    exact sh_tup (k := 1) (sh_c1 (sh_nm (gates_bd okk hg').1) (sh_c1 (sh_tup (k := 0) (sh_map fun i hi => sh_int _ _)) sh_c0))
end K76
set_option maxHeartbeats 4000000
namespace K76
open PySem PySem.W PySem.Calls PyProof.Rows L2 Evl Ed
/-- without repetitions -/
def ddp {α : Type} [DecidableEq α] (l : List α) : List α := l.foldl (fun acc a => if a ∈ acc then acc else acc ++ [a]) []
section
variable {α : Type} [DecidableEq α]
theorem ddp_step (l : List α) (i : Nat) {a : α} (h : l[i]? = some a) : ddp (l.take (i + 1)) = if a ∈ ddp (l.take i) then ddp (l.take i) else ddp (l.take i) ++ [a] := by
  have h1 : l.take (i + 1) = l.take i ++ [a] := by rw [List.take_succ, h] <;> rfl
  unfold ddp
  rw [h1, List.foldl_append] <;> rfl
theorem ddp_ind {P : List α → Prop} (h0 : P []) (hs : ∀ acc a, P acc → a ∉ acc → P (acc ++ [a])) (l : List α) : P (ddp l) := by
  have key : ∀ (l acc : List α), P acc → P (l.foldl (fun acc a => if a ∈ acc then acc else acc ++ [a]) acc) := by
    intro l
    induction l with
    | nil => exact fun acc h => h
    | cons a l ih =>
      intro acc h
      rw [List.foldl_cons]
      refine ih _ ?_
      by_cases ha : a ∈ acc
      · rw [if_pos ha]; exact h
      · rw [if_neg ha]; exact hs acc a h ha
  exact key l [] h0
theorem ddp_nodup (l : List α) : (ddp l).Nodup := ddp_ind List.nodup_nil (fun acc a h ha => by
  rw [List.nodup_append]
  refine ⟨h, by simp, fun x hx y hy => ?_⟩
  rw [List.mem_singleton.mp hy]
  exact fun e => ha (e ▸ hx)) l
theorem ddp_sub (l : List α) : ∀ a ∈ ddp l, a ∈ l := by
  have key : ∀ (l acc m : List α), (∀ a ∈ acc, a ∈ m) → (∀ a ∈ l, a ∈ m) → ∀ a ∈ l.foldl (fun acc a => if a ∈ acc then acc else acc ++ [a]) acc, a ∈ m := by
    intro l
    induction l with
    | nil => exact fun acc m h _ => h
    | cons b l ih =>
      intro acc m h h2
      rw [List.foldl_cons]
      refine ih _ m ?_ fun a ha => h2 a (by simp [ha])
      by_cases hb : b ∈ acc
      · rw [if_pos hb]; exact h
      · rw [if_neg hb]
        intro a ha
        rcases List.mem_append.mp ha with ha | ha
        · exact h a ha
        · rw [List.mem_singleton.mp ha]
          exact h2 b (by simp)
  exact key l [] l (fun a h => by cases h) fun a h => h
theorem ddp_len (l : List α) : (ddp l).length ≤ l.length := by
  have key : ∀ (l acc : List α), (l.foldl (fun acc a => if a ∈ acc then acc else acc ++ [a]) acc).length ≤ acc.length + l.length := by
    intro l
    induction l with
    | nil => exact fun acc => Nat.le_refl _
    | cons b l ih =>
      intro acc
      rw [List.foldl_cons]
      refine Nat.le_trans (ih _) ?_
      by_cases hb : b ∈ acc
      · rw [if_pos hb, List.length_cons]; omega
      · rw [if_neg hb, List.length_append, List.length_singleton, List.length_cons]; omega
  have := key l []
  rw [List.length_nil, Nat.zero_add] at this
  exact this
end
/-- what may be told apart -/
structure Apart {α : Type} [DecidableEq α] (f : α → PyData) (l : List α) : Prop where
  sh : ∀ a ∈ l, Sh 1 (f a)
  imm : ∀ a ∈ l, immD (f a) = true
  eqv : ∀ a ∈ l, ∀ b ∈ l, PyData.eqv (f a) (f b) = decide (a = b)
section
variable {K : PySem.W.Frag} {σ : L2.St} {H : Hp} {ta tb : TE} {d : PyData} {ds : List PyData}
theorem ev_notInD (ha : EvD K ta σ H d) (hb : EvD K tb σ H (.list ds)) (s1 : SeqAt.shaped d = true) (s2 : SeqAt.shaped (.list ds) = true) : Ev (tOp (rNotInD K) ta tb) σ H (.bl (!ds.any fun z => PyData.eqv z d)) := fun H1 e Q q =>
  ha H1 e _ fun v H2 e2 h1 => hb H2 (e.trans e2) _ fun w H3 e3 h2 => ⟨d, ds, h1.ex e3, h2, s1, s2, q H3 (e2.trans e3)⟩
end
section
variable {w : World} {mg : Str → Option Value} {base : Heap}
/-! ### _law_unlike -/
theorem sc__law_unlike : FnScope ["_law_rows", "_law_found", "_law_row"] ["_law_rows"] (defScope s__law_unlike) := ⟨rfl, rfl, rfl, by decide +kernel, rfl, by decide +kernel, by decide +kernel⟩
def m_unlike : List PyData → PyData → Prop := fun ds d => ∃ (α : Type) (_ : DecidableEq α) (f : α → PyData) (l : List α), ds = [.list (l.map f)] ∧ l.length ≤ 1000 ∧ Apart f l ∧ d = .tuple ((ddp l).map f)
theorem ok__law_unlike (W : Wd w.params mg) : Ok w mg base CX0 1 a__law_unlike fd__law_unlike ["_law_rows"] (spM (Kw w) m_unlike) := by
  refine (F__law_unlike w.params).ok sc__law_unlike (fun vs H Q E h => ?_) (fun cdv A outer s H vs Q E hr h => ?_)
  · obtain ⟨ds, d, hd, ⟨α, _, f, l, rfl, _⟩, _⟩ := h
    exact hd.len
  · obtain ⟨ds, d, hd, ⟨α, _, f, l, rfl, hl, ap, rfl⟩, k⟩ := h
    obtain ⟨v, rfl, hv⟩ := dpa1 hd
    refine ⟨_, (pss_cons (ps_set (i := 1) sc__law_unlike.nd rfl (Or.inl rfl) (pe_lst pa_nil))
    (pss_cons (ps_for PassesOwn.never rfl (pi_list (pv 0)) (pg_name (i := 2) sc__law_unlike.nd rfl (Or.inl rfl))
    (pss_one (ps_if (pt_cmpR (op_notInD hr.units65) (pv 2) (pv 1) rfl) (pss_one (ps_expr (pe_bm PySem.F.plainAttrs_list PySem.F.slot_list_append PySem.F.type_list_append mt_append (pv 1) (pa_cons (pv 2) pa_nil)))) pss_nil)))
    (pss_one (ps_ret (pe_callTy call_tuple_of rfl (n_tuple W) boot_tuple (pa_cons (pv 1) pa_nil)))))), ?_⟩
    obtain ⟨a, xs, rfl, hs, hx⟩ := dp_lst hv
    refine q_asgL (el_lst ea_nil (by decide)) fun p H1 hp e1 h1 => ?_
    have imml : ∀ i, immAll ((ddp (l.take i)).map f) = true := fun i => immAll_iff.mpr fun d hd => by
      obtain ⟨a, ha, rfl⟩ := List.mem_map.mp hd
      exact ap.imm a (List.mem_of_mem_take (ddp_sub _ a ha))
    refine q_forL (ev_var rfl) (ex_l e1 hs) (fun i σ' H' => Ex H H' ∧ (∃ x, σ' = [some (.ref a), some (.ref p), x]) ∧ ∃ ys, H' p = some (.lst ys) ∧ DpAll (Kw w) H' ys ((ddp (l.take i)).map f)) (fun H2 e2 => ⟨e1.trans e2, ⟨_, rfl⟩, [], e2 _ _ h1, .nil⟩) (fun i σ' H' _ pv => ex_l pv.1 hs) (fun i x σ' H' hi pv => ?_) (fun σ' H' pv => ?_)
    · obtain ⟨e2, ⟨x', rfl⟩, ys, h2, hy⟩ := pv
      obtain ⟨d, hd1, hd2⟩ := hx.getV hi
      rw [List.getElem?_map, Option.map_eq_some_iff] at hd1
      obtain ⟨b, hb, rfl⟩ := hd1
      have hbm : b ∈ l := List.mem_of_getElem? hb
      have sub : ∀ a ∈ ddp (l.take i), a ∈ l := fun a ha => List.mem_of_mem_take (ddp_sub _ a ha)
      have hany : ((ddp (l.take i)).map f).any (fun z => PyData.eqv z (f b)) = decide (b ∈ ddp (l.take i)) := by
        rw [List.any_map]
        refine Bool.eq_iff_iff.mpr ?_
        rw [List.any_eq_true, decide_eq_true_eq]
        constructor
        · rintro ⟨c, hc, e⟩
          have e' : PyData.eqv (f c) (f b) = true := e
          rw [ap.eqv c (sub c hc) b hbm] at e'
          rw [← of_decide_eq_true e']
          exact hc
        · intro hc
          refine ⟨b, hc, ?_⟩
          show PyData.eqv (f b) (f b) = true
          rw [ap.eqv b hbm b hbm]
          exact decide_eq_true rfl
      have shl : Sh 2 (.list ((ddp (l.take i)).map f)) := sh_lst (k := 1) (sh_map fun a ha => ap.sh a (sub a ha))
      have hlen : (ddp (l.take i)).length ≤ 1000 := Nat.le_trans (ddp_len _) (by rw [List.length_take]; omega)
      refine s_when (b := !decide (b ∈ ddp (l.take i))) (et_is (et_test (ev_notInD (ed_var rfl (hd2.ex e2)) (ed_var rfl (.lst (sq_of h2) hy)) ((ap.sh b hbm).shaped (by decide)) (shl.shaped (by decide)))) (by rw [hany])) (fun hc H3 e3 => ?_) (fun hc H3 e3 => ?_)
      · have hnot : b ∉ ddp (l.take i) := by simpa using hc
        refine s_appD (e3 _ _ h2) (ev_var rfl) (ed_var rfl ((hd2.ex e2).ex e3)) (by have := hy.len; rw [List.length_map] at this; omega) fun z H4 e4 hz => ?_
        have h4 := e4 _ _ (e3 _ _ h2)
        refine ⟨fun c o e => ?_, ⟨_, rfl⟩, ys ++ [z], upd_same, ?_⟩
        · have hcp : c ≠ p := fun z => by
            subst z
            rw [hp] at e
            cases e
          exact (upd_ne hcp).trans ((e2.trans (e3.trans e4)) _ _ e)
        · rw [ddp_step l i hb, if_neg hnot, List.map_append]
          have tx : Tx H4 (upd H4 p (.lst (ys ++ [z]))) := Tx.lst h4
          exact (((hy.ex e3).ex e4).tx (imml i) tx).app (.cons (hz.tx (ap.imm b hbm) tx) .nil)
      · have hin : b ∈ ddp (l.take i) := by simpa using hc
        refine ⟨e2.trans e3, ⟨_, rfl⟩, ys, e3 _ _ h2, ?_⟩
        rw [ddp_step l i hb, if_pos hin]
        exact hy.ex e3
    · obtain ⟨e2, ⟨x', rfl⟩, ys, h2, hy⟩ := pv
      rw [show xs.length = l.length by rw [hx.len, List.length_map], List.take_length] at hy
      refine s_retD (ed_tupleV (ev_var rfl) h2 hy) fun v H3 e3 hv3 => k v H3 (e2.trans e3) hv3
end
end K76
set_option maxHeartbeats 4000000
namespace K76
open PySem PySem.W PySem.Calls PyProof.Rows L2 Evl Ed
section
variable {w : World} {mg : Str → Option Value} {base : Heap}
/-! ### _law_spots -/
theorem sc__law_spots : FnScope ["_law_pool_here", "_law_pages", "_law_many", "_law_start"] ["_law_pool_here", "_law_pages", "_law_many"] (defScope s__law_spots) := ⟨rfl, rfl, rfl, by decide +kernel, rfl, by decide +kernel, by decide +kernel⟩
def spSpots (K : PySem.W.Frag) : Sp := fun vs H Q _ => ∃ (p : Addr) (P g n : Nat), vs = [.ref p, .int (P : Int), .int (g : Int)] ∧ PoolAt H p n ∧ n ≤ 90000 ∧ (g = 1 ∨ g = 2) ∧ g ≤ P ∧ P ≤ 1000 ∧
  ∀ v (sp : List Int) H', Kl p H H' → PoolAt H' p (n + 2) → Dp K H' v (.tuple (sp.map PyData.int)) → sp.length = g → sp.Nodup → (∀ x ∈ sp, 0 ≤ x ∧ x < P) → Q v H'
theorem ok__law_spots (W : Wd w.params mg) : Ok w mg base CX0 2 a__law_spots fd__law_spots ["_law_pool_here", "_law_pages", "_law_many"] (spSpots (Kw w)) := by
  refine (F__law_spots w.params).ok sc__law_spots (fun vs H Q E h => ?_) (fun cdv A outer s H vs Q E hr h => ?_)
  · obtain ⟨p, P, g, n, rfl, _⟩ := h
    rfl
  · obtain ⟨p, P, g, n, rfl, po, hn, hg, hgP, hP, k⟩ := h
    refine ⟨_, (pss_cons (ps_set (i := 3) sc__law_spots.nd rfl (Or.inl rfl) (pe_call (ok__law_draw W) (hr.mono (by decide)) rfl (g__law_draw W) (F__law_draw _).kp (b__law_draw _) .nil pass0 (pa_cons (pv 0) (pa_cons (pv 1) pa_nil))))
    (pss_cons (ps_if (pt_cmpR op_eq (pv 2) pe_int (nomark _)) (pss_one (ps_ret (pe_tup (pa_cons (pv 3) pa_nil)))) pss_nil)
    (pss_one (ps_ret (pe_tup (pa_cons (pv 3) (pa_cons (pe_op op_mod (pe_callTy call_int1 rfl (n_int W) boot_int (pa_cons (pe_op op_add (pe_op op_add (pv 3) pe_int) (pe_call (ok__law_draw W) (hr.mono (by decide)) rfl (g__law_draw W) (F__law_draw _).kp (b__law_draw _) .nil pass0 (pa_cons (pv 0) (pa_cons (pe_op op_sub (pv 1) pe_int) pa_nil)))) pa_nil)) (pv 1)) pa_nil))))))), ?_⟩
    refine q_asgW ?_
    refine draw_at (m := (P : Int)) (ev_var rfl) (ev_var rfl) po (by omega) (by omega) (by omega) fun r H1 hr1 k1 po1 => ?_
    rcases hg with rfl | rfl
    · refine q_when (b := true) (et_test (ev_op (ev_var rfl) ev_c (rv_eq rfl))) (fun _ H2 e2 => ?_) fun z => by cases z
      refine s_retD (K := Kw w) (d := .tuple (([(r : Int)] : List Int).map PyData.int)) (ed_tup (ea_consD (ed_int (ev_var rfl)) ea_nilD) (show (1 : Nat) ≤ 100000 by decide)) fun v H3 e3 hv => ?_
      exact k v [(r : Int)] H3 (k1.trans (.of (e2.trans e3))) ((po1.ex (e2.trans e3)).mono (by omega)) hv rfl (by simp) (by simp; omega)
    · refine q_when (b := false) (et_test (ev_op (ev_var rfl) ev_c (rv_eq rfl))) (fun z => by cases z) fun _ H2 e2 => ?_
      have po2 := po1.ex e2
      have k2 := k1.trans (.of e2)
      refine s_retW ?_
      refine consW (varW rfl (consW (opW (consW (opW (opW (varW rfl ?_)))))))
      refine ⟨_, _, rfl, rfl, ?_⟩
      refine draw_at (m := (P : Int) - 1) (ev_var rfl) (ev_subI (ev_var rfl) ev_c) po2 (by omega) (by omega) (by omega) fun r2 H3 hr2 k3 po3 => ?_
      refine ⟨_, _, rfl, rfl, .inl ⟨_, rfl, _, rfl, _, _, rfl, rfl, show (0 : Int) < (P : Int) by omega, ?_⟩⟩
      refine ⟨sz_of (show (2 : Nat) ≤ 100000 by decide), fun t ht => ?_⟩
      have e4 := Ex.new (o := .tup [.int (r : Int), .int (((r : Int) + 1 + (r2 : Int)) % (P : Int))]) ht
      have key : 0 ≤ ((r : Int) + 1 + (r2 : Int)) % (P : Int) ∧ ((r : Int) + 1 + (r2 : Int)) % (P : Int) < P ∧ ((r : Int) + 1 + (r2 : Int)) % (P : Int) ≠ r := by
        refine ⟨Int.emod_nonneg _ (by omega), Int.emod_lt_of_pos _ (by omega), ?_⟩
        rcases Int.lt_or_le ((r : Int) + 1 + (r2 : Int)) P with c | c
        · rw [Int.emod_eq_of_lt (by omega) c]
          omega
        · have e : ((r : Int) + 1 + (r2 : Int)) % (P : Int) = ((r : Int) + 1 + (r2 : Int) - P) % (P : Int) := by rw [Int.sub_emod_right]
          rw [e, Int.emod_eq_of_lt (by omega) (by omega)]
          omega
      obtain ⟨q1, q2, q3⟩ := key
      refine k (.ref t) [(r : Int), ((r : Int) + 1 + (r2 : Int)) % (P : Int)] _ ((k2.trans k3).trans (.of e4)) (po3.ex e4) (.tup (SqT.of upd_same) (.cons (.int _) (.cons (.int _) .nil))) rfl ?_ fun x hx => ?_
      · rw [List.nodup_cons]
        exact ⟨fun h => q3 (List.mem_singleton.mp h).symm, by simp⟩
      · rcases List.mem_cons.mp hx with rfl | hx
        · omega
        · rw [List.mem_singleton.mp hx]
          exact ⟨q1, q2⟩
end
end K76
set_option maxHeartbeats 4000000
namespace Ed
open PySem L2 Evl K76
/-- all but a few lists stands as it stood -/
structure Ks (L : List Addr) (H H' : Hp) : Prop where
  off : Off L H H'
  tx : Tx H H'
section
variable {K : PySem.W.Frag} {H H' H2 : Hp} {a b p : Addr} {o u : HO} {xs : List V} {L M : List Addr}
theorem Ks.trans (x : Ks L H H') (y : Ks L H' H2) : Ks L H H2 := ⟨x.off.trans y.off, x.tx.trans y.tx⟩
theorem Ks.of (e : Ex H H') : Ks L H H' := ⟨Off.of e, Tx.of e⟩
theorem Ks.upd (h : H a = some (.lst xs)) (ha : a ∈ L) : Ks L H (L2.upd H a u) := ⟨Off.upd ha, Tx.lst h⟩
theorem Ks.at_ (k : Ks L H H') (h : H b = some o) (hb : b ∉ L) : H' b = some o := k.off b o hb h
theorem Kl.ks (k : Kl p H H') (h : p ∈ L) : Ks L H H' := ⟨k.off.mono fun a ha => by rw [List.mem_singleton.mp ha]; exact h, k.tx⟩
theorem Ks.mono (k : Ks L H H') (h : ∀ a ∈ L, a ∈ M) : Ks M H H' := ⟨k.off.mono h, k.tx⟩
/-- what came later may change too -/
theorem Ks.drop (k : Ks (a :: L) H H') (h : H a = none) : Ks L H H' := ⟨k.off.drop h, k.tx⟩
theorem Ks.kl (k : Ks [p] H H') : Kl p H H' := ⟨k.off, k.tx⟩
end
section
variable {K : PySem.W.Frag} {σ : L2.St} {H : Hp} {te ta tb : TE} {tr : TA} {d : PyData} {ds es : List PyData} {D : Ends} {tu tz : TS} {p : Addr} {n M j : Nat} {Q : VK}
theorem ed_catA (ha : EvD K ta σ H (.tuple ds)) (hb : EvD K tb σ H (.tuple es)) (hz : ds.length + es.length ≤ 100000) : EvD K (tOp (rCatA K) ta tb) σ H (.tuple (ds ++ es)) := fun H1 e Q q =>
  ha H1 e _ fun v H2 e2 h1 => hb H2 (e.trans e2) _ fun w H3 e3 h2 => by
    obtain ⟨a, xs, rfl, hs, hx⟩ := dp_tup (h1.ex e3)
    obtain ⟨b, ys, rfl, ht, hy⟩ := dp_tup h2
    refine ⟨a, b, xs, ys, rfl, rfl, hs, ht, sz_of (by rw [hx.len, hy.len]; exact hz), fun hx0 => ?_, fun _ hy0 => ?_, fun _ _ q' hq' => ?_⟩
    · subst hx0
      cases hx
      exact q _ _ (e2.trans e3) (.tup ht hy)
    · subst hy0
      cases hy
      rw [List.append_nil] at q
      exact q _ _ (e2.trans e3) (.tup hs hx)
    · have e4 := Ex.new (o := .tup (xs ++ ys)) hq'
      exact q _ _ ((e2.trans e3).trans e4) (.tup (st_of upd_same) ((hx.ex e4).app (hy.ex e4)))
theorem max_at {ns : List Int} (h : EvLD K te σ H (ns.map PyData.int)) (hne : 0 < ns.length) (k : ∀ m H1, Ex H H1 → m ∈ ns → (∀ x ∈ ns, x ≤ m) → Q (.int m) H1) : tCB (rMax K) (tCons te tNil) σ H Q :=
  h H (Ex.refl H) _ fun l xs H1 _ e1 h1 hd => by
    rw [dpAll_ints_of hd] at h1
    exact ⟨l, ns, rfl, sq_of h1, hne, fun m hm hle => k m H1 e1 hm hle⟩
/-- for k in range(..), the number drawn from a pool -/
theorem s_forP (hM : M ≤ 100000) (harg : ∀ Q : List V → Hp → Prop, (∀ (m : Nat) H1, m ≤ M → Kl p H H1 → PoolAt H1 p n → Q [.int (m : Int)] H1) → tr σ H Q) (Pv : Nat → L2.St → Hp → Prop) (h0 : ∀ H1, Kl p H H1 → PoolAt H1 p n → Pv 0 σ H1)
    (hs : ∀ (i : Nat) σ' H', i < M → Pv i σ' H' → tu { D with nx := Pv (i + 1), ct := Pv (i + 1), bk := D.nx } (σ'.set j (some (.int (i : Int)))) H') (hd : ∀ m σ' H', m ≤ M → Pv m σ' H' → D.nx σ' H') : tFor (iRng1 tr) (gName j) tu D σ H :=
  harg _ fun m H1 hm k1 po1 => ⟨(m : Int), rfl, by omega, by omega, for_range (lo := 0) (n := m) Pv (h0 H1 k1 po1) (fun i σ' H' hi pv => by
    have e0 : (0 : Int) + (i : Int) = (i : Int) := Int.zero_add _
    show tu { D with nx := Pv (i + 1), ct := Pv (i + 1), bk := D.nx } (σ'.set j (some (.int ((0 : Int) + (i : Int))))) H'
    rw [e0]
    exact hs i σ' H' (by omega) pv) fun σ' H' pv => hd m σ' H' hm pv⟩
theorem q_forP (hM : M ≤ 100000) (harg : ∀ Q : List V → Hp → Prop, (∀ (m : Nat) H1, m ≤ M → Kl p H H1 → PoolAt H1 p n → Q [.int (m : Int)] H1) → tr σ H Q) (Pv : Nat → L2.St → Hp → Prop) (h0 : ∀ H1, Kl p H H1 → PoolAt H1 p n → Pv 0 σ H1)
    (hs : ∀ (i : Nat) σ' H', i < M → Pv i σ' H' → tu { D with nx := Pv (i + 1), ct := Pv (i + 1), bk := tz D } (σ'.set j (some (.int (i : Int)))) H') (hd : ∀ m σ' H', m ≤ M → Pv m σ' H' → tz D σ' H') : tSeq (tFor (iRng1 tr) (gName j) tu) tz D σ H := s_forP (D := { D with nx := tz D }) hM harg Pv h0 hs hd
/-- a new list of data by a list of ints -/
theorem eld_lcI {tl : TE} {vs : List Nat} {a : Addr} {ns : List Nat} (g : Nat → PyData) (hg : ∀ i, immD (g i) = true) (h : Ev tl σ H (.ref a)) (hx : SqL K H a (ns.map fun n : Nat => V.int (n : Int))) (hz : ns.length ≤ 40000) (hw : ∀ x, wipe ((wipe σ vs).set j (some x)) vs = wipe σ vs)
    (he : ∀ n ∈ ns, ∀ H1, Ex H H1 → EvD K te ((wipe σ vs).set j (some (.int (n : Int)))) H1 (g n)) : EvLD K (tLc (iList K tl) (gName j) tYes te vs) σ H (ns.map g) := by
  have h1 := eld_lcL (K := K) (te := te) (t := tYes) (vs := vs) (j := j) (fun _ => true) (fun i => g (ns.getD i 0)) (fun i => hg _) h hx (by rw [List.length_map]; exact hz) hw (fun i x H1 _ _ => et_yes) fun i x H1 e1 hi _ => by
    rw [List.getElem?_map, Option.map_eq_some_iff] at hi
    obtain ⟨n, hn, rfl⟩ := hi
    have : ns.getD i 0 = n := by rw [List.getD_eq_getElem?_getD, hn] <;> rfl
    rw [this]
    exact he n (List.mem_of_getElem? hn) H1 e1
  rw [List.length_map, givenD_all ns g _ fun i a e => by rw [List.getD_eq_getElem?_getD, e] <;> rfl] at h1
  exact h1
end
end Ed
namespace K76
open PySem PySem.W PySem.Calls PyProof.Rows L2 Evl Ed
theorem gatesOf_get {ks : List (Str × Int)} (nd : (ks.map (·.1)).Nodup) {i : Nat} {k : Str × Int} (h : ks[i]? = some k) : gatesOf ks k.1 = some k.2 := by
  induction ks generalizing i with
  | nil => simp at h
  | cons k0 ks ih =>
    rw [List.map_cons, List.nodup_cons] at nd
    cases i with
    | zero =>
      cases h
      exact gatesOf_yes (decide_eq_true rfl)
    | succ i =>
      have h' : ks[i]? = some k := by simpa using h
      rw [gatesOf_no (decide_eq_false fun e => nd.1 (List.mem_map.mpr ⟨k, List.mem_of_getElem? h', e⟩))]
      exact ih nd.2 h'
instance decLnk : DecidableEq Lnk := fun a b => decidable_of_iff (a.a = b.a ∧ a.b = b.b ∧ a.w = b.w) (by
  cases a
  cases b
  simp)
instance decMrk : DecidableEq Mrk := fun a b => decidable_of_iff (a.p = b.p ∧ a.w = b.w) (by
  cases a
  cases b
  simp)
theorem eqv_lD (a b : Lnk) : PyData.eqv (lD a) (lD b) = decide (a = b) := by
  cases a
  cases b
  rw [Bool.eq_iff_iff]
  simp [lD, PyData.eqv, PyData.eqvAll, and_assoc]
theorem eqv_mD (a b : Mrk) : PyData.eqv (mD a) (mD b) = decide (a = b) := by
  cases a
  cases b
  rw [Bool.eq_iff_iff]
  simp [mD, PyData.eqv, PyData.eqvAll, and_assoc]
theorem apart_l {ls : List Lnk} (h : ∀ l ∈ ls, Nm l.w) : Apart lD ls := ⟨fun a ha => sh_tup (k := 0) (sh_c1 (sh_int _ _) (sh_c1 (sh_int _ _) (sh_c1 (sh_nm (h a ha)) sh_c0))), fun a _ => imm_lD a, fun a _ b _ => eqv_lD a b⟩
theorem apart_m {ls : List Mrk} (h : ∀ l ∈ ls, Nm l.w) : Apart mD ls := ⟨fun a ha => sh_tup (k := 0) (sh_c1 (sh_int _ _) (sh_c1 (sh_nm (h a ha)) sh_c0)), fun a _ => imm_mD a, fun a _ b _ => eqv_mD a b⟩
section
variable {w : World} {mg : Str → Option Value} {base : Heap}
/-! ### _law_template -/
theorem sc__law_template : FnScope ["_law_pool_here", "_law_kinds", "_law_words", "_law_name", "_law_at", "_law_below", "_law_gates", "_law_k", "_law_pages", "_law_links", "_law_marks", "_law_slots", "_law_turn", "_law_ends", "_law_spot", "_law_rows"] ["_law_pool_here", "_law_kinds", "_law_words", "_law_name", "_law_at", "_law_below"] (defScope s__law_template) := ⟨rfl, rfl, rfl, by decide +kernel, rfl, by decide +kernel, by decide +kernel⟩
def spTmpl (K : PySem.W.Frag) : Sp := fun vs H Q _ => ∃ (p a b c : Addr) (nm : Str) (at_ n : Nat) (ks : List (Str × Int)) (kv : List V) (ws : List Str) (bl : List Nat), vs = [.ref p, .ref a, .ref b, .str nm, .int (at_ : Int), .ref c] ∧ PoolAt H p n ∧ n ≤ 80000 ∧
  H a = some (.lst kv) ∧ DpAll K H kv (ks.map kD) ∧ OkK ks ∧ (∀ k ∈ ks, k.2 ≤ 2) ∧ H b = some (.lst (ws.map V.str)) ∧ ws.length = 4 ∧ (∀ x ∈ ws, Nm x) ∧ Nm nm ∧ at_ < ks.length ∧ H c = some (.lst (bl.map fun n : Nat => V.int (n : Int))) ∧ bl.length ≤ 2 ∧ (∀ k ∈ bl, k < ks.length) ∧ a ≠ p ∧ b ≠ p ∧ c ≠ p ∧
  ∀ v (t : Tmp) H', Kl p H H' → PoolAt H' p (n + 40) → Dp K H' v (tD t) → OkT ks t → t.name = nm → some t.kind = ks[at_]?.map (·.1) → t.slots.map (fun s => some s.k) = bl.map (fun k => ks[k]?.map (·.1)) → Q v H'
theorem ok__law_template (W : Wd w.params mg) : Ok w mg base CX0 3 a__law_template fd__law_template ["_law_pool_here", "_law_kinds", "_law_words", "_law_name", "_law_at", "_law_below"] (spTmpl (Kw w)) := by
  refine (F__law_template w.params).ok sc__law_template (fun vs H Q E h => ?_) (fun cdv A outer s H vs Q E hr h => ?_)
  · obtain ⟨p, a, b, c, nm, at_, n, ks, kv, ws, bl, rfl, _⟩ := h
    rfl
  · obtain ⟨p, a, b, c, nm, at_, n, ks, kv, ws, bl, rfl, po, hn, ha, hkv, okk, hg2, hb, hwl, hws, hnm, hat, hc, hbl, hblk, hap, hbp, hcp, k⟩ := h
    refine ⟨_, (pss_cons (ps_set (i := 6) sc__law_template.nd rfl (Or.inl rfl) (pe_ix ix_tup (pe_ix ix_list (pv 1) (pv 4) (fun _ _ => rfl)) pe_int (fun _ _ => rfl)))
    (pss_cons (ps_set (i := 8) sc__law_template.nd rfl (Or.inl rfl) (pe_callB (cr_max rfl) rfl (n_max W) boot_max (pa_cons (pe_op op_cat (pe_lst (pa_cons (pv 6) pa_nil)) (pe_lc (own := [("_law_k", 7)]) (g := gName 7) (tt := tYes) rfl sc__law_template.nd (pi_list (pv 5)) (blkOk_by (own := [("_law_k", 7)]) (N := ["_law_pool_here", "_law_kinds", "_law_words", "_law_name", "_law_at", "_law_below", "_law_gates", "_law_k", "_law_pages", "_law_links", "_law_marks", "_law_slots", "_law_turn", "_law_ends", "_law_spot", "_law_rows"]) (sc := defScope s__law_template) (by decide +kernel)) (fun _ _ _ _ _ => (pg_name (i := 7) sc__law_template.nd rfl (Or.inl rfl))) (fun _ _ _ _ _ => pts_nil) (fun _ _ _ _ _ => (pe_ix (ix_tupK (K := Kw w) rfl) (pe_ix (ix_listK (K := Kw w) rfl) (pv 1) (pv 7) (fun _ _ => rfl)) pe_int (fun _ _ => rfl))))) pa_nil)))
    (pss_cons (ps_set (i := 8) sc__law_template.nd rfl (Or.inl rfl) (pe_op op_add (pv 8) (pe_call (ok__law_draw W) (hr.mono (by decide)) rfl (g__law_draw W) (F__law_draw _).kp (b__law_draw _) .nil pass0 (pa_cons (pv 0) (pa_cons pe_int pa_nil)))))
    (pss_cons (ps_par3 (i := 9) (j := 10) (l := 11) rfl sc__law_template.nd rfl rfl rfl (by decide) (by decide) (by decide) rfl rfl rfl (pa_cons (pe_lst pa_nil) (pa_cons (pe_lst pa_nil) (pa_cons (pe_lst pa_nil) pa_nil))) rfl)
    (pss_cons (ps_for PassesOwn.never rfl (pi_range1 rfl (n_range W) (pa_cons (pe_call (ok__law_draw W) (hr.mono (by decide)) rfl (g__law_draw W) (F__law_draw _).kp (b__law_draw _) .nil pass0 (pa_cons (pv 0) (pa_cons pe_int pa_nil))) pa_nil)) (pg_name (i := 12) sc__law_template.nd rfl (Or.inl rfl))
    (pss_cons (ps_set (i := 13) sc__law_template.nd rfl (Or.inl rfl) (pe_tup (pa_cons (pe_call (ok__law_draw W) (hr.mono (by decide)) rfl (g__law_draw W) (F__law_draw _).kp (b__law_draw _) .nil pass0 (pa_cons (pv 0) (pa_cons (pv 8) pa_nil))) (pa_cons (pe_call (ok__law_draw W) (hr.mono (by decide)) rfl (g__law_draw W) (F__law_draw _).kp (b__law_draw _) .nil pass0 (pa_cons (pv 0) (pa_cons (pv 8) pa_nil))) pa_nil))))
    (pss_one (ps_expr (pe_bm PySem.F.plainAttrs_list PySem.F.slot_list_append PySem.F.type_list_append mt_append (pv 9) (pa_cons (pe_op op_catA (pv 13) (pe_tup (pa_cons (pe_ix ix_list (pv 2) (pe_call (ok__law_draw W) (hr.mono (by decide)) rfl (g__law_draw W) (F__law_draw _).kp (b__law_draw _) .nil pass0 (pa_cons (pv 0) (pa_cons pe_int pa_nil))) (fun _ _ => rfl)) pa_nil))) pa_nil))))))
    (pss_cons (ps_for PassesOwn.never rfl (pi_range1 rfl (n_range W) (pa_cons (pe_call (ok__law_draw W) (hr.mono (by decide)) rfl (g__law_draw W) (F__law_draw _).kp (b__law_draw _) .nil pass0 (pa_cons (pv 0) (pa_cons pe_int pa_nil))) pa_nil)) (pg_name (i := 12) sc__law_template.nd rfl (Or.inl rfl))
    (pss_one (ps_if (pt_cmpR op_gt (pv 8) (pv 6) (nomark _)) (pss_cons (ps_set (i := 14) sc__law_template.nd rfl (Or.inl rfl) (pe_op op_add (pv 6) (pe_call (ok__law_draw W) (hr.mono (by decide)) rfl (g__law_draw W) (F__law_draw _).kp (b__law_draw _) .nil pass0 (pa_cons (pv 0) (pa_cons (pe_op op_sub (pv 8) (pv 6)) pa_nil)))))
    (pss_one (ps_expr (pe_bm PySem.F.plainAttrs_list PySem.F.slot_list_append PySem.F.type_list_append mt_append (pv 10) (pa_cons (pe_tup (pa_cons (pv 14) (pa_cons (pe_ix ix_list (pv 2) (pe_op op_add pe_int (pe_call (ok__law_draw W) (hr.mono (by decide)) rfl (g__law_draw W) (F__law_draw _).kp (b__law_draw _) .nil pass0 (pa_cons (pv 0) (pa_cons pe_int pa_nil)))) (fun _ _ => rfl)) pa_nil))) pa_nil))))) pss_nil)))
    (pss_cons (ps_for PassesOwn.never rfl (pi_list (pv 5)) (pg_name (i := 7) sc__law_template.nd rfl (Or.inl rfl))
    (pss_one (ps_expr (pe_bm PySem.F.plainAttrs_list PySem.F.slot_list_append PySem.F.type_list_append mt_append (pv 11) (pa_cons (pe_tup (pa_cons (pe_ix ix_tup (pe_ix ix_list (pv 1) (pv 7) (fun _ _ => rfl)) pe_int (fun _ _ => rfl)) (pa_cons (pe_call (ok__law_spots W) (hr.mono (by decide)) rfl (g__law_spots W) (F__law_spots _).kp (b__law_spots _) .nil pass0 (pa_cons (pv 0) (pa_cons (pv 8) (pa_cons (pe_ix ix_tup (pe_ix ix_list (pv 1) (pv 7) (fun _ _ => rfl)) pe_int (fun _ _ => rfl)) pa_nil)))) pa_nil))) pa_nil)))))
    (pss_cons (ps_set (i := 15) sc__law_template.nd rfl (Or.inl rfl) (pe_tup (pa_cons (pe_call (ok__law_unlike W) (hr.mono (by decide)) rfl (g__law_unlike W) (F__law_unlike _).kp (b__law_unlike _) .nil pass0 (pa_cons (pv 9) pa_nil)) (pa_cons (pe_call (ok__law_unlike W) (hr.mono (by decide)) rfl (g__law_unlike W) (F__law_unlike _).kp (b__law_unlike _) .nil pass0 (pa_cons (pv 10) pa_nil)) (pa_cons (pe_callTy call_tuple_of rfl (n_tuple W) boot_tuple (pa_cons (pv 11) pa_nil)) pa_nil)))))
    (pss_one (ps_ret (pe_op op_catA (pe_tup (pa_cons (pv 3) (pa_cons (pe_ix ix_tup (pe_ix ix_list (pv 1) (pv 4) (fun _ _ => rfl)) pe_int (fun _ _ => rfl)) (pa_cons (pv 8) pa_nil)))) (pv 15)))))))))))), ?_⟩
    obtain ⟨kat, hget⟩ : ∃ kat, ks[at_]? = some kat := ⟨_, List.getElem?_eq_getElem hat⟩
    have hkm : kat ∈ ks := List.mem_of_getElem? hget
    have imk : immAll (ks.map kD) = true := imm_ksD ks
    have hkD : ∀ {H' : Hp}, Tx H H' → H' a = some (.lst kv) → Dp (Kw w) H' (.ref a) (.list (ks.map kD)) := fun tx h => .lst (sq_of h) (hkv.tx imk tx)
    have hkx : ∀ i k, ks[i]? = some k → (ks.map kD)[i]? = some (kD k) := fun i k h => by rw [List.getElem?_map, h] <;> rfl
    refine q_asg (v := .int kat.2) (ev_int (ed_ixTD (i := 1) (ds := [.str kat.1, .int kat.2]) (ed_ixLD (i := at_) (ed_var rfl (hkD (Tx.refl H) ha)) (fun _ _ => ev_var rfl) (hkx _ _ hget)) (fun _ _ => ev_c) rfl)) fun H1 e1 => ?_
    have ha1 := e1 _ _ ha
    have hkg : ∀ k ∈ bl, ∃ kk, ks[k]? = some kk ∧ ((ks[k]?).map (·.2)).getD 1 = kk.2 ∧ kk ∈ ks := fun k hk => ⟨_, List.getElem?_eq_getElem (hblk k hk), by rw [List.getElem?_eq_getElem (hblk k hk)] <;> rfl, List.getElem_mem (hblk k hk)⟩
    refine q_asgW (max_at (ns := kat.2 :: bl.map fun k => ((ks[k]?).map (·.2)).getD 1) (eld_is (eld_cat (eld_lst (ea_consD (ed_int (ev_var rfl)) ea_nilD) (show (1 : Nat) ≤ 100000 by decide)) (eld_lcI (ns := bl) (fun k => .int (((ks[k]?).map (·.2)).getD 1)) (fun _ => rfl) (ev_var rfl) (sq_of (e1 _ _ hc)) (by omega) (fun _ => rfl) fun k hk H2 e2 => ?_) rfl (by rw [List.length_map, List.length_singleton]; omega)) ?_) (Nat.succ_pos _) fun m H2 e2 hm hle => ?_)
    · obtain ⟨kk, h1, h2, h3⟩ := hkg k hk
      rw [h2]
      exact ed_ixTD (i := 1) (ds := [.str kk.1, .int kk.2]) (ed_ixLD (i := k) (ed_var rfl (hkD (Tx.of (e1.trans e2)) (e2 _ _ ha1))) (fun _ _ => ev_var rfl) (hkx _ _ h1)) (fun _ _ => ev_c) rfl
    · rw [List.map_cons, List.map_map] <;> rfl
    have hm2 : 1 ≤ m ∧ m ≤ 2 := by
      have hall : ∀ x ∈ kat.2 :: bl.map (fun k => ((ks[k]?).map (·.2)).getD 1), 1 ≤ x ∧ x ≤ 2 := fun x hx => by
        rcases List.mem_cons.mp hx with rfl | hx
        · exact ⟨(okk.g kat hkm).1, hg2 kat hkm⟩
        · obtain ⟨k, hk, rfl⟩ := List.mem_map.mp hx
          obtain ⟨kk, h1, h2, h3⟩ := hkg k hk
          show 1 ≤ ((ks[k]?).map (·.2)).getD 1 ∧ ((ks[k]?).map (·.2)).getD 1 ≤ 2
          rw [h2]
          exact ⟨(okk.g kk h3).1, hg2 kk h3⟩
      exact hall m hm
    have hkatm : kat.2 ≤ m := hle _ (by simp)
    have hblm : ∀ k ∈ bl, ∀ kk, ks[k]? = some kk → kk.2 ≤ m := fun k hk kk h => by
      have h1 := hle (((ks[k]?).map (·.2)).getD 1) (List.mem_cons_of_mem _ (List.mem_map.mpr ⟨k, hk, rfl⟩))
      rw [h] at h1
      exact h1
    have e12 := e1.trans e2
    refine q_asgW (opW (varW rfl ?_))
    refine draw_at (m := 4) (ev_var rfl) ev_c (po.ex e12) (by omega) (by decide) (by decide) fun r H3 hr3 k3 po3 => ?_
    obtain ⟨P, hP⟩ : ∃ P : Nat, m + (r : Int) = (P : Int) := ⟨(m + (r : Int)).toNat, by omega⟩
    refine addW hP ?_
    have hP5 : (P : Int) ≤ 5 := by omega
    have hmP : m ≤ P := by omega
    have k03 : Kl p H H3 := (Kl.of e12).trans k3
    refine q_par3W ?_
    refine consW (lstW (nilW ⟨sz_of (by decide), fun l1 hl1 => consW (lstW (nilW ⟨sz_of (by decide), fun l2 hl2 => consW (lstW (nilW ⟨sz_of (by decide), fun l3 hl3 => ?_⟩))⟩))⟩))
    refine ⟨_, _, _, rfl, ?_⟩
    have q1 : Ex H3 (upd H3 l1 (.lst [])) := Ex.new hl1
    have q2 : Ex (upd H3 l1 (.lst [])) (upd (upd H3 l1 (.lst [])) l2 (.lst [])) := Ex.new hl2
    have q3 : Ex (upd (upd H3 l1 (.lst [])) l2 (.lst [])) (upd (upd (upd H3 l1 (.lst [])) l2 (.lst [])) l3 (.lst [])) := Ex.new hl3
    have c1 : (upd (upd (upd H3 l1 (.lst [])) l2 (.lst [])) l3 (.lst [])) l1 = some (.lst []) := q3 _ _ (q2 _ _ upd_same)
    have c2 : (upd (upd (upd H3 l1 (.lst [])) l2 (.lst [])) l3 (.lst [])) l2 = some (.lst []) := q3 _ _ upd_same
    have c3 : (upd (upd (upd H3 l1 (.lst [])) l2 (.lst [])) l3 (.lst [])) l3 = some (.lst []) := upd_same
    have e34 := (q1.trans q2).trans q3
    have n12 : l1 ≠ l2 := fun z => by
      subst z
      rw [upd_same] at hl2
      cases hl2
    have n13 : l1 ≠ l3 := fun z => by
      subst z
      rw [q2 _ _ upd_same] at hl3
      cases hl3
    have n23 : l2 ≠ l3 := fun z => by
      subst z
      rw [upd_same] at hl3
      cases hl3
    have f2 : H3 l2 = none := (fresh_back q1 hl2)
    have f3 : H3 l3 = none := (fresh_back (q1.trans q2) hl3)
    generalize (upd (upd (upd H3 l1 (.lst [])) l2 (.lst [])) l3 (.lst [])) = H4 at e34 c1 c2 c3
    clear q1 q2 q3
    have po4 := po3.ex e34
    have pne : ∀ {l : Addr}, H3 l = none → l ≠ p := fun h z => by
      subst z
      obtain ⟨_, _, _, q, _⟩ := po3
      rw [h] at q
      cases q
    have p1 := pne hl1
    have p2 := pne f2
    have p3 := pne f3
    have old : ∀ {l : Addr} {o : HO}, l ≠ p → H l = some o → H3 l = some o := fun h e => k03.at_ e h
    have apart : ∀ {l m : Addr} {o : HO}, l ≠ p → H l = some o → H3 m = none → l ≠ m := fun h e hm z => by
      subst z
      rw [old h e] at hm
      cases hm
    have k04 : Kl p H H4 := k03.trans (.of e34)
    have hb4 := k04.at_ hb hbp
    have ha4 := k04.at_ ha hap
    have hc4 := k04.at_ hc hcp
    have hwd : ∀ j : Nat, j < 4 → ∃ wd, (ws.map V.str)[j]? = some (.str wd) ∧ Nm wd := fun j hj => ⟨_, by rw [List.getElem?_map, List.getElem?_eq_getElem (by omega : j < ws.length)] <;> rfl, hws _ (List.getElem_mem _)⟩
    -- the links
    refine q_forP (p := p) (n := n + 2) (M := 4) (by decide) (fun Q q => ?_) (fun i σ' H' => Ks [p, l1] H4 H' ∧ PoolAt H' p (n + 2 + 3 * i) ∧ (∃ ys ls, H' l1 = some (.lst ys) ∧ DpAll (Kw w) H' ys (ls.map lD) ∧ ls.length = i ∧ ∀ l ∈ ls, OkL P l) ∧
        ∃ x12 x13 x14, σ' = [some (.ref p), some (.ref a), some (.ref b), some (.str nm), some (.int (at_ : Int)), some (.ref c), some (.int kat.2), none, some (.int (P : Int)), some (.ref l1), some (.ref l2), some (.ref l3), x12, x13, x14, none])
      (fun H5 k5 po5 => ⟨k5.ks (by simp), po5, ⟨[], [], k5.at_ c1 p1, .nil, rfl, fun l h => by cases h⟩, _, _, _, rfl⟩) (fun i σ' H' hi pv => ?_) (fun mm σ' H' hmm pv => ?_)
    · refine consW ?_
      refine draw_at (m := 5) (ev_var rfl) ev_c po4 (by omega) (by decide) (by decide) fun r H5 hr k5 po5 => ?_
      exact q r H5 (by omega) k5 (po5.mono (by omega))
    · obtain ⟨k5, po5, ⟨ys, ls, h5, hy, hlen, hok⟩, x12, x13, x14, rfl⟩ := pv
      refine q_asgW (tupW (consW ?_))
      refine draw_at (m := (P : Int)) (ev_var rfl) (ev_var rfl) po5 (by omega) (by omega) (by omega) fun r1 H6 hr1 k6 po6 => ?_
      refine consW ?_
      refine draw_at (m := (P : Int)) (ev_var rfl) (ev_var rfl) po6 (by omega) (by omega) (by omega) fun r2 H7 hr2 k7 po7 => ?_
      refine nilW ⟨sz_of (show (2 : Nat) ≤ 100000 by decide), fun t ht => ?_⟩
      have e8 : Ex H7 (upd H7 t (.tup [.int (r1 : Int), .int (r2 : Int)])) := Ex.new ht
      have ht8 : (upd H7 t (.tup [.int (r1 : Int), .int (r2 : Int)])) t = some (.tup [.int (r1 : Int), .int (r2 : Int)]) := upd_same
      generalize (upd H7 t (.tup [.int (r1 : Int), .int (r2 : Int)])) = H8 at e8 ht8
      have po8 := po7.ex e8
      have h8 := e8 _ _ (k7.at_ (k6.at_ h5 p1) p1)
      have k68 : Kl p H' H8 := (k6.trans k7).trans (.of e8)
      refine s_appW (i := 9) rfl h8 ?_
      refine opW (varW rfl (tupW (consW (opW (varW rfl ?_)))))
      refine draw_at (m := 2) (ev_var rfl) ev_c po8 (by omega) (by decide) (by decide) fun r3 H9 hr3 k9 po9 => ?_
      obtain ⟨wd, hwd1, hwd2⟩ := hwd r3 (by omega)
      have k59 : Ks [p, l1] H4 H9 := k5.trans ((k68.trans k9).ks (by simp))
      have hb9 := k59.at_ hb4 (by simp only [List.mem_cons, List.not_mem_nil, or_false, not_or]; exact ⟨hbp, apart hbp hb hl1⟩)
      refine ⟨b, _, _, _, rfl, rfl, sq_of hb9, atI_nat hwd1, ?_⟩
      refine nilW ⟨sz_of (show (1 : Nat) ≤ 100000 by decide), fun t2 ht2 => ?_⟩
      have htp : t ≠ p := fun z => by
        subst z
        obtain ⟨_, _, _, q, _⟩ := po8
        rw [ht8] at q
        cases q
      have e10 := Ex.new (o := .tup [.str wd]) ht2
      refine ⟨t, t2, _, _, rfl, rfl, SqT.of (e10 _ _ (k9.at_ ht8 htp)), SqT.of upd_same, sz_of (show (3 : Nat) ≤ 100000 by decide), fun h => (by cases h), fun _ h => (by cases h), fun _ _ q hq => ?_⟩
      have e11 := e10.trans (Ex.new (o := .tup ([.int (r1 : Int), .int (r2 : Int)] ++ [.str wd])) hq)
      have h11 := e11 _ _ (k9.at_ h8 p1)
      refine appE h11 (by have := hy.len; rw [List.length_map] at this; omega) ⟨(k59.trans (.of e11)).trans (.upd h11 (by simp)), ((po9.ex e11).upd p1).mono (by omega), ⟨_, ls ++ [⟨(r1 : Int), (r2 : Int), wd⟩], upd_same, ?_, by rw [List.length_append, hlen, List.length_singleton], fun l hl => ?_⟩, _, _, _, rfl⟩
      · rw [List.map_append]
        have tx : Tx H' (upd (upd (upd H9 t2 (.tup [.str wd])) q (.tup ([.int (r1 : Int), .int (r2 : Int)] ++ [.str wd]))) l1 (.lst (ys ++ [.ref q]))) := ((k68.trans k9).trans (.of e11)).tx.trans (Tx.lst h11)
        refine (hy.tx (immAll_map imm_lD ls) tx).app (.one (.tup (SqT.of ((upd_ne ?_).trans upd_same)) (.cons (.int _) (.cons (.int _) (.cons (.str _) .nil)))))
        intro z
        subst z
        rw [e10 _ _ (k9.at_ h8 p1)] at hq
        cases hq
      · rcases List.mem_append.mp hl with hl | hl
        · exact hok l hl
        · rw [List.mem_singleton.mp hl]
          exact ⟨⟨by show (0 : Int) ≤ (r1 : Int); omega, hr1⟩, ⟨by show (0 : Int) ≤ (r2 : Int); omega, hr2⟩, hwd2⟩
    obtain ⟨k5, po5, ⟨ys1, ls, h5, hy1, hlen1, hok1⟩, x12, x13, x14, rfl⟩ := pv
    generalize hH5 : H' = H5 at k5 po5 h5 hy1
    clear hH5
    have hb5 := k5.at_ hb4 (by simp only [List.mem_cons, List.not_mem_nil, or_false, not_or]; exact ⟨hbp, apart hbp hb hl1⟩)
    have ha5 := k5.at_ ha4 (by simp only [List.mem_cons, List.not_mem_nil, or_false, not_or]; exact ⟨hap, apart hap ha hl1⟩)
    have hc5 := k5.at_ hc4 (by simp only [List.mem_cons, List.not_mem_nil, or_false, not_or]; exact ⟨hcp, apart hcp hc hl1⟩)
    have c25 := k5.at_ c2 (by simp only [List.mem_cons, List.not_mem_nil, or_false, not_or]; exact ⟨p2, Ne.symm n12⟩)
    have c35 := k5.at_ c3 (by simp only [List.mem_cons, List.not_mem_nil, or_false, not_or]; exact ⟨p3, Ne.symm n13⟩)
    have po5 : PoolAt H5 p (n + 14) := po5.mono (by omega)
    have hkat1 := okk.g kat hkm
    -- the marks
    refine q_forP (p := p) (n := n + 15) (M := 2) (by decide) (fun Q q => ?_) (fun i σ' H' => Ks [p, l2] H5 H' ∧ PoolAt H' p (n + 15 + 2 * i) ∧ (∃ ys ms, H' l2 = some (.lst ys) ∧ DpAll (Kw w) H' ys (ms.map mD) ∧ ms.length ≤ i ∧ ∀ m ∈ ms, OkM kat.2 P m) ∧
        ∃ x12 x13 x14, σ' = [some (.ref p), some (.ref a), some (.ref b), some (.str nm), some (.int (at_ : Int)), some (.ref c), some (.int kat.2), none, some (.int (P : Int)), some (.ref l1), some (.ref l2), some (.ref l3), x12, x13, x14, none])
      (fun H6 k6 po6 => ⟨k6.ks (by simp), po6, ⟨[], [], k6.at_ c25 p2, .nil, Nat.le_refl _, fun l h => by cases h⟩, _, _, _, rfl⟩) (fun i σ' H' hi pv => ?_) (fun mm2 σ' H' hmm2 pv => ?_)
    · refine consW ?_
      refine draw_at (m := 3) (ev_var rfl) ev_c po5 (by omega) (by decide) (by decide) fun r H6 hr k6 po6 => ?_
      exact q r H6 (by omega) k6 po6
    · obtain ⟨k6, po6, ⟨ys, ms, h6, hy, hlen, hok⟩, x12, x13, x14, rfl⟩ := pv
      refine s_when (b := decide (kat.2 < (P : Int))) (et_test (ev_op (ev_var rfl) (ev_var rfl) rv_I0)) (fun hlt H7 e7 => ?_) (fun _ H7 e7 => ?_)
      · have hlt : kat.2 < (P : Int) := of_decide_eq_true hlt
        refine q_asgW (opW (varW rfl ?_))
        refine draw_at (m := (P : Int) - kat.2) (ev_var rfl) (ev_subI (ev_var rfl) (ev_var rfl)) (po6.ex e7) (by omega) (by omega) (by omega) fun r H8 hr8 k8 po8 => ?_
        refine addW rfl ?_
        have h8 := k8.at_ (e7 _ _ h6) p2
        refine s_appW (i := 10) rfl h8 ?_
        refine tupW (consW (varW rfl (consW (opW (varW rfl (opW (cW ?_)))))))
        refine draw_at (m := 2) (ev_var rfl) ev_c po8 (by omega) (by decide) (by decide) fun r3 H9 hr9 k9 po9 => ?_
        refine addW (show (2 : Int) + (r3 : Int) = ((2 + r3 : Nat) : Int) by omega) ?_
        obtain ⟨wd, hwd1, hwd2⟩ := hwd (2 + r3) (by omega)
        have k69 : Ks [p, l2] H5 H9 := k6.trans ((((Kl.of (p := p) e7).trans k8).trans k9).ks (by simp))
        have hb9 := k69.at_ hb5 (by simp only [List.mem_cons, List.not_mem_nil, or_false, not_or]; exact ⟨hbp, apart hbp hb f2⟩)
        refine ⟨b, _, _, _, rfl, rfl, sq_of hb9, atI_nat hwd1, ?_⟩
        refine nilW ⟨sz_of (show (2 : Nat) ≤ 100000 by decide), fun q hq => ?_⟩
        have e10 := Ex.new (o := .tup [.int (kat.2 + (r : Int)), .str wd]) hq
        have h9 := k9.at_ h8 p2
        have h10 := e10 _ _ h9
        refine appE h10 (by have := hy.len; rw [List.length_map] at this; omega) ⟨(k69.trans (.of e10)).trans (.upd h10 (by simp)), ((po9.ex e10).upd p2).mono (by omega), ⟨_, ms ++ [⟨kat.2 + (r : Int), wd⟩], upd_same, ?_, by rw [List.length_append, List.length_singleton]; omega, fun m hm => ?_⟩, _, _, _, rfl⟩
        · rw [List.map_append]
          have tx : Tx H' (upd (upd H9 q (.tup [.int (kat.2 + (r : Int)), .str wd])) l2 (.lst (ys ++ [.ref q]))) := ((((Kl.of (p := p) e7).trans k8).trans k9).trans (.of e10)).tx.trans (Tx.lst h10)
          refine (hy.tx (immAll_map imm_mD ms) tx).app (.one (.tup (SqT.of ((upd_ne ?_).trans upd_same)) (.cons (.int _) (.cons (.str _) .nil))))
          intro z
          subst z
          rw [h9] at hq
          cases hq
        · rcases List.mem_append.mp hm with hm | hm
          · exact hok m hm
          · rw [List.mem_singleton.mp hm]
            exact ⟨⟨by show kat.2 ≤ kat.2 + (r : Int); omega, by show kat.2 + (r : Int) < (P : Int); omega⟩, hwd2⟩
      · exact ⟨k6.trans (.of e7), (po6.ex e7).mono (by omega), ⟨ys, ms, e7 _ _ h6, hy.ex e7, by omega, hok⟩, _, _, _, rfl⟩
    obtain ⟨k6, po6, ⟨ys2, ms, h6, hy2, hlen2, hok2⟩, x12, x13, x14, rfl⟩ := pv
    generalize hH6 : H' = H6 at k6 po6 h6 hy2
    clear hH6
    have ha6 := k6.at_ ha5 (by simp only [List.mem_cons, List.not_mem_nil, or_false, not_or]; exact ⟨hap, apart hap ha f2⟩)
    have hc6 := k6.at_ hc5 (by simp only [List.mem_cons, List.not_mem_nil, or_false, not_or]; exact ⟨hcp, apart hcp hc f2⟩)
    have c36 := k6.at_ c35 (by simp only [List.mem_cons, List.not_mem_nil, or_false, not_or]; exact ⟨p3, Ne.symm n23⟩)
    have c16 := k6.at_ h5 (by simp only [List.mem_cons, List.not_mem_nil, or_false, not_or]; exact ⟨p1, n12⟩)
    have po6 : PoolAt H6 p (n + 20) := po6.mono (by omega)
    have tx06 : Tx H H6 := (k04.tx.trans k5.tx).trans k6.tx
    -- the slots
    refine q_forLn (ev_var rfl) (sq_of hc6) (fun i σ' H' => Ks [p, l3] H6 H' ∧ PoolAt H' p (n + 20 + 2 * i) ∧ (∃ ys ss, H' l3 = some (.lst ys) ∧ DpAll (Kw w) H' ys (ss.map sD) ∧ ss.length = i ∧ (∀ s ∈ ss, OkS ks P s) ∧ ss.map (fun s => some s.k) = (bl.take i).map (fun k => ks[k]?.map (·.1))) ∧
        ∃ x7, σ' = [some (.ref p), some (.ref a), some (.ref b), some (.str nm), some (.int (at_ : Int)), some (.ref c), some (.int kat.2), x7, some (.int (P : Int)), some (.ref l1), some (.ref l2), some (.ref l3), x12, x13, x14, none])
      (fun H7 e7 => ⟨.of e7, po6.ex e7, ⟨[], [], e7 _ _ c36, .nil, rfl, (fun l h => by cases h), rfl⟩, _, rfl⟩) (fun i σ' H' _ pv => ?_) (fun i x σ' H' hi pv => ?_) (fun σ' H' pv => ?_)
    · exact sq_of (pv.1.at_ hc6 (by simp only [List.mem_cons, List.not_mem_nil, or_false, not_or]; exact ⟨hcp, apart hcp hc f3⟩))
    · obtain ⟨k7, po7, ⟨ys, ss, h7, hy, hlen, hok, hks⟩, x7, rfl⟩ := pv
      rw [List.getElem?_map, Option.map_eq_some_iff] at hi
      obtain ⟨kn, hkn, rfl⟩ := hi
      have hknm : kn ∈ bl := List.mem_of_getElem? hkn
      obtain ⟨kk, hkk, _, hkkm⟩ := hkg kn hknm
      have ha7 := k7.at_ ha6 (by simp only [List.mem_cons, List.not_mem_nil, or_false, not_or]; exact ⟨hap, apart hap ha f3⟩)
      have hil : i < bl.length := (List.getElem?_eq_some_iff.mp hkn).1
      have tx07 : Tx H H' := tx06.trans k7.tx
      refine s_appW (i := 11) rfl h7 ?_
      refine tupW (consW (evW (v := .str kk.1) (ev_str (ed_ixTD (i := 0) (ds := [.str kk.1, .int kk.2]) (ed_ixLD (i := kn) (ed_var rfl (hkD tx07 ha7)) (fun _ _ => ev_var rfl) (hkx _ _ hkk)) (fun _ _ => ev_c) rfl)) fun H8 e8 => ?_))
      refine consW (callW (consW (varW rfl (consW (varW rfl (consW (evW (v := .int kk.2) (ev_int (ed_ixTD (i := 1) (ds := [.str kk.1, .int kk.2]) (ed_ixLD (i := kn) (ed_var rfl (hkD (tx07.trans (Tx.of e8)) (e8 _ _ ha7))) (fun _ _ => ev_var rfl) (hkx _ _ hkk)) (fun _ _ => ev_c) rfl)) fun H9 e9 => nilW ?_)))))))
      obtain ⟨g, hg⟩ : ∃ g : Nat, kk.2 = (g : Int) := ⟨kk.2.toNat, by have := (okk.g kk hkkm).1; omega⟩
      have hkk1 := okk.g kk hkkm
      have hkk2 := hg2 kk hkkm
      have hkkm2 := hblm kn hknm kk hkk
      refine ⟨p, P, g, _, by rw [hg] <;> rfl, po7.ex (e8.trans e9), by omega, by omega, by omega, by omega, fun v sp H10 k10 po10 hv hsl hsn hsr => ?_⟩
      refine nilW ⟨sz_of (show (2 : Nat) ≤ 100000 by decide), fun q hq => ?_⟩
      have e11 := Ex.new (o := .tup [.str kk.1, v]) hq
      have h10 := k10.at_ (e9 _ _ (e8 _ _ h7)) p3
      have h11 := e11 _ _ h10
      have kl : Kl p H' (upd H10 q (.tup [.str kk.1, v])) := ((Kl.of (e8.trans e9)).trans k10).trans (.of e11)
      refine appE h11 (by have := hy.len; rw [List.length_map] at this; omega) ⟨(k7.trans (kl.ks (by simp))).trans (.upd h11 (by simp)), ((po10.ex e11).upd p3).mono (by omega), ⟨_, ss ++ [⟨kk.1, sp⟩], upd_same, ?_, by rw [List.length_append, List.length_singleton, hlen], fun s hs => ?_, ?_⟩, _, rfl⟩
      · rw [List.map_append]
        have tx : Tx H' (upd (upd H10 q (.tup [.str kk.1, v])) l3 (.lst (ys ++ [.ref q]))) := kl.tx.trans (Tx.lst h11)
        have tx2 : Tx H10 (upd (upd H10 q (.tup [.str kk.1, v])) l3 (.lst (ys ++ [.ref q]))) := (Tx.of e11).trans (Tx.lst h11)
        refine (hy.tx (immAll_map imm_sD ss) tx).app (.one (.tup (SqT.of ((upd_ne ?_).trans upd_same)) (.cons (.str _) (.cons (hv.tx (imm_ints sp) tx2) .nil))))
        intro z
        subst z
        rw [h10] at hq
        cases hq
      · rcases List.mem_append.mp hs with hs | hs
        · exact hok s hs
        · rw [List.mem_singleton.mp hs]
          exact ⟨kk.2, gatesOf_get okk.nd hkk, by show ((sp.length : Nat) : Int) = kk.2; rw [hsl, hg], hsr, hsn⟩
      · rw [List.map_append, hks, List.take_succ, hkn, Option.toList_some, List.map_append, List.map_cons, List.map_cons, hkk] <;> rfl
    obtain ⟨k7, po7, ⟨ys3, ss, h7, hy3, hlen3, hok3, hks⟩, x7, rfl⟩ := pv
    rw [List.length_map] at po7 hlen3 hks
    rw [List.take_length] at hks
    have c17 := k7.at_ c16 (by simp only [List.mem_cons, List.not_mem_nil, or_false, not_or]; exact ⟨p1, n13⟩)
    have c27 := k7.at_ h6 (by simp only [List.mem_cons, List.not_mem_nil, or_false, not_or]; exact ⟨p2, n23⟩)
    have ha7 := k7.at_ ha6 (by simp only [List.mem_cons, List.not_mem_nil, or_false, not_or]; exact ⟨hap, apart hap ha f3⟩)
    have d1 : Dp (Kw w) H' (.ref l1) (.list (ls.map lD)) := .lst (sq_of c17) (hy1.tx (immAll_map imm_lD ls) (k6.tx.trans k7.tx))
    have d2 : Dp (Kw w) H' (.ref l2) (.list (ms.map mD)) := .lst (sq_of c27) (hy2.tx (immAll_map imm_mD ms) k7.tx)
    refine q_asgD (d := .tuple [.tuple ((ddp ls).map lD), .tuple ((ddp ms).map mD), .tuple (ss.map sD)]) (ed_tup (ea_consD (ed_call (ea_consD (ed_var rfl d1) ea_nilD) ⟨Lnk, _, lD, ls, rfl, by omega, apart_l fun l hl => (hok1 l hl).2.2, rfl⟩) (ea_consD (ed_call (ea_consD (ed_var rfl d2) ea_nilD) ⟨Mrk, _, mD, ms, rfl, by omega, apart_m fun l hl => (hok2 l hl).2, rfl⟩)
      (ea_consD (ed_tupleV (ev_var rfl) h7 hy3) ea_nilD))) (show (3 : Nat) ≤ 100000 by decide)) fun v H8 e8 hv => ?_
    refine s_retD (K := Kw w) (d := tD ⟨nm, kat.1, P, ddp ls, ddp ms, ss⟩) (ed_to (ed_catA (ed_tup (ea_consD (ed_str (ev_var rfl)) (ea_consD (d := .str kat.1) (ed_ixTD (i := 0) (ds := [.str kat.1, .int kat.2]) (ed_ixLD (i := at_) (ed_var rfl (hkD ((tx06.trans k7.tx).trans (Tx.of e8)) (e8 _ _ ha7))) (fun _ _ => ev_var rfl) (hkx _ _ hget)) (fun _ _ => ev_c) rfl) (ea_consD (ed_int (ev_var rfl)) ea_nilD))) (show (3 : Nat) ≤ 100000 by decide)) (ed_var rfl hv) (show (6 : Nat) ≤ 100000 by decide)) rfl) fun v2 H9 e9 hv9 => ?_
    refine k v2 ⟨nm, kat.1, P, ddp ls, ddp ms, ss⟩ H9 ?_ (((po7.ex e8).ex e9).mono (by omega)) hv9 ?_ rfl (by rw [hget] <;> rfl) hks
    · refine ⟨fun b' o hb' e => (e8.trans e9) _ _ ?_, (((tx06.trans k7.tx).trans (Tx.of e8)).trans (Tx.of e9))⟩
      have hbp' : b' ≠ p := by simpa using hb'
      refine k7.at_ (k6.at_ (k5.at_ (k04.at_ e hbp') ?_) ?_) ?_
      · simp only [List.mem_cons, List.not_mem_nil, or_false, not_or]; exact ⟨hbp', apart hbp' e hl1⟩
      · simp only [List.mem_cons, List.not_mem_nil, or_false, not_or]; exact ⟨hbp', apart hbp' e f2⟩
      · simp only [List.mem_cons, List.not_mem_nil, or_false, not_or]; exact ⟨hbp', apart hbp' e f3⟩
    · exact ⟨hnm, ⟨kat.2, gatesOf_get okk.nd hget, by show kat.2 ≤ (P : Int); omega, fun m hm => hok2 m (ddp_sub ms m hm)⟩, hP5, by have := ddp_len ls; show (ddp ls).length ≤ 4; omega, by have := ddp_len ms; show (ddp ms).length ≤ 4; omega, by show ss.length ≤ 2; omega, fun l hl => hok1 l (ddp_sub ls l hl), hok3, ddp_nodup ls, ddp_nodup ms⟩
end
end K76
set_option maxHeartbeats 4000000
namespace K76
open PySem PySem.W PySem.Calls PyProof.Rows L2 Evl Ed
section
variable {w : World} {mg : Str → Option Value} {base : Heap}
theorem mainFile : ((PR.main.file : Str) == ("/claim/cut.py" : Str)) = true := by kernel_rfl
theorem cell1460 (P : Params) : ∃ oc od sl, (K0 P).lookup 1460 = some ⟨oc, od, .cell (some (.ref 1504)), sl⟩ := ⟨.type "cell", none, #[], by kernel_rfl⟩
theorem b_SiteWorkshop_is_deed (P : Params) : Binds (K0 P) fd_SiteWorkshop_is_deed ["self", "value"] [] := .all fun us hl => match us, hl with | [_, _], _ => rfl
theorem b_SiteWorkshop_change (P : Params) : Binds (K0 P) fd_SiteWorkshop_change ["self", "deed"] [] := .all fun us hl => match us, hl with | [_, _], _ => rfl
theorem b_SiteWorkshop_move (P : Params) : Binds (K0 P) fd_SiteWorkshop_move ["self", "book"] [] := .all fun us hl => match us, hl with | [_, _], _ => rfl
theorem sc_SiteWorkshop_is_deed : FnScopeS ["self", "value"] ["self", "value"] (defScope s_SiteWorkshop_is_deed) := ⟨rfl, rfl, rfl, by decide +kernel, rfl, by decide +kernel, by decide +kernel, by decide +kernel, by decide +kernel, by decide +kernel⟩
theorem sc_SiteWorkshop_move : FnScopeS ["self", "book", "kept", "site", "sites"] ["self", "book"] (defScope s_SiteWorkshop_move) := ⟨rfl, rfl, rfl, by decide +kernel, rfl, by decide +kernel, by decide +kernel, by decide +kernel, by decide +kernel, by decide +kernel⟩
theorem sc_SiteWorkshop_change : FnScopeS ["self", "deed", "word", "name"] ["self", "deed"] (defScope s_SiteWorkshop_change) := ⟨rfl, rfl, rfl, by decide +kernel, rfl, by decide +kernel, by decide +kernel, by decide +kernel, by decide +kernel, by decide +kernel⟩
theorem sc0_SiteWorkshop_is_deed : FnScopeS ["self"] ["self"] (defScope s_SiteWorkshop_is_deed) := ⟨rfl, rfl, rfl, by decide +kernel, rfl, by decide +kernel, by decide +kernel, by decide +kernel, by decide +kernel, by decide +kernel⟩
theorem sc0_SiteWorkshop_move : FnScopeS ["self"] ["self"] (defScope s_SiteWorkshop_move) := ⟨rfl, rfl, rfl, by decide +kernel, rfl, by decide +kernel, by decide +kernel, by decide +kernel, by decide +kernel, by decide +kernel⟩
theorem sc0_SiteWorkshop_change : FnScopeS ["self"] ["self"] (defScope s_SiteWorkshop_change) := ⟨rfl, rfl, rfl, by decide +kernel, rfl, by decide +kernel, by decide +kernel, by decide +kernel, by decide +kernel, by decide +kernel⟩
theorem supX_is_deed (W : Wd w.params mg) {CX : CXT} {N : List Str} {A : Around} {outer : List Env} {s : Shared} {H : Hp} {E : XK} (hN : N[0]? = some ("self" : Str)) : SupX (cxS CX PR w (Kw w) mg base N "SiteWorkshop.is_deed" (defScope s_SiteWorkshop_is_deed) 1472 (.ref 1471) 1460 A outer s H E) 1504 := by
  obtain ⟨cdD, hc, _⟩ := PySem.W.any_some (cls_SiteWorkshop (P := w.params)).hd
  exact ⟨⟨1472, 1471, 1460, _, _, _, fd_SiteWorkshop_is_deed, _, _, _, _, _, "/claim/cut.py", 2199, _, _, _, cdD, rfl, rfl, look_class (ps := ["self"]) sc0_SiteWorkshop_is_deed, (show (K0 w.params).lookup 1472 = some (o1472 w.params) by kernel_rfl), rfl, hN, rfl, (show (K0 w.params).lookup 1471 = some (o1471 w.params) by kernel_rfl), rfl, mainFile, (show (K0 w.params).lookup 1460 = some (o1460 w.params) by kernel_rfl), hc⟩, rfl, rfl, n_super W, by kernel_rfl, opq⟩
theorem supX_move (W : Wd w.params mg) {CX : CXT} {N : List Str} {A : Around} {outer : List Env} {s : Shared} {H : Hp} {E : XK} (hN : N[0]? = some ("self" : Str)) : SupX (cxS CX PR w (Kw w) mg base N "SiteWorkshop.move" (defScope s_SiteWorkshop_move) 1501 (.ref 1500) 1460 A outer s H E) 1504 := by
  obtain ⟨cdD, hc, _⟩ := PySem.W.any_some (cls_SiteWorkshop (P := w.params)).hd
  exact ⟨⟨1501, 1500, 1460, _, _, _, fd_SiteWorkshop_move, _, _, _, _, _, "/claim/cut.py", 2237, _, _, _, cdD, rfl, rfl, look_class (ps := ["self"]) sc0_SiteWorkshop_move, (show (K0 w.params).lookup 1501 = some (o1501 w.params) by kernel_rfl), rfl, hN, rfl, (show (K0 w.params).lookup 1500 = some (o1500 w.params) by kernel_rfl), rfl, mainFile, (show (K0 w.params).lookup 1460 = some (o1460 w.params) by kernel_rfl), hc⟩, rfl, rfl, n_super W, by kernel_rfl, opq⟩
theorem supX_change (W : Wd w.params mg) {CX : CXT} {N : List Str} {A : Around} {outer : List Env} {s : Shared} {H : Hp} {E : XK} (hN : N[0]? = some ("self" : Str)) : SupX (cxS CX PR w (Kw w) mg base N "SiteWorkshop.change" (defScope s_SiteWorkshop_change) 1485 (.ref 1484) 1460 A outer s H E) 1504 := by
  obtain ⟨cdD, hc, _⟩ := PySem.W.any_some (cls_SiteWorkshop (P := w.params)).hd
  exact ⟨⟨1485, 1484, 1460, _, _, _, fd_SiteWorkshop_change, _, _, _, _, _, "/claim/cut.py", 2218, _, _, _, cdD, rfl, rfl, look_class (ps := ["self"]) sc0_SiteWorkshop_change, (show (K0 w.params).lookup 1485 = some (o1485 w.params) by kernel_rfl), rfl, hN, rfl, (show (K0 w.params).lookup 1484 = some (o1484 w.params) by kernel_rfl), rfl, mainFile, (show (K0 w.params).lookup 1460 = some (o1460 w.params) by kernel_rfl), hc⟩, rfl, rfl, n_super W, by kernel_rfl, opq⟩
def spDeedS (K : PySem.W.Frag) : Sp := fun vs H Q E => ∃ (x dx : Addr) (fs : List (Str × V)) (v : V) (b : Bool), vs = [.ref x, v] ∧ H x = some (.ins 1504 dx fs) ∧ Jdg K H v fWS b ∧ ∀ H', Ex H H' → Q (.bl b) H'
/-! ### SiteWorkshop.is_deed -/
theorem Jdg.or {K : PySem.W.Frag} {H : Hp} {v : V} {b : Bool} (j : Jdg K H v fWS b) : ∃ b1 b2, Jdg K H v fW b1 ∧ Jdg K H v fS b2 ∧ b = (b1 || b2) := by
  cases j with
  | nt h hk => exact ⟨_, _, .nt h hk, .nt h hk, rfl⟩
  | em e h => exact ⟨_, _, .em e h, .em e h, rfl⟩
  | ns e h hy hk => exact ⟨_, _, .ns e h hy hk, .ns e h hy hk, rfl⟩
  | hd e h hx hb => exact ⟨_, _, .hd e h hx rfl, .hd e h hx rfl, hb⟩
theorem ok_SiteWorkshop_is_deed (W : Wd w.params mg) : Ok w mg base CX0 2 a_SiteWorkshop_is_deed fd_SiteWorkshop_is_deed ["self", "value"] (spDeedS (Kw w)) := by
  refine fn_super (oc := .type "function") (od := none) (osl := #[]) (cdv := .ref 1471) (by kernel_rfl) (by kernel_rfl) sc_SiteWorkshop_is_deed (cell1460 _) (fun vs H Q E h => ?_) (fun A outer s H vs Q E hr h => ?_)
  · obtain ⟨x, dx, fs, v, b, rfl, _⟩ := h
    rfl
  · obtain ⟨x, dx, fs, v, b, rfl, hx, j, k⟩ := h
    refine ⟨_, psa_one (psa_ret (pea_or (pea_super (C := 1504) (D := 1504) (f2 := 1366) (E := E) ?_ sup_is_deed (ok_Workshop_is_deed W) hr (b_Workshop_is_deed _) pass0 (pa_cons (pv 1) pa_nil)) (pe_one (pe_call (ok_is_site_deed W) hr rfl (g_is_site_deed W) (F_is_site_deed _).kp (b_is_site_deed _) .nil pass0 (pa_cons (pv 1) pa_nil))))), ?_⟩
    · exact supX_is_deed W rfl
    · refine ⟨x, dx, fs, rfl, hx, fun q hq => ?_⟩
      have e0 : Ex H (upd H q (.met 1366 x)) := Ex.new hq
      obtain ⟨b1, b2, j1, j2, rfl⟩ := j.or
      refine ⟨_, rfl, upd_same, .ref x, v, b1, rfl, j1.ex e0, fun H1 e1 => ⟨b1, rfl, ?_⟩⟩
      cases b1 with
      | true => exact k H1 (e0.trans e1)
      | false => exact ⟨_, rfl, v, b2, rfl, j2.ex (e0.trans e1), fun H2 e2 => k H2 ((e0.trans e1).trans e2)⟩
/-! ### SiteWorkshop.check_use -/
theorem ed_tupleOfV {K : PySem.W.Frag} {σ : L2.St} {H : Hp} {te : TE} {p : Addr} {ys : List V} {ds : List PyData} (h : Ev te σ H (.ref p)) (hs : SqL K H p ys) (hd : DpAll K H ys ds) : EvD K (tCB (fun xs H Q => ∃ p ys, xs = [.ref p] ∧ ((SqL K H p ys ∧ ∀ l, H l = none → Q (.ref l) (upd H l (.tup ys))) ∨ (SqT K H p ys ∧ Q (.ref p) H))) (tCons te tNil)) σ H (.tuple ds) := fun H1 e Q q =>
  h H1 e _ fun H2 e2 => ⟨p, ys, rfl, .inl ⟨ex_l (e.trans e2) hs, fun l hl => q _ _ (e2.trans (Ex.new hl)) (.tup (SqT.of upd_same) ((hd.ex (e.trans e2)).ex (Ex.new hl)))⟩⟩
theorem ev_inBook {K : PySem.W.Frag} {σ : L2.St} {H : Hp} {ta tb : TE} {E : XK} {neg : Bool} {a : Addr} {nm : Str} {ks : List (Str × Int)} {ts : List Tmp} (h : Ev ta σ H (.str nm)) (hb : Ev tb σ H (.ref a)) (b : BookAt K H a ks ts) :
    Ev (tOp (rInO 835 (spBIn K) E neg) ta tb) σ H (.bl (if neg then !decide (nm ∈ ts.map (·.name)) else decide (nm ∈ ts.map (·.name)))) := fun H1 e Q q =>
  h H1 e _ fun H2 e2 => hb H2 (e.trans e2) _ fun H3 e3 => by
    have hb2 := b.ex ((e.trans e2).trans e3)
    obtain ⟨dx, u, v, r, n, tt, hx, _⟩ := id hb2
    exact ⟨a, dx, _, rfl, hx, a, ks, ts, nm, rfl, hb2, fun H4 e4 => ⟨_, rfl, q H4 ((e2.trans e3).trans e4)⟩⟩
theorem ed_template {K : PySem.W.Frag} {σ : L2.St} {H : Hp} {ta : TE} {tr : TA} {E : XK} {a : Addr} {ks : List (Str × Int)} {ts : List Tmp} {t : Tmp} (h : Ev ta σ H (.ref a)) (hn : EvA tr σ H [.str t.name]) (b : BookAt K H a ks ts) (ok : OkB ks ts) (ht : t ∈ ts) :
    EvD K (tMeth 835 "template" (spTemplate K) [] E ta tr) σ H (tD t) := fun H1 e Q q =>
  h H1 e _ fun H2 e2 => by
    have hb2 := b.ex (e.trans e2)
    obtain ⟨dx, u, v, r, n, tt, hx, _⟩ := id hb2
    exact ⟨a, dx, _, rfl, hx, rfl, hn H2 (e.trans e2) _ fun H3 e3 => ⟨a, ks, ts, t, rfl, hb2.ex e3, ok, ht, fun v H4 e4 hv => q v H4 ((e2.trans e3).trans e4) hv⟩⟩
theorem sc_SiteWorkshop_check_use : FnScope ["self", "word", "value", "name", "old", "slot", "kept", "site"] ["self", "word", "value"] (defScope s_SiteWorkshop_check_use) := ⟨rfl, rfl, rfl, by decide +kernel, rfl, by decide +kernel, by decide +kernel⟩
def spUse (K : PySem.W.Frag) : Sp := fun vs H Q _ => ∃ (x C dx b : Addr) (fs : List (Str × V)) (v : V) (ks : List (Str × Int)) (ts : List Tmp) (t : Tmp), vs = [.ref x, .str "put", v] ∧ Sc K C ∧ H x = some (.ins C dx fs) ∧ fs.lookup ("book" : Str) = some (.ref b) ∧ BookAt K H b ks ts ∧ OkB ks ts ∧ t ∈ ts ∧ Dp K H v (tD t) ∧ ∀ H', Ex H H' → Q .non H'
theorem ok_SiteWorkshop_check_use (W : Wd w.params mg) : Ok w mg base CX0 5 a_SiteWorkshop_check_use fd_SiteWorkshop_check_use ["self", "word", "value"] (spUse (Kw w)) := by
  refine (F_SiteWorkshop_check_use w.params).ok sc_SiteWorkshop_check_use (fun vs H Q E h => ?_) (fun cdv A outer s H vs Q E hr h => ?_)
  · obtain ⟨x, C, dx, b, fs, v, ks, ts, t, rfl, _⟩ := h
    rfl
  · obtain ⟨x, C, dx, b, fs, v, ks, ts, t, rfl, sc, hx, hf, hb, ok, ht, hv, k⟩ := h
    refine ⟨_, (pss_cons (ps_set (i := 3) sc_SiteWorkshop_check_use.nd rfl (Or.inl rfl) (pv 2))
    (pss_cons (ps_if (pt_cmpR op_eq (pv 1) pe_str (nomark _)) (pss_cons (ps_set (i := 3) sc_SiteWorkshop_check_use.nd rfl (Or.inl rfl) (pe_ix ix_tup (pv 2) pe_int (fun _ _ => rfl)))
    (pss_cons (ps_if (pt_cmpR (op_notInO spc_Book___contains__ (ok_Book___contains__ W) (hr.mono (by decide)) (b_Book___contains__ _) pass0) (pv 3) (pe_fld (pv 0) rfl) rfl) (pss_one ps_retN) pss_nil)
    (pss_cons (ps_set (i := 4) sc_SiteWorkshop_check_use.nd rfl (Or.inl rfl) (pe_meth (pe_fld (pv 0) rfl) cls_Book mt_Book_template (ok_Book_template W) (hr.mono (by decide)) (b_Book_template _) .nil pass0 (pa_cons (pv 3) pa_nil)))
    (pss_one (ps_if (PW.pt (pw_and (pt_cmpR op_eq (pe_ix ix_tup (pv 4) pe_int (fun _ _ => rfl)) (pe_ix ix_tup (pv 2) pe_int (fun _ _ => rfl)) (nomark _)) (pw_and1 (pt_cmpR (op_eqD hr.units) (pe_lc (own := [("slot", 5)]) (g := gName 5) (tt := tYes) rfl sc_SiteWorkshop_check_use.nd (pi_tup (pe_ix ix_tup (pv 4) pe_int (fun _ _ => rfl))) (blkOk_by (own := [("slot", 5)]) (N := ["self", "word", "value", "name", "old", "slot", "kept", "site"]) (sc := defScope s_SiteWorkshop_check_use) (by decide +kernel)) (fun _ _ _ _ _ => (pg_name (i := 5) sc_SiteWorkshop_check_use.nd rfl (Or.inl rfl))) (fun _ _ _ _ _ => pts_nil) (fun _ _ _ _ _ => (pe_ix (ix_tupK (K := Kw w) rfl) (pv 5) pe_int (fun _ _ => rfl)))) (pe_lc (own := [("slot", 5)]) (g := gName 5) (tt := tYes) rfl sc_SiteWorkshop_check_use.nd (pi_tup (pe_ix ix_tup (pv 2) pe_int (fun _ _ => rfl))) (blkOk_by (own := [("slot", 5)]) (N := ["self", "word", "value", "name", "old", "slot", "kept", "site"]) (sc := defScope s_SiteWorkshop_check_use) (by decide +kernel)) (fun _ _ _ _ _ => (pg_name (i := 5) sc_SiteWorkshop_check_use.nd rfl (Or.inl rfl))) (fun _ _ _ _ _ => pts_nil) (fun _ _ _ _ _ => (pe_ix (ix_tupK (K := Kw w) rfl) (pv 5) pe_int (fun _ _ => rfl)))) (nomark _))))) (pss_one ps_retN) pss_nil))))) pss_nil)
    (pss_one ps_never))), ?_⟩
    refine q_asg (v := v) (ev_var rfl) fun H1 e1 => ?_
    refine q_when (b := true) (et_test (ev_op (ev_var rfl) (ev_c (v := .str "put")) (rv_eq rfl))) (fun _ H2 e2 => ?_) fun z => by cases z
    have hv2 := (hv.ex e1).ex e2
    refine q_asg (v := .str t.name) (ev_str (ed_ixTD (i := 0) (ed_var rfl hv2) (fun _ _ => ev_c) rfl)) fun H3 e3 => ?_
    have e13 := (e1.trans e2).trans e3
    refine q_when (b := false) (et_is (et_test (ev_inBook (neg := true) (ev_var rfl) (ev_fld (ev_var rfl) (e13 _ _ hx) sc.cls sc.book hf) (hb.ex e13))) ?_) (fun z => by cases z) fun _ H4 e4 => ?_
    · show (!decide (t.name ∈ ts.map (·.name))) = false
      rw [decide_eq_true (List.mem_map.mpr ⟨t, ht, rfl⟩)] <;> rfl
    have e14 := e13.trans e4
    refine q_asgD (ed_template (ev_fld (ev_var rfl) (e14 _ _ hx) sc.cls sc.book hf) (ea_cons (ev_var rfl) ea_nil) (hb.ex e14) ok ht) fun o H5 e5 ho => ?_
    have hv5 := hv2.ex ((e3.trans e4).trans e5)
    have okt := ok.t.ok t ht
    have hsh : SeqAt.shaped (.list (t.slots.map fun s => PyData.str s.k)) = true := Sh.shaped (sh_lst (k := 1) (sh_map fun s hs => by
      obtain ⟨g', hg', _⟩ := okt.ss s hs
      exact sh_nm (gates_bd ok.k hg').1)) (by decide)
    have hns := okt.ns
    have hls : ∀ (j : Nat) (vv : V), Dp (Kw w) H5 vv (tD t) → True := fun _ _ _ => trivial
    refine s_when (b := true) (et_is (et_and (a := true) (b := true) (et_is (et_test (ev_op (ev_str (ed_ixTD (i := 1) (ed_var rfl ho) (fun _ _ => ev_c) rfl)) (ev_str (ed_ixTD (i := 1) (ed_var rfl hv5) (fun _ _ => ev_c) rfl)) (rv_eq rfl))) (by simp)) fun _ => et_is (et_test (ev_eqD
      (ed_ld (eld_lcTN (gD := sD) (l := t.slots) (eD := fun s => .str s.k) (ed_ixTD (i := 5) (ed_var rfl ho) (fun _ _ => ev_c) rfl) (by omega) (fun _ => rfl) (fun _ => rfl) fun s hs y H6 e6 hy => ed_ixTD (i := 0) (ed_var rfl hy) (fun _ _ => ev_c) rfl))
      (ed_ld (eld_lcTN (gD := sD) (l := t.slots) (eD := fun s => .str s.k) (ed_ixTD (i := 5) (ed_var rfl hv5) (fun _ _ => ev_c) rfl) (by omega) (fun _ => rfl) (fun _ => rfl) fun s hs y H6 e6 hy => ed_ixTD (i := 0) (ed_var rfl hy) (fun _ _ => ev_c) rfl)) hsh hsh)) (Sh.refl (k := 2) (sh_lst (k := 1) (sh_map fun s hs => by
      obtain ⟨g', hg', _⟩ := okt.ss s hs
      exact sh_nm (gates_bd ok.k hg').1)))) rfl) (fun _ H6 e6 => ?_) fun z => by cases z
    exact k H6 ((e14.trans e5).trans e6)
/-! ### SiteWorkshop.move -/
def spMoveS (K : PySem.W.Frag) : Sp := fun vs H Q _ => ∃ (x dx b b' : Addr) (l h p s : V) (z : Bool), vs = [.ref x, .ref b'] ∧ H x = some (.ins 1504 dx (fS' (.ref b) l h p s z)) ∧ Dp K H s (.tuple []) ∧ ∀ s' H', Kp x H H' → H' x = some (.ins 1504 dx (fS' (.ref b') l h p s' z)) → Dp K H' s' (.tuple []) → Q .non H'
theorem ok_SiteWorkshop_move (W : Wd w.params mg) : Ok w mg base CX0 2 a_SiteWorkshop_move fd_SiteWorkshop_move ["self", "book"] (spMoveS (Kw w)) := by
  refine fn_super (oc := .type "function") (od := none) (osl := #[]) (cdv := .ref 1500) (by kernel_rfl) (by kernel_rfl) sc_SiteWorkshop_move (cell1460 _) (fun vs H Q E h => ?_) (fun A outer s H vs Q E hr h => ?_)
  · obtain ⟨x, dx, b, b', l, h, p, s, z, rfl, _⟩ := h
    rfl
  · obtain ⟨x, dx, b, b', l, hh, p, s, z, rfl, hx, hs, k⟩ := h
    refine ⟨_, psa_cons (PS.at_ (ps_setLc (i := 4) (own := [("kept", 2), ("site", 3)]) (g := gTup (Kw w) 2 (gCons (gName 2) (gCons (gName 3) gNil))) (tt := tYes) rfl sc_SiteWorkshop_move.nd rfl rfl (sw_true rfl rfl rfl (by decide +kernel)) (pi_tup (pe_fld (pv 0) rfl)) (blkOk_by (own := [("kept", 2), ("site", 3)]) (N := ["self", "book", "kept", "site", "sites"]) (sc := defScope s_SiteWorkshop_move) (by decide +kernel)) (fun _ _ _ _ _ => (pg_tupK (K := Kw w) (n := 2) rfl rfl (pgs_cons (pg_name (i := 2) sc_SiteWorkshop_move.nd rfl (Or.inl rfl)) (pgs_cons (pg_name (i := 3) sc_SiteWorkshop_move.nd rfl (Or.inl rfl)) pgs_nil)))) (fun _ _ _ _ _ => pts_nil) (fun _ _ _ _ _ => pe_nv))) (psa_cons (psa_expr (pea_super (C := 1504) (D := 1504) (f2 := 1409) (E := E) (supX_move W rfl) sup_move (ok_Workshop_move W) hr (b_Workshop_move _) pass0 (pa_cons (pv 1) pa_nil))) (PSs.at_ (pss_one (ps_fld (pv 0) (pe_callTy call_tuple_of rfl (n_tuple W) boot_tuple (pa_cons (pv 4) pa_nil)) rfl)))), ?_⟩
    refine q_asgLD (ds := []) (eld_lcTG (α := Unit) (l := []) (gD := fun _ => .none) (eD := fun _ => .none) (ed_fld (ev_var rfl) hx cls_SiteWorkshop na_SiteWorkshop_sites rfl hs) (by decide) (fun _ => rfl) fun n hn => by cases hn) fun pl xs H1 hpl e1 hl1 hd1 => ?_
    obtain rfl : xs = [] := by cases hd1; rfl
    refine ⟨x, dx, _, rfl, e1 _ _ hx, fun q hq => ?_⟩
    have e2 : Ex H1 (upd H1 q (.met 1409 x)) := Ex.new hq
    refine ⟨_, rfl, upd_same, x, 1504, dx, _, .ref b', rfl, scS, e2 _ _ (e1 _ _ hx), (show (6 : Nat) < 1000 by decide), fun H3 e3 hx3 => ?_⟩
    have e13 := (e1.trans e2).trans e3
    have k3 := (Kp.of (x := x) e13).trans (Kp.upd (u := .ins 1504 dx (fS' (.ref b') l hh p s z)) hx3)
    have hne : pl ≠ x := fun hz => by
      subst hz
      rw [hpl] at hx
      cases hx
    have hl3 : (upd H3 x (.ins 1504 dx (fS' (.ref b') l hh p s z))) pl = some (.lst []) := (upd_ne hne).trans (e3 _ _ (e2 _ _ hl1))
    refine s_fldD (d := .tuple []) (ed_tupleOfV (ys := []) (ev_var rfl) (SqL.of hl3) .nil) (ev_var rfl) upd_same cls_SiteWorkshop na_SiteWorkshop_sites (show (6 : Nat) < 1000 by decide) fun v H4 e4 hv hx4 => ?_
    have k4 := (Kp.of (x := x) e4).trans (Kp.upd (u := .ins 1504 dx (fS' (.ref b') l hh p v z)) hx4)
    exact k v _ (k3.trans k4) upd_same (hv.tx rfl (Tx.ins hx4))
end
end K76
set_option maxHeartbeats 4000000
namespace K76
open PySem PySem.W PySem.Calls PyProof.Rows L2 Evl Ed StX
section
variable {w : World} {mg : Str → Option Value} {base : Heap}
def NoS (ts : List Tmp) : Prop := ∀ t ∈ ts, t.name ≠ "nosuch"
/-- what change does with the three deeds of the law -/
def spChange (K : PySem.W.Frag) (C : Addr) : Sp := fun vs H Q E => ∃ (x dx b : Addr) (l h p s v : V) (z : Bool) (ks : List (Str × Int)) (ts : List Tmp) (d : PyData) (n : Nat), vs = [.ref x, v] ∧ H x = some (.ins C dx (fS' (.ref b) l h p s z)) ∧ Shp K H x ks ts d n b l h p s ∧ OkB ks ts ∧ NoS ts ∧ immD d = true ∧
  ((∃ t ∈ ts, Dp K H v (putD t) ∧ ∀ b' s' H', Kp x H H' → H' x = some (.ins C dx (fS' (.ref b') l h p s' z)) → Shp K H' x ks ts d n b' l h p s' → Q .non H') ∨
   (Dp K H v dropD ∧ Xc (Ex H) 222 "value" (.str "nosuch") E) ∨ (Dp K H v unguardD ∧ Xc (Ex H) 298 "value" (.int 5) E))
theorem sc_Workshop_change : FnScope ["self", "deed", "word", "value", "book"] ["self", "deed"] (defScope s_Workshop_change) := ⟨rfl, rfl, rfl, by decide +kernel, rfl, by decide +kernel, by decide +kernel⟩
theorem b_SiteWorkshop_done (P : Params) : Binds (K0 P) fd_Workshop_done ["self", "deed"] [] := b_Workshop_done P
theorem b_SiteWorkshop_do (P : Params) : Binds (K0 P) fd_Workshop_do ["self", "deed"] [] := b_Workshop_do P
/-! ### change, of Workshop -/
theorem ok_Workshop_chg (W : Wd w.params mg) : OkX w mg base 9 a_Workshop_change fd_Workshop_change ["self", "deed"] (spChange (Kw w) 1440) := by
  refine (F_Workshop_change w.params).okXN sc_Workshop_change (fun vs H Q E h => ?_) (fun cdv A outer s H vs Q E hr h => ?_)
  · obtain ⟨x, dx, b, l, h, p, s, v, z, ks, ts, d, n, rfl, _⟩ := h
    rfl
  · obtain ⟨x, dx, b, l, hh, p, s, v, z, ks, ts, d, n, rfl, hx, sh, ok, hno, hd, k⟩ := h
    refine ⟨_, (pss_cons (ps_par (i := 2) (j := 3) rfl sc_Workshop_change.nd rfl rfl (by decide) rfl rfl (pa_cons (pe_ix ix_tup (pv 1) pe_int (fun _ _ => rfl)) (pa_cons (pe_ix ix_tup (pv 1) pe_int (fun _ _ => rfl)) pa_nil)) rfl)
    (pss_one (ps_if (PW.pt (pw_or (pt_cmpR op_eq (pv 2) pe_str (nomark _)) (pw_or1 (pt_cmpR op_eq (pv 2) pe_str (nomark _))))) (pss_cons (ps_set (i := 4) sc_Workshop_change.nd rfl (Or.inl rfl) (pe_ifExp (pt_cmpR op_eq (pv 2) pe_str (nomark _)) (pe_meth (pe_fld (pv 0) rfl) cls_Book mt_Book_with_template (ok_Book_with_template W) (hr.mono (by decide)) (b_Book_with_template _) .nil pass0 (pa_cons (pv 3) pa_nil)) (pe_meth (pe_fld (pv 0) rfl) cls_Book mt_Book_without (ok_Book_without W) (hr.mono (by decide)) (b_Book_without _) .nil (passX (L2N.takes_of rfl rfl rfl rfl) (fun _ _ _ _ h => h)) (pa_cons (pv 3) pa_nil))))
    (pss_cons (ps_expr (pe_meth (pv 0) cls_Workshop mt_Workshop_check_use (ok_Workshop_check_use W) (hr.mono (by decide)) (b_Workshop_check_use _) .nil pass0 (pa_cons (pv 2) (pa_cons (pv 3) pa_nil))))
    (pss_cons (ps_expr (pe_call (ok_check_guards W) (hr.mono (by decide)) rfl (g_check_guards W) (F_check_guards _).kp (b_check_guards _) .nil pass0 (pa_cons (pe_fld (pv 0) rfl) (pa_cons (pv 4) (pa_cons pe_int pa_nil)))))
    (pss_one (ps_expr (pe_meth (pv 0) cls_Workshop mt_Workshop_move (ok_Workshop_move W) (hr.mono (by decide)) (b_Workshop_move _) .nil pass0 (pa_cons (pv 4) pa_nil))))))) (pss_one (ps_if (pt_cmpR op_eq (pv 2) pe_str (nomark _)) pss_never (pss_cons (ps_if (pt_not (pt_val (pe_call (ok_is_number W) (hr.mono (by decide)) rfl (g_is_number W) (F_is_number _).kp (b_is_number _) .nil pass0 (pa_cons (pv 3) (pa_cons pe_int (pa_cons (pe_op op_sub (pe_callB call_len_seq rfl (n_len W) boot_len (pa_cons (pe_fld (pv 0) rfl) pa_nil)) pe_int) pa_nil)))))) (pss_one (ps_raiseAN (k := 1) rfl (xt_InvalidNumber W) (hr.mono (by decide)) (L2N.takes_of rfl rfl rfl rfl) (pa_cons (pv 3) pa_nil))) pss_nil)
    (pss_one ps_never))))))), ?_⟩
    have sc := scW (P := w.params)
    rcases k with ⟨t, ht, hv, k⟩ | ⟨hv, k⟩ | ⟨hv, k⟩
    · refine q_parD (d1 := .str "put") (d2 := tD t) (ea_consD (ed_ixTD (i := 0) (ed_var rfl hv) (fun _ _ => ev_c) rfl) (ea_consD (ed_ixTD (i := 1) (ed_var rfl hv) (fun _ _ => ev_c) rfl) ea_nilD)) fun v1 v2 H1 e1 h1 h2 => ?_
      obtain rfl := dp_str h1
      refine s_if (b := true) (et_or (a := true) (b := false) (et_test (ev_op (ev_var rfl) (ev_c (v := .str "put")) (rv_eq rfl))) fun z => by cases z) (fun _ H2 e2 => ?_) fun z => by cases z
      have h22 := h2.ex e2
      refine q_asgIfT (et_test (ev_op (ev_var rfl) (ev_c (v := .str "put")) (rv_eq rfl))) fun H3 e3 => ?_
      have e13 := (e1.trans e2).trans e3
      refine (ev_fld (ev_var rfl) (e13 _ _ hx) sc.cls sc.book rfl) H3 (Ex.refl H3) _ fun H4 e4 => ?_
      have e14 := e13.trans e4
      obtain ⟨dxb, q1, q2, q3, q4, q5, hbx, hbr⟩ := id (sh.bk.ex e14).1
      refine ⟨b, dxb, _, rfl, hbx, rfl, v2, rfl, b, ks, ts, t, v2, rfl, (sh.bk.ex e14).1, ok, (h22.ex e3).ex e4, ht, fun y H5 hy e5 hby => ?_⟩
      have e15 := e14.trans e5
      have hyx : y ≠ x := fun zz => by
        subst zz
        rw [e14 _ _ hx] at hy
        cases hy
      refine ⟨_, rfl, x, dx, _, rfl, e15 _ _ hx, rfl, _, rfl, _, rfl, _, _, _, rfl, fun H6 e6 => ?_⟩
      have e16 := e15.trans e6
      refine q_drop (ev_guards0 (ea_cons (ev_fld (ev_var rfl) (e16 _ _ hx) sc.cls sc.held rfl) (ea_cons (ev_var rfl) (ea_cons ev_c ea_nil))) (sh.held.ex e16)) fun H7 e7 => ?_
      have e17 := e16.trans e7
      have hs7 := sh.sites.ex e17
      have hby7 := (hby.ex e6).ex e7
      refine ⟨_, rfl, x, dx, _, rfl, e17 _ _ hx, rfl, _, rfl, x, 1440, dx, _, .ref y, rfl, scW, e17 _ _ hx, (show (6 : Nat) < 1000 by decide), fun H8 e8 hx8 => ?_⟩
      have kp := (Kp.of (x := x) (e17.trans e8)).trans (Kp.upd (u := .ins 1440 dx (fS' (.ref y) l hh p s z)) hx8)
      have kq := (Kp.of (x := x) e8).trans (Kp.upd (u := .ins 1440 dx (fS' (.ref y) l hh p s z)) hx8)
      have sh8 := sh.kp hd kp
      exact k y s _ kp upd_same ⟨Bk.kp ⟨hby7, hyx⟩ kq, sh8.log, sh8.held, sh8.past, sh8.sites⟩
    · refine q_parD (d1 := .str "drop") (d2 := .str "nosuch") (ea_consD (ed_ixTD (i := 0) (ed_var rfl hv) (fun _ _ => ev_c) rfl) (ea_consD (ed_ixTD (i := 1) (ed_var rfl hv) (fun _ _ => ev_c) rfl) ea_nilD)) fun v1 v2 H1 e1 h1 h2 => ?_
      obtain rfl := dp_str h1
      obtain rfl := dp_str h2
      refine s_if (b := true) (et_or (a := false) (b := true) (et_test (ev_op (ev_var rfl) (ev_c (v := .str "put")) (rv_eq rfl))) fun _ => et_test (ev_op (ev_var rfl) (ev_c (v := .str "drop")) (rv_eq rfl))) (fun _ H2 e2 => ?_) fun z => by cases z
      refine q_asgIfF (et_test (ev_op (ev_var rfl) (ev_c (v := .str "put")) (rv_eq rfl))) fun H3 e3 => ?_
      have e13 := (e1.trans e2).trans e3
      refine (ev_fld (ev_var rfl) (e13 _ _ hx) sc.cls sc.book rfl) H3 (Ex.refl H3) _ fun H4 e4 => ?_
      have e14 := e13.trans e4
      obtain ⟨dxb, q1, q2, q3, q4, q5, hbx, hbr⟩ := id (sh.bk.ex e14).1
      exact ⟨b, dxb, _, rfl, hbx, rfl, _, rfl, b, ks, ts, "nosuch", rfl, (sh.bk.ex e14).1, hno, fun dd H5 e5 hdd => k dd H5 (e14.trans e5) hdd⟩
    · refine q_parD (d1 := .str "unguard") (d2 := .int 5) (ea_consD (ed_ixTD (i := 0) (ed_var rfl hv) (fun _ _ => ev_c) rfl) (ea_consD (ed_ixTD (i := 1) (ed_var rfl hv) (fun _ _ => ev_c) rfl) ea_nilD)) fun v1 v2 H1 e1 h1 h2 => ?_
      obtain rfl := dp_str h1
      obtain rfl := dp_int h2
      refine s_if (b := false) (et_or (a := false) (b := false) (et_test (ev_op (ev_var rfl) (ev_c (v := .str "put")) (rv_eq rfl))) fun _ => et_test (ev_op (ev_var rfl) (ev_c (v := .str "drop")) (rv_eq rfl))) (fun z => by cases z) fun _ H2 e2 => ?_
      refine s_if (b := false) (et_test (ev_op (ev_var rfl) (ev_c (v := .str "guard")) (rv_eq rfl))) (fun z => by cases z) fun _ H3 e3 => ?_
      have e13 := (e1.trans e2).trans e3
      refine q_when (b := true) (et_is (et_not (et_B (ev_bool (ed_call (m := m_is_number) (ea_consD (ed_int (ev_var rfl)) (ea_consD (ed_int ev_c) (ea_consD (ed_int (ev_op (ev_lenTD (ed_fld (ev_var rfl) (e13 _ _ hx) sc.cls sc.held rfl (sh.held.ex e13))) (ev_c (v := .int 1)) rv_I0)) ea_nilD))) ⟨.int 5, 0, -1, rfl, rfl⟩)))) rfl) (fun _ H4 e4 => ?_) fun z => by cases z
      exact s_raiseA (ea_cons (ev_var rfl) ea_nil) fun dd H5 e5 hdd => k dd H5 ((e13.trans e4).trans e5) hdd
/-! ### change, of SiteWorkshop -/
theorem ok_SiteWorkshop_chg (W : Wd w.params mg) : OkX w mg base 9 a_Workshop_change fd_Workshop_change ["self", "deed"] (spChange (Kw w) 1504) := by
  refine (F_Workshop_change w.params).okXN sc_Workshop_change (fun vs H Q E h => ?_) (fun cdv A outer s H vs Q E hr h => ?_)
  · obtain ⟨x, dx, b, l, h, p, s, v, z, ks, ts, d, n, rfl, _⟩ := h
    rfl
  · obtain ⟨x, dx, b, l, hh, p, s, v, z, ks, ts, d, n, rfl, hx, sh, ok, hno, hd, k⟩ := h
    refine ⟨_, (pss_cons (ps_par (i := 2) (j := 3) rfl sc_Workshop_change.nd rfl rfl (by decide) rfl rfl (pa_cons (pe_ix ix_tup (pv 1) pe_int (fun _ _ => rfl)) (pa_cons (pe_ix ix_tup (pv 1) pe_int (fun _ _ => rfl)) pa_nil)) rfl)
    (pss_one (ps_if (PW.pt (pw_or (pt_cmpR op_eq (pv 2) pe_str (nomark _)) (pw_or1 (pt_cmpR op_eq (pv 2) pe_str (nomark _))))) (pss_cons (ps_set (i := 4) sc_Workshop_change.nd rfl (Or.inl rfl) (pe_ifExp (pt_cmpR op_eq (pv 2) pe_str (nomark _)) (pe_meth (pe_fld (pv 0) rfl) cls_Book mt_Book_with_template (ok_Book_with_template W) (hr.mono (by decide)) (b_Book_with_template _) .nil pass0 (pa_cons (pv 3) pa_nil)) (pe_meth (pe_fld (pv 0) rfl) cls_Book mt_Book_without (ok_Book_without W) (hr.mono (by decide)) (b_Book_without _) .nil (passX (L2N.takes_of rfl rfl rfl rfl) (fun _ _ _ _ h => h)) (pa_cons (pv 3) pa_nil))))
    (pss_cons (ps_expr (pe_meth (pv 0) cls_SiteWorkshop mt_SiteWorkshop_check_use (ok_SiteWorkshop_check_use W) (hr.mono (by decide)) (b_SiteWorkshop_check_use _) .nil pass0 (pa_cons (pv 2) (pa_cons (pv 3) pa_nil))))
    (pss_cons (ps_expr (pe_call (ok_check_guards W) (hr.mono (by decide)) rfl (g_check_guards W) (F_check_guards _).kp (b_check_guards _) .nil pass0 (pa_cons (pe_fld (pv 0) rfl) (pa_cons (pv 4) (pa_cons pe_int pa_nil)))))
    (pss_one (ps_expr (pe_meth (pv 0) cls_SiteWorkshop mt_SiteWorkshop_move (ok_SiteWorkshop_move W) (hr.mono (by decide)) (b_SiteWorkshop_move _) .nil pass0 (pa_cons (pv 4) pa_nil))))))) (pss_one (ps_if (pt_cmpR op_eq (pv 2) pe_str (nomark _)) pss_never (pss_cons (ps_if (pt_not (pt_val (pe_call (ok_is_number W) (hr.mono (by decide)) rfl (g_is_number W) (F_is_number _).kp (b_is_number _) .nil pass0 (pa_cons (pv 3) (pa_cons pe_int (pa_cons (pe_op op_sub (pe_callB call_len_seq rfl (n_len W) boot_len (pa_cons (pe_fld (pv 0) rfl) pa_nil)) pe_int) pa_nil)))))) (pss_one (ps_raiseAN (k := 1) rfl (xt_InvalidNumber W) (hr.mono (by decide)) (L2N.takes_of rfl rfl rfl rfl) (pa_cons (pv 3) pa_nil))) pss_nil)
    (pss_one ps_never))))))), ?_⟩
    have sc := scS (P := w.params)
    rcases k with ⟨t, ht, hv, k⟩ | ⟨hv, k⟩ | ⟨hv, k⟩
    · refine q_parD (d1 := .str "put") (d2 := tD t) (ea_consD (ed_ixTD (i := 0) (ed_var rfl hv) (fun _ _ => ev_c) rfl) (ea_consD (ed_ixTD (i := 1) (ed_var rfl hv) (fun _ _ => ev_c) rfl) ea_nilD)) fun v1 v2 H1 e1 h1 h2 => ?_
      obtain rfl := dp_str h1
      refine s_if (b := true) (et_or (a := true) (b := false) (et_test (ev_op (ev_var rfl) (ev_c (v := .str "put")) (rv_eq rfl))) fun z => by cases z) (fun _ H2 e2 => ?_) fun z => by cases z
      have h22 := h2.ex e2
      refine q_asgIfT (et_test (ev_op (ev_var rfl) (ev_c (v := .str "put")) (rv_eq rfl))) fun H3 e3 => ?_
      have e13 := (e1.trans e2).trans e3
      refine (ev_fld (ev_var rfl) (e13 _ _ hx) sc.cls sc.book rfl) H3 (Ex.refl H3) _ fun H4 e4 => ?_
      have e14 := e13.trans e4
      obtain ⟨dxb, q1, q2, q3, q4, q5, hbx, hbr⟩ := id (sh.bk.ex e14).1
      refine ⟨b, dxb, _, rfl, hbx, rfl, v2, rfl, b, ks, ts, t, v2, rfl, (sh.bk.ex e14).1, ok, (h22.ex e3).ex e4, ht, fun y H5 hy e5 hby => ?_⟩
      have e15 := e14.trans e5
      have hyx : y ≠ x := fun zz => by
        subst zz
        rw [e14 _ _ hx] at hy
        cases hy
      refine ⟨_, rfl, x, dx, _, rfl, e15 _ _ hx, rfl, _, rfl, _, rfl, x, 1504, dx, b, _, v2, ks, ts, t, rfl, scS, e15 _ _ hx, rfl, (sh.bk.ex e15).1, ok, ht, ((h22.ex e3).ex e4).ex e5, fun H6 e6 => ?_⟩
      have e16 := e15.trans e6
      refine q_drop (ev_guards0 (ea_cons (ev_fld (ev_var rfl) (e16 _ _ hx) sc.cls sc.held rfl) (ea_cons (ev_var rfl) (ea_cons ev_c ea_nil))) (sh.held.ex e16)) fun H7 e7 => ?_
      have e17 := e16.trans e7
      have hs7 := sh.sites.ex e17
      have hby7 := (hby.ex e6).ex e7
      refine ⟨_, rfl, x, dx, _, rfl, e17 _ _ hx, rfl, _, rfl, x, dx, b, y, l, hh, p, s, z, rfl, e17 _ _ hx, hs7, fun s' H8 kq hx8 hs8 => ?_⟩
      have kp := (Kp.of (x := x) e17).trans kq
      have sh8 := sh.kp hd kp
      exact k y s' _ kp hx8 ⟨Bk.kp ⟨hby7, hyx⟩ kq, sh8.log, sh8.held, sh8.past, hs8⟩
    · refine q_parD (d1 := .str "drop") (d2 := .str "nosuch") (ea_consD (ed_ixTD (i := 0) (ed_var rfl hv) (fun _ _ => ev_c) rfl) (ea_consD (ed_ixTD (i := 1) (ed_var rfl hv) (fun _ _ => ev_c) rfl) ea_nilD)) fun v1 v2 H1 e1 h1 h2 => ?_
      obtain rfl := dp_str h1
      obtain rfl := dp_str h2
      refine s_if (b := true) (et_or (a := false) (b := true) (et_test (ev_op (ev_var rfl) (ev_c (v := .str "put")) (rv_eq rfl))) fun _ => et_test (ev_op (ev_var rfl) (ev_c (v := .str "drop")) (rv_eq rfl))) (fun _ H2 e2 => ?_) fun z => by cases z
      refine q_asgIfF (et_test (ev_op (ev_var rfl) (ev_c (v := .str "put")) (rv_eq rfl))) fun H3 e3 => ?_
      have e13 := (e1.trans e2).trans e3
      refine (ev_fld (ev_var rfl) (e13 _ _ hx) sc.cls sc.book rfl) H3 (Ex.refl H3) _ fun H4 e4 => ?_
      have e14 := e13.trans e4
      obtain ⟨dxb, q1, q2, q3, q4, q5, hbx, hbr⟩ := id (sh.bk.ex e14).1
      exact ⟨b, dxb, _, rfl, hbx, rfl, _, rfl, b, ks, ts, "nosuch", rfl, (sh.bk.ex e14).1, hno, fun dd H5 e5 hdd => k dd H5 (e14.trans e5) hdd⟩
    · refine q_parD (d1 := .str "unguard") (d2 := .int 5) (ea_consD (ed_ixTD (i := 0) (ed_var rfl hv) (fun _ _ => ev_c) rfl) (ea_consD (ed_ixTD (i := 1) (ed_var rfl hv) (fun _ _ => ev_c) rfl) ea_nilD)) fun v1 v2 H1 e1 h1 h2 => ?_
      obtain rfl := dp_str h1
      obtain rfl := dp_int h2
      refine s_if (b := false) (et_or (a := false) (b := false) (et_test (ev_op (ev_var rfl) (ev_c (v := .str "put")) (rv_eq rfl))) fun _ => et_test (ev_op (ev_var rfl) (ev_c (v := .str "drop")) (rv_eq rfl))) (fun z => by cases z) fun _ H2 e2 => ?_
      refine s_if (b := false) (et_test (ev_op (ev_var rfl) (ev_c (v := .str "guard")) (rv_eq rfl))) (fun z => by cases z) fun _ H3 e3 => ?_
      have e13 := (e1.trans e2).trans e3
      refine q_when (b := true) (et_is (et_not (et_B (ev_bool (ed_call (m := m_is_number) (ea_consD (ed_int (ev_var rfl)) (ea_consD (ed_int ev_c) (ea_consD (ed_int (ev_op (ev_lenTD (ed_fld (ev_var rfl) (e13 _ _ hx) sc.cls sc.held rfl (sh.held.ex e13))) (ev_c (v := .int 1)) rv_I0)) ea_nilD))) ⟨.int 5, 0, -1, rfl, rfl⟩)))) rfl) (fun _ H4 e4 => ?_) fun z => by cases z
      exact s_raiseA (ea_cons (ev_var rfl) ea_nil) fun dd H5 e5 hdd => k dd H5 ((e13.trans e4).trans e5) hdd
end
end K76
set_option maxHeartbeats 4000000
namespace K76
open PySem PySem.W PySem.Calls PyProof.Rows L2 Evl Ed StX
section
variable {w : World} {mg : Str → Option Value} {base : Heap}
theorem jdg_of {K : PySem.W.Frag} {H : Hp} {v : V} {f : Str → Nat → Bool} {x : Str} {d : PyData} (h : Dp K H v (.tuple [.str x, d])) (hx : x ∈ heads) : Jdg K H v f (f x 2) := by
  obtain ⟨a, xs, rfl, hs, hd⟩ := dp_tup h
  obtain ⟨y, z, rfl, hy, hz⟩ := dpa2 hd
  obtain rfl := dp_str hy
  exact .hd rfl hs hx rfl
theorem ev_deed1 {K : PySem.W.Frag} {σ : L2.St} {H : Hp} {tr : TA} {E : XK} {f : Str → Nat → Bool} {v : V} {b : Bool} (h : EvA tr σ H [v]) (j : Jdg K H v f b) : Ev (tCall (spDeed1 K f) [] E tr) σ H (.bl b) := fun H1 e Q q =>
  h H1 e _ fun H2 e2 => ⟨v, b, rfl, j.ex (e.trans e2), fun H3 e3 => q H3 (e2.trans e3)⟩
theorem Xc.ex {C : Addr} {f : Str} {v : V} {E : XK} {H H1 : Hp} (k : Xc (Ex H) C f v E) (e : Ex H H1) : Xc (Ex H1) C f v E := fun d H' e' hd => k d H' (e.trans e') hd
theorem imm_pair {x : Str} {y : PyData} (h : immD y = true) : immD (.tuple [.str x, y]) = true := immAll_iff.mpr fun d hd => by
  simp only [List.mem_cons, List.not_mem_nil, or_false] at hd
  rcases hd with rfl | rfl
  · rfl
  · exact h
theorem spChange.ex {K : PySem.W.Frag} {C : Addr} {vs : List V} {H H1 : Hp} {Q Q' : VK} {E : XK} (h : spChange K C vs H Q E) (e : Ex H H1) (hq : ∀ H', Q .non H' → Q' .non H') : spChange K C vs H1 Q' E := by
  obtain ⟨x, dx, b, l, hh, p, s, v, z, ks, ts, d, n, rfl, hx, sh, ok, hno, hd, k⟩ := h
  refine ⟨x, dx, b, l, hh, p, s, v, z, ks, ts, d, n, rfl, e _ _ hx, sh.kp hd (.of e), ok, hno, hd, ?_⟩
  rcases k with ⟨t, ht, hv, k⟩ | ⟨hv, k⟩ | ⟨hv, k⟩
  · exact .inl ⟨t, ht, hv.ex e, fun b' s' H' kp h1 h2 => hq _ (k b' s' H' ((Kp.of e).trans kp) h1 h2)⟩
  · exact .inr (.inl ⟨hv.ex e, k.ex e⟩)
  · exact .inr (.inr ⟨hv.ex e, k.ex e⟩)
/-! ### SiteWorkshop.change -/
theorem ok_SiteWorkshop_change (W : Wd w.params mg) : OkX w mg base 10 a_SiteWorkshop_change fd_SiteWorkshop_change ["self", "deed"] (spChange (Kw w) 1504) := by
  refine fn_super (oc := .type "function") (od := none) (osl := #[]) (cdv := .ref 1484) (by kernel_rfl) (by kernel_rfl) sc_SiteWorkshop_change (cell1460 _) (fun vs H Q E h => ?_) (fun A outer s H vs Q E hr h => ?_)
  · obtain ⟨x, dx, b, l, h, p, s, v, z, ks, ts, d, n, rfl, _⟩ := h
    rfl
  · refine ⟨_, psa_cons (psa_if (pt_not (pt_val (pe_call (ok_is_site_deed W) (hr.mono (by decide)) rfl (g_is_site_deed W) (F_is_site_deed _).kp (b_is_site_deed _) .nil pass0 (pa_cons (pv 1) pa_nil))))
      (psa_cons (psa_expr (pea_super (C := 1504) (D := 1504) (f2 := 1395) (supX_change W rfl) sup_change (ok_SiteWorkshop_chg W) hr (b_Workshop_change _) (passX (L2N.takes_of rfl rfl rfl rfl) (fun _ _ _ _ h => h)) (pa_cons (pv 1) pa_nil))) (PSs.at_ (pss_one ps_retN))) (PSs.at_ pss_nil)) (PSs.at_ pss_never), ?_⟩
    have h0 := h
    obtain ⟨x, dx, b, l, hh, p, s, v, z, ks, ts, d, n, rfl, hx, sh, ok, hno, hd, k⟩ := h
    have j : Jdg (Kw w) H v fS false := by
      rcases k with ⟨t, ht, hv, k⟩ | ⟨hv, k⟩ | ⟨hv, k⟩
      · exact jdg_of (f := fS) hv (by decide)
      · exact jdg_of (f := fS) hv (by decide)
      · exact jdg_of (f := fS) hv (by decide)
    refine q_when (b := true) (et_not (et_B (ev_deed1 (ea_cons (ev_var rfl) ea_nil) j))) (fun _ H1 e1 => ?_) fun z => by cases z
    refine ⟨x, dx, _, rfl, e1 _ _ hx, fun q hq => ⟨v, rfl, upd_same, ?_⟩⟩
    exact h0.ex (e1.trans (Ex.new hq)) fun H' q => q
theorem ok_Workshop_change (W : Wd w.params mg) : OkX w mg base 10 a_Workshop_change fd_Workshop_change ["self", "deed"] (spChange (Kw w) 1440) := (ok_Workshop_chg W).mono (by decide)
/-! ### done -/
def DoneC (K : PySem.W.Frag) (C : Addr) (H : Hp) (x : Addr) (ks : List (Str × Int)) (ts : List Tmp) (d : PyData) (z : Bool) (n : Nat) (v : V) (Q : VK) (E : XK) : Prop :=
  (n = 100 ∧ Xc (Ex H) 664 "limit" (.int 100) E) ∨ (n < 100 ∧ ∃ t ∈ ts, d = putD t ∧ Dp K H v (putD t) ∧ ∀ H', Kp x H H' → ShopAt K C H' x ks ts d z (n + 1) → Q .non H') ∨
  (n < 100 ∧ Dp K H v dropD ∧ Xc (Ex H) 222 "value" (.str "nosuch") E) ∨ (n < 100 ∧ Dp K H v unguardD ∧ Xc (Ex H) 298 "value" (.int 5) E)
def spDone (K : PySem.W.Frag) (C : Addr) : Sp := fun vs H Q E => ∃ (x : Addr) (v : V) (z : Bool) (ks : List (Str × Int)) (ts : List Tmp) (d : PyData) (n : Nat), vs = [.ref x, v] ∧ ShopAt K C H x ks ts d z n ∧ OkB ks ts ∧ NoS ts ∧ immD d = true ∧ DoneC K C H x ks ts d z n v Q E
theorem sc_Workshop_done : FnScope ["self", "deed", "before"] ["self", "deed"] (defScope s_Workshop_done) := ⟨rfl, rfl, rfl, by decide +kernel, rfl, by decide +kernel, by decide +kernel⟩
theorem ok_Workshop_done (W : Wd w.params mg) : OkX w mg base 11 a_Workshop_done fd_Workshop_done ["self", "deed"] (spDone (Kw w) 1440) := by
  refine (F_Workshop_done w.params).okXN sc_Workshop_done (fun vs H Q E h => ?_) (fun cdv A outer s H vs Q E hr h => ?_)
  · obtain ⟨x, v, z, ks, ts, d, n, rfl, _⟩ := h
    rfl
  · obtain ⟨x, v, z, ks, ts, d, n, rfl, ⟨dx, b, l, hh, p, s, hx, sh⟩, ok, hno, hd, k⟩ := h
    refine ⟨_, (pss_cons (ps_if (pt_cmpR op_ge (pe_callB call_len_seq rfl (n_len W) boot_len (pa_cons (pe_fld (pv 0) rfl) pa_nil)) (pe_glob (v := .int (100)) rfl (g_MOST_DEEDS W) ⟨_, rfl⟩) (nomark _)) (pss_one (ps_raiseAN (k := 1) rfl (xt_TooManyDeeds W) (hr.mono (by decide)) (L2N.takes_of rfl rfl rfl rfl) (pa_cons (pe_glob (v := .int (100)) rfl (g_MOST_DEEDS W) ⟨_, rfl⟩) pa_nil))) pss_nil)
    (pss_cons (ps_set (i := 2) sc_Workshop_done.nd rfl (Or.inl rfl) (pe_tup (pa_cons (pe_fld (pv 0) rfl) (pa_cons (pe_fld (pv 0) rfl) (pa_cons (pe_fld (pv 0) rfl) pa_nil)))))
    (pss_cons (ps_expr (pe_meth (pv 0) cls_Workshop mt_Workshop_change (ok_Workshop_change W) (hr.mono (by decide)) (b_Workshop_change _) .nil (passX (L2N.takes_of rfl rfl rfl rfl) (fun _ _ _ _ h => h)) (pa_cons (pv 1) pa_nil)))
    (pss_cons (ps_fld (pv 0) (pe_tup (pa_star (pe_fld (pv 0) rfl) (pa_cons (pv 2) pa_nil))) rfl)
    (pss_one (ps_fld (pv 0) (pe_tup (pa_star (pe_fld (pv 0) rfl) (pa_cons (pv 1) pa_nil))) rfl)))))), ?_⟩
    have sc := scW (P := w.params)
    have hln : ∀ {H1 : Hp}, Ex H H1 → Ev (tCB (rLenS (Kw w)) (tCons (tFld (Kw w) (tVar 0) "log") tNil)) [some (.ref x), some v, none] H1 (.int (n : Int)) := fun {H1} e => ev_is (ev_lenTD (ed_fld (ev_var rfl) (e _ _ hx) sc.cls sc.log rfl (sh.log.ex e))) (by rw [List.length_replicate])
    by_cases h100 : n = 100
    · subst h100
      refine q_when (b := true) (et_test (ev_op (hln (Ex.refl H)) ev_c rv_I0)) (fun _ H1 e1 => ?_) fun z => by cases z
      rcases k with ⟨_, k⟩ | ⟨h, _⟩ | ⟨h, _⟩ | ⟨h, _⟩
      · exact s_raiseA (ea_cons ev_c ea_nil) fun dd H2 e2 hdd => k dd H2 (e1.trans e2) hdd
      all_goals omega
    · have hlt : n < 100 ∨ 100 < n := by omega
      have hn : n < 100 := by
        rcases k with ⟨h, _⟩ | ⟨h, _⟩ | ⟨h, _⟩ | ⟨h, _⟩ <;> omega
      refine q_when (b := false) (et_is (et_test (ev_op (hln (Ex.refl H)) ev_c rv_I0)) (decide_eq_false (by omega))) (fun z => by cases z) fun _ H1 e1 => ?_
      refine q_asgU (eu_tup (ea_cons (ev_fld (ev_var rfl) (e1 _ _ hx) sc.cls sc.book rfl) (ea_cons (ev_fld (ev_var rfl) (e1 _ _ hx) sc.cls sc.held rfl) (ea_cons (ev_fld (ev_var rfl) (e1 _ _ hx) sc.cls sc.sites rfl) ea_nil))) (by simp)) fun q H2 hq e2 hq2 => ?_
      have e12 := e1.trans e2
      have hx2 := e12 _ _ hx
      have sh2 := sh.kp hd (.of e12)
      have aft : ∀ {v' : V} {H' : Hp}, True := trivial
      refine ⟨_, rfl, x, dx, _, rfl, hx2, rfl, _, rfl, x, dx, b, l, hh, p, s, v, z, ks, ts, d, n, rfl, hx2, sh2, ok, hno, hd, ?_⟩
      rcases k with ⟨h, _⟩ | ⟨_, t, ht, rfl, hv, k⟩ | ⟨_, hv, k⟩ | ⟨_, hv, k⟩
      · exact absurd h h100
      · refine .inl ⟨t, ht, hv.ex e12, fun b' s' H3 kp hx3 sh3 => ?_⟩
        obtain ⟨ap, xs, rfl, hps, hlen, hbf⟩ := sh3.past
        refine q_fldU (xs := xs ++ [.ref q]) (eu_tup (ea_star (ev_fld (ev_var rfl) hx3 sc.cls sc.past rfl) hps (ea_cons (ev_var rfl) ea_nil)) (by rw [List.length_append, hlen, List.length_singleton]; omega)) (ev_var rfl) hx3 sc.cls sc.past (show (6 : Nat) < 1000 by decide) fun p' H4 hp' e4 hp4 hx4 => ?_
        have k4 := (Kp.of (x := x) e4).trans (Kp.upd (u := .ins 1440 dx (fS' (.ref b') l hh (.ref p') s' z)) hx4)
        have sh4 := sh3.kp hd k4
        have hv4 := (((hv.ex e12).tx (imm_putD t) kp.tx).tx (imm_putD t) k4.tx)
        refine s_fldD (d := .tuple (List.replicate n (putD t) ++ [putD t])) (ed_tup (ea_starD (ed_fld (ev_var rfl) upd_same sc.cls sc.log rfl sh4.log) (ea_consD (ed_var rfl hv4) ea_nilD)) (by rw [List.length_append, List.length_replicate, List.length_singleton]; omega)) (ev_var rfl) upd_same sc.cls sc.log (show (6 : Nat) < 1000 by decide) fun l' H6 e6 hl6 hx6 => ?_
        have k6 := (Kp.of (x := x) e6).trans (Kp.upd (u := .ins 1440 dx (fS' (.ref b') l' hh (.ref p') s' z)) hx6)
        have sh6 := sh4.kp hd k6
        have q3 := tx_t kp.tx (SqT.of (K := Kw w) hq2)
        have k36 := k4.trans k6
        refine k _ (((Kp.of e12).trans kp).trans k36) ⟨dx, b', l', hh, .ref p', s', upd_same, sh6.bk, ?_, sh6.held, ⟨p', xs ++ [.ref q], rfl, ?_, ?_, fun u hu => ?_⟩, sh6.sites⟩
        · rw [List.replicate_succ']
          exact hl6.tx (immAll_iff.mpr fun y hy => by
            rw [← List.replicate_succ'] at hy
            rw [(List.mem_replicate.mp hy).2]
            exact imm_putD t) (Tx.ins hx6)
        · refine tx_t k6.tx ?_
          exact tx_t (Tx.ins (u := .ins 1440 dx (fS' (.ref b') l hh (.ref p') s' z)) hx4) (SqT.of hp4)
        · rw [List.length_append, hlen, List.length_singleton]
        · rcases List.mem_append.mp hu with hu | hu
          · exact (hbf u hu).kp k36
          · obtain rfl := List.mem_singleton.mp hu
            exact ⟨q, b, hh, s, rfl, tx_t k36.tx q3, (sh2.kp hd (kp.trans k36)).bk, (sh2.kp hd (kp.trans k36)).held, (sh2.kp hd (kp.trans k36)).sites⟩
      · exact .inr (.inl ⟨hv.ex e12, k.ex e12⟩)
      · exact .inr (.inr ⟨hv.ex e12, k.ex e12⟩)
theorem ok_SiteWorkshop_done (W : Wd w.params mg) : OkX w mg base 11 a_Workshop_done fd_Workshop_done ["self", "deed"] (spDone (Kw w) 1504) := by
  refine (F_Workshop_done w.params).okXN sc_Workshop_done (fun vs H Q E h => ?_) (fun cdv A outer s H vs Q E hr h => ?_)
  · obtain ⟨x, v, z, ks, ts, d, n, rfl, _⟩ := h
    rfl
  · obtain ⟨x, v, z, ks, ts, d, n, rfl, ⟨dx, b, l, hh, p, s, hx, sh⟩, ok, hno, hd, k⟩ := h
    refine ⟨_, (pss_cons (ps_if (pt_cmpR op_ge (pe_callB call_len_seq rfl (n_len W) boot_len (pa_cons (pe_fld (pv 0) rfl) pa_nil)) (pe_glob (v := .int (100)) rfl (g_MOST_DEEDS W) ⟨_, rfl⟩) (nomark _)) (pss_one (ps_raiseAN (k := 1) rfl (xt_TooManyDeeds W) (hr.mono (by decide)) (L2N.takes_of rfl rfl rfl rfl) (pa_cons (pe_glob (v := .int (100)) rfl (g_MOST_DEEDS W) ⟨_, rfl⟩) pa_nil))) pss_nil)
    (pss_cons (ps_set (i := 2) sc_Workshop_done.nd rfl (Or.inl rfl) (pe_tup (pa_cons (pe_fld (pv 0) rfl) (pa_cons (pe_fld (pv 0) rfl) (pa_cons (pe_fld (pv 0) rfl) pa_nil)))))
    (pss_cons (ps_expr (pe_meth (pv 0) cls_SiteWorkshop mt_SiteWorkshop_change (ok_SiteWorkshop_change W) (hr.mono (by decide)) (b_SiteWorkshop_change _) .nil (passX (L2N.takes_of rfl rfl rfl rfl) (fun _ _ _ _ h => h)) (pa_cons (pv 1) pa_nil)))
    (pss_cons (ps_fld (pv 0) (pe_tup (pa_star (pe_fld (pv 0) rfl) (pa_cons (pv 2) pa_nil))) rfl)
    (pss_one (ps_fld (pv 0) (pe_tup (pa_star (pe_fld (pv 0) rfl) (pa_cons (pv 1) pa_nil))) rfl)))))), ?_⟩
    have sc := scS (P := w.params)
    have hln : ∀ {H1 : Hp}, Ex H H1 → Ev (tCB (rLenS (Kw w)) (tCons (tFld (Kw w) (tVar 0) "log") tNil)) [some (.ref x), some v, none] H1 (.int (n : Int)) := fun {H1} e => ev_is (ev_lenTD (ed_fld (ev_var rfl) (e _ _ hx) sc.cls sc.log rfl (sh.log.ex e))) (by rw [List.length_replicate])
    by_cases h100 : n = 100
    · subst h100
      refine q_when (b := true) (et_test (ev_op (hln (Ex.refl H)) ev_c rv_I0)) (fun _ H1 e1 => ?_) fun z => by cases z
      rcases k with ⟨_, k⟩ | ⟨h, _⟩ | ⟨h, _⟩ | ⟨h, _⟩
      · exact s_raiseA (ea_cons ev_c ea_nil) fun dd H2 e2 hdd => k dd H2 (e1.trans e2) hdd
      all_goals omega
    · have hlt : n < 100 ∨ 100 < n := by omega
      have hn : n < 100 := by
        rcases k with ⟨h, _⟩ | ⟨h, _⟩ | ⟨h, _⟩ | ⟨h, _⟩ <;> omega
      refine q_when (b := false) (et_is (et_test (ev_op (hln (Ex.refl H)) ev_c rv_I0)) (decide_eq_false (by omega))) (fun z => by cases z) fun _ H1 e1 => ?_
      refine q_asgU (eu_tup (ea_cons (ev_fld (ev_var rfl) (e1 _ _ hx) sc.cls sc.book rfl) (ea_cons (ev_fld (ev_var rfl) (e1 _ _ hx) sc.cls sc.held rfl) (ea_cons (ev_fld (ev_var rfl) (e1 _ _ hx) sc.cls sc.sites rfl) ea_nil))) (by simp)) fun q H2 hq e2 hq2 => ?_
      have e12 := e1.trans e2
      have hx2 := e12 _ _ hx
      have sh2 := sh.kp hd (.of e12)
      have aft : ∀ {v' : V} {H' : Hp}, True := trivial
      refine ⟨_, rfl, x, dx, _, rfl, hx2, rfl, _, rfl, x, dx, b, l, hh, p, s, v, z, ks, ts, d, n, rfl, hx2, sh2, ok, hno, hd, ?_⟩
      rcases k with ⟨h, _⟩ | ⟨_, t, ht, rfl, hv, k⟩ | ⟨_, hv, k⟩ | ⟨_, hv, k⟩
      · exact absurd h h100
      · refine .inl ⟨t, ht, hv.ex e12, fun b' s' H3 kp hx3 sh3 => ?_⟩
        obtain ⟨ap, xs, rfl, hps, hlen, hbf⟩ := sh3.past
        refine q_fldU (xs := xs ++ [.ref q]) (eu_tup (ea_star (ev_fld (ev_var rfl) hx3 sc.cls sc.past rfl) hps (ea_cons (ev_var rfl) ea_nil)) (by rw [List.length_append, hlen, List.length_singleton]; omega)) (ev_var rfl) hx3 sc.cls sc.past (show (6 : Nat) < 1000 by decide) fun p' H4 hp' e4 hp4 hx4 => ?_
        have k4 := (Kp.of (x := x) e4).trans (Kp.upd (u := .ins 1504 dx (fS' (.ref b') l hh (.ref p') s' z)) hx4)
        have sh4 := sh3.kp hd k4
        have hv4 := (((hv.ex e12).tx (imm_putD t) kp.tx).tx (imm_putD t) k4.tx)
        refine s_fldD (d := .tuple (List.replicate n (putD t) ++ [putD t])) (ed_tup (ea_starD (ed_fld (ev_var rfl) upd_same sc.cls sc.log rfl sh4.log) (ea_consD (ed_var rfl hv4) ea_nilD)) (by rw [List.length_append, List.length_replicate, List.length_singleton]; omega)) (ev_var rfl) upd_same sc.cls sc.log (show (6 : Nat) < 1000 by decide) fun l' H6 e6 hl6 hx6 => ?_
        have k6 := (Kp.of (x := x) e6).trans (Kp.upd (u := .ins 1504 dx (fS' (.ref b') l' hh (.ref p') s' z)) hx6)
        have sh6 := sh4.kp hd k6
        have q3 := tx_t kp.tx (SqT.of (K := Kw w) hq2)
        have k36 := k4.trans k6
        refine k _ (((Kp.of e12).trans kp).trans k36) ⟨dx, b', l', hh, .ref p', s', upd_same, sh6.bk, ?_, sh6.held, ⟨p', xs ++ [.ref q], rfl, ?_, ?_, fun u hu => ?_⟩, sh6.sites⟩
        · rw [List.replicate_succ']
          exact hl6.tx (immAll_iff.mpr fun y hy => by
            rw [← List.replicate_succ'] at hy
            rw [(List.mem_replicate.mp hy).2]
            exact imm_putD t) (Tx.ins hx6)
        · refine tx_t k6.tx ?_
          exact tx_t (Tx.ins (u := .ins 1504 dx (fS' (.ref b') l hh (.ref p') s' z)) hx4) (SqT.of hp4)
        · rw [List.length_append, hlen, List.length_singleton]
        · rcases List.mem_append.mp hu with hu | hu
          · exact (hbf u hu).kp k36
          · obtain rfl := List.mem_singleton.mp hu
            exact ⟨q, b, hh, s, rfl, tx_t k36.tx q3, (sh2.kp hd (kp.trans k36)).bk, (sh2.kp hd (kp.trans k36)).held, (sh2.kp hd (kp.trans k36)).sites⟩
      · exact .inr (.inl ⟨hv.ex e12, k.ex e12⟩)
      · exact .inr (.inr ⟨hv.ex e12, k.ex e12⟩)
end
end K76
set_option maxHeartbeats 4000000
namespace K76
open PySem PySem.W PySem.Calls PyProof.Rows L2 Evl Ed StX
section
variable {w : World} {mg : Str → Option Value} {base : Heap}
theorem DoneC.ex {K : PySem.W.Frag} {C x : Addr} {H H1 : Hp} {ks : List (Str × Int)} {ts : List Tmp} {d : PyData} {z : Bool} {n : Nat} {v : V} {Q : VK} {E : XK} (k : DoneC K C H x ks ts d z n v Q E) (e : Ex H H1) : DoneC K C H1 x ks ts d z n v Q E := by
  rcases k with ⟨h, k⟩ | ⟨h, t, ht, rfl, hv, k⟩ | ⟨h, hv, k⟩ | ⟨h, hv, k⟩
  · exact .inl ⟨h, k.ex e⟩
  · exact .inr (.inl ⟨h, t, ht, rfl, hv.ex e, fun H' kp q => k H' ((Kp.of e).trans kp) q⟩)
  · exact .inr (.inr (.inl ⟨h, hv.ex e, k.ex e⟩))
  · exact .inr (.inr (.inr ⟨h, hv.ex e, k.ex e⟩))
theorem ev_deedW {K : PySem.W.Frag} {σ : L2.St} {H : Hp} {ta : TE} {tr : TA} {E : XK} {x dx : Addr} {fs : List (Str × V)} {v : V} {b : Bool} (h : Ev ta σ H (.ref x)) (ha : EvA tr σ H [v]) (hx : H x = some (.ins 1440 dx fs)) (hm : fs.lookup ("is_deed" : Str) = none) (j : Jdg K H v fW b) : Ev (tMeth 1440 "is_deed" (spDeed K fW) [] E ta tr) σ H (.bl b) := fun H1 e Q q =>
  h H1 e _ fun H2 e2 => ⟨x, dx, fs, rfl, e2 _ _ (e _ _ hx), hm, ha H2 (e.trans e2) _ fun H3 e3 => ⟨_, v, b, rfl, j.ex ((e.trans e2).trans e3), fun H4 e4 => q H4 ((e2.trans e3).trans e4)⟩⟩
theorem ev_deedS {K : PySem.W.Frag} {σ : L2.St} {H : Hp} {ta : TE} {tr : TA} {E : XK} {x dx : Addr} {fs : List (Str × V)} {v : V} {b : Bool} (h : Ev ta σ H (.ref x)) (ha : EvA tr σ H [v]) (hx : H x = some (.ins 1504 dx fs)) (hm : fs.lookup ("is_deed" : Str) = none) (j : Jdg K H v fWS b) : Ev (tMeth 1504 "is_deed" (spDeedS K) [] E ta tr) σ H (.bl b) := fun H1 e Q q =>
  h H1 e _ fun H2 e2 => ⟨x, dx, fs, rfl, e2 _ _ (e _ _ hx), hm, ha H2 (e.trans e2) _ fun H3 e3 => ⟨x, dx, fs, v, b, rfl, e3 _ _ (e2 _ _ (e _ _ hx)), j.ex ((e.trans e2).trans e3), fun H4 e4 => q H4 ((e2.trans e3).trans e4)⟩⟩
/-! ### do -/
def spDo (K : PySem.W.Frag) (C : Addr) (f : Str → Nat → Bool) : Sp := fun vs H Q E => ∃ (x : Addr) (v : V) (ks : List (Str × Int)) (ts : List Tmp) (d : PyData) (n : Nat), vs = [.ref x, v] ∧ ShopAt K C H x ks ts d false n ∧ OkB ks ts ∧ NoS ts ∧ immD d = true ∧
  ((Jdg K H v f false ∧ Xc (Ex H) 450 "index" (.int 0) E) ∨ (Jdg K H v f true ∧ DoneC K C H x ks ts d false n v Q E))
theorem sc_Workshop_do : FnScope ["self", "deed"] ["self", "deed"] (defScope s_Workshop_do) := ⟨rfl, rfl, rfl, by decide +kernel, rfl, by decide +kernel, by decide +kernel⟩
theorem ok_Workshop_do (W : Wd w.params mg) : OkX w mg base 12 a_Workshop_do fd_Workshop_do ["self", "deed"] (spDo (Kw w) 1440 fW) := by
  refine (F_Workshop_do w.params).okXN sc_Workshop_do (fun vs H Q E h => ?_) (fun cdv A outer s H vs Q E hr h => ?_)
  · obtain ⟨x, v, ks, ts, d, n, rfl, _⟩ := h
    rfl
  · obtain ⟨x, v, ks, ts, d, n, rfl, hS, ok, hno, hd, k⟩ := h
    refine ⟨_, (pss_cons (ps_expr (pe_meth0 (pv 0) cls_Workshop mt_Workshop_check_idle (ok_Workshop_check_idle W) (hr.mono (by decide)) (b_Workshop_check_idle _) .nil pass0 ))
    (pss_cons (ps_if (pt_not (pt_val (pe_meth (pv 0) cls_Workshop mt_Workshop_is_deed (ok_Workshop_is_deed W) (hr.mono (by decide)) (b_Workshop_is_deed _) .nil pass0 (pa_cons (pv 1) pa_nil)))) (pss_one (ps_raiseAN (k := 1) rfl (xt_InvalidDeed W) (hr.mono (by decide)) (L2N.takes_of rfl rfl rfl rfl) (pa_cons pe_int pa_nil))) pss_nil)
    (pss_one (ps_expr (pe_meth (pv 0) cls_Workshop mt_Workshop_done (ok_Workshop_done W) (hr.mono (by decide)) (b_Workshop_done _) .nil (passX (L2N.takes_of rfl rfl rfl rfl) (fun _ _ _ _ h => h)) (pa_cons (pv 1) pa_nil)))))), ?_⟩
    have sc := scW (P := w.params)
    obtain ⟨dx, b, l, hh, p, s, hx, sh⟩ := id hS
    refine ⟨_, rfl, x, dx, _, rfl, hx, rfl, x, 1440, dx, _, rfl, sc, hx, rfl, fun H1 e1 => ?_⟩
    rcases k with ⟨j, k⟩ | ⟨j, k⟩
    · refine q_when (b := true) (et_not (et_B (ev_deedW (ev_var rfl) (ea_cons (ev_var rfl) ea_nil) (e1 _ _ hx) rfl (j.ex e1)))) (fun _ H2 e2 => ?_) fun z => by cases z
      exact s_raiseA (ea_cons ev_c ea_nil) fun dd H3 e3 hdd => k dd H3 ((e1.trans e2).trans e3) hdd
    · refine q_when (b := false) (et_not (et_B (ev_deedW (ev_var rfl) (ea_cons (ev_var rfl) ea_nil) (e1 _ _ hx) rfl (j.ex e1)))) (fun z => by cases z) fun _ H2 e2 => ?_
      have e12 := e1.trans e2
      exact ⟨_, rfl, x, dx, _, rfl, e12 _ _ hx, rfl, _, rfl, x, v, false, ks, ts, d, n, rfl, hS.ex hd e12, ok, hno, hd, k.ex e12⟩
theorem ok_SiteWorkshop_do (W : Wd w.params mg) : OkX w mg base 12 a_Workshop_do fd_Workshop_do ["self", "deed"] (spDo (Kw w) 1504 fWS) := by
  refine (F_Workshop_do w.params).okXN sc_Workshop_do (fun vs H Q E h => ?_) (fun cdv A outer s H vs Q E hr h => ?_)
  · obtain ⟨x, v, ks, ts, d, n, rfl, _⟩ := h
    rfl
  · obtain ⟨x, v, ks, ts, d, n, rfl, hS, ok, hno, hd, k⟩ := h
    refine ⟨_, (pss_cons (ps_expr (pe_meth0 (pv 0) cls_SiteWorkshop mt_SiteWorkshop_check_idle (ok_Workshop_check_idle W) (hr.mono (by decide)) (b_Workshop_check_idle _) .nil pass0 ))
    (pss_cons (ps_if (pt_not (pt_val (pe_meth (pv 0) cls_SiteWorkshop mt_SiteWorkshop_is_deed (ok_SiteWorkshop_is_deed W) (hr.mono (by decide)) (b_SiteWorkshop_is_deed _) .nil pass0 (pa_cons (pv 1) pa_nil)))) (pss_one (ps_raiseAN (k := 1) rfl (xt_InvalidDeed W) (hr.mono (by decide)) (L2N.takes_of rfl rfl rfl rfl) (pa_cons pe_int pa_nil))) pss_nil)
    (pss_one (ps_expr (pe_meth (pv 0) cls_SiteWorkshop mt_SiteWorkshop_done (ok_SiteWorkshop_done W) (hr.mono (by decide)) (b_SiteWorkshop_done _) .nil (passX (L2N.takes_of rfl rfl rfl rfl) (fun _ _ _ _ h => h)) (pa_cons (pv 1) pa_nil)))))), ?_⟩
    have sc := scS (P := w.params)
    obtain ⟨dx, b, l, hh, p, s, hx, sh⟩ := id hS
    refine ⟨_, rfl, x, dx, _, rfl, hx, rfl, x, 1504, dx, _, rfl, sc, hx, rfl, fun H1 e1 => ?_⟩
    rcases k with ⟨j, k⟩ | ⟨j, k⟩
    · refine q_when (b := true) (et_not (et_B (ev_deedS (ev_var rfl) (ea_cons (ev_var rfl) ea_nil) (e1 _ _ hx) rfl (j.ex e1)))) (fun _ H2 e2 => ?_) fun z => by cases z
      exact s_raiseA (ea_cons ev_c ea_nil) fun dd H3 e3 hdd => k dd H3 ((e1.trans e2).trans e3) hdd
    · refine q_when (b := false) (et_not (et_B (ev_deedS (ev_var rfl) (ea_cons (ev_var rfl) ea_nil) (e1 _ _ hx) rfl (j.ex e1)))) (fun z => by cases z) fun _ H2 e2 => ?_
      have e12 := e1.trans e2
      exact ⟨_, rfl, x, dx, _, rfl, e12 _ _ hx, rfl, _, rfl, x, v, false, ks, ts, d, n, rfl, hS.ex hd e12, ok, hno, hd, k.ex e12⟩
/-! ### undo -/
theorem dpa_split {K : PySem.W.Frag} {H : Hp} : ∀ {vs : List V} {ds es : List PyData}, DpAll K H vs (ds ++ es) → ∃ v1 v2, vs = v1 ++ v2 ∧ DpAll K H v1 ds ∧ DpAll K H v2 es
  | vs, [], es, h => ⟨[], vs, rfl, .nil, h⟩
  | _ :: vs, d :: ds, es, .cons a r => by
    obtain ⟨v1, v2, rfl, h1, h2⟩ := dpa_split (ds := ds) r
    exact ⟨_ :: v1, v2, rfl, .cons a h1, h2⟩
theorem atI_last {α : Type} {xs : List α} {x : α} : atI (xs ++ [x]) (-1) = some x := by
  have h : ixN (xs ++ [x]).length (-1) = some xs.length := by
    unfold ixN
    rw [List.length_append, List.length_singleton, if_neg (by decide), if_pos (by omega)]
    congr 1
    omega
  unfold atI
  rw [h]
  simp
def spUndo (K : PySem.W.Frag) (C : Addr) : Sp := fun vs H Q E => ∃ (x : Addr) (ks : List (Str × Int)) (ts : List Tmp) (d : PyData) (n : Nat), vs = [.ref x] ∧ ShopAt K C H x ks ts d false (n + 1) ∧ n < 1000 ∧ immD d = true ∧ ∀ H', Kp x H H' → ShopAt K C H' x ks ts d false n → Q .non H'
theorem sc_Workshop_undo : FnScope ["self"] ["self"] (defScope s_Workshop_undo) := ⟨rfl, rfl, rfl, by decide +kernel, rfl, by decide +kernel, by decide +kernel⟩
theorem b_SiteWorkshop_undo (P : Params) : Binds (K0 P) fd_Workshop_undo ["self"] [] := b_Workshop_undo P
theorem ok_Workshop_undo (W : Wd w.params mg) : Ok w mg base CX0 2 a_Workshop_undo fd_Workshop_undo ["self"] (spUndo (Kw w) 1440) := by
  refine (F_Workshop_undo w.params).ok sc_Workshop_undo (fun vs H Q E h => ?_) (fun cdv A outer s H vs Q E hr h => ?_)
  · obtain ⟨x, ks, ts, d, n, rfl, _⟩ := h
    rfl
  · obtain ⟨x, ks, ts, d, n, rfl, ⟨dx, b, l, hh, p, s, hx, sh⟩, hn, hd, k⟩ := h
    refine ⟨_, (pss_cons (ps_expr (pe_meth0 (pv 0) cls_Workshop mt_Workshop_check_idle (ok_Workshop_check_idle W) (hr.mono (by decide)) (b_Workshop_check_idle _) .nil pass0 ))
    (pss_cons (ps_if (pt_cmpR (op_eqEmp hr.units0) (pe_fld (pv 0) rfl) (pe_tup pa_nil) (nomark _)) (pss_one ps_never) pss_nil)
    (pss_cons (ps_asg (pe_ix ix_tup (pe_fld (pv 0) rfl) (pe_un un_neg pe_int) (fun _ _ => rfl)) (pg_tup rfl (pgs_cons (pg_fld (pv 0)) (pgs_cons (pg_fld (pv 0)) (pgs_cons (pg_fld (pv 0)) pgs_nil)))))
    (pss_cons (ps_fld (pv 0) (pe_slice sl_tup (pe_fld (pv 0) rfl) po_none (po_some (pe_un un_neg pe_int))) rfl)
    (pss_one (ps_fld (pv 0) (pe_slice sl_tup (pe_fld (pv 0) rfl) po_none (po_some (pe_un un_neg pe_int))) rfl)))))), ?_⟩
    have sc := scW (P := w.params)
    refine ⟨_, rfl, x, dx, _, rfl, hx, rfl, x, 1440, dx, _, rfl, sc, hx, rfl, fun H1 e1 => ?_⟩
    have hx1 := e1 _ _ hx
    have sh1 := sh.kp hd (.of e1)
    obtain ⟨al, ys, rfl, hly, hyd⟩ := dp_tup sh1.log
    rw [List.replicate_succ'] at hyd
    obtain ⟨y0, y1, rfl, hy0, hy1⟩ := dpa_split hyd
    obtain ⟨yl, rfl, hyl⟩ := dpa1 hy1
    obtain ⟨ap, xs, rfl, hps, hlen, hbf⟩ := sh1.past
    refine q_when (b := false) (et_is (et_test (ev_eqEmp (ev_fld (ev_var rfl) hx1 sc.cls sc.log rfl) hly)) (by cases y0 <;> rfl)) (fun z => by cases z) fun _ H2 e2 => ?_
    rcases List.eq_nil_or_concat xs with rfl | ⟨x0, u, rfl⟩
    · cases hlen
    rw [List.concat_eq_append] at hps hlen hbf
    rw [List.length_append, List.length_singleton] at hlen
    have hx2 := e2 _ _ hx1
    obtain ⟨q, b', h', s', rfl, hq, hbk, hh', hs'⟩ := hbf u (by simp)
    refine (ev_op (ev_fld (ev_var rfl) hx2 sc.cls sc.past rfl) ev_neg1 (rv_ixT (ex_t e2 hps) atI_last)) H2 (Ex.refl H2) _ fun H3 e3 => ?_
    have e23 := e2.trans e3
    have hx3 := e3 _ _ hx2
    refine ⟨q, [.ref b', h', s'], rfl, ex_t e23 hq, rfl, .ref b', [h', s'], rfl, .ref x, rfl, x, 1440, dx, _, rfl, hx3, sc.cls, sc.book, (show (6 : Nat) < 1000 by decide), ?_⟩
    refine ⟨h', [s'], rfl, .ref x, rfl, x, 1440, dx, _, rfl, upd_same, sc.cls, sc.held, (show (6 : Nat) < 1000 by decide), ?_⟩
    refine ⟨s', [], rfl, .ref x, rfl, x, 1440, dx, _, rfl, upd_same, sc.cls, sc.sites, (show (6 : Nat) < 1000 by decide), rfl, ?_⟩
    have k4 := (Kp.of (x := x) ((e1.trans e2).trans e3)).trans (Kp.upd (u := .ins 1440 dx (fS' (.ref b') (.ref al) hh (.ref ap) s false)) hx3)
    have k5 := k4.trans (Kp.upd (u := .ins 1440 dx (fS' (.ref b') (.ref al) h' (.ref ap) s false)) upd_same)
    have k6 := k5.trans (Kp.upd (u := .ins 1440 dx (fS' (.ref b') (.ref al) h' (.ref ap) s' false)) upd_same)
    have c6 := ((Kp.of (x := x) e23).trans (Kp.upd (u := .ins 1440 dx (fS' (.ref b') (.ref al) hh (.ref ap) s false)) hx3)).trans ((Kp.upd (u := .ins 1440 dx (fS' (.ref b') (.ref al) h' (.ref ap) s false)) upd_same).trans (Kp.upd (u := .ins 1440 dx (fS' (.ref b') (.ref al) h' (.ref ap) s' false)) upd_same))
    refine q_fldU (xs := x0) (eu_last (ev_fld (ev_var rfl) upd_same sc.cls sc.past rfl) (tx_t c6.tx hps)) (ev_var rfl) upd_same sc.cls sc.past (show (6 : Nat) < 1000 by decide) fun pp H7 hpp e7 hp7 hx7 => ?_
    have k7 := (Kp.of (x := x) e7).trans (Kp.upd (u := .ins 1440 dx (fS' (.ref b') (.ref al) h' (.ref pp) s' false)) hx7)
    have t7 := (c6.trans k7).tx
    refine s_fldU (xs := y0) (eu_last (ev_fld (ev_var rfl) upd_same sc.cls sc.log rfl) (tx_t t7 hly)) (ev_var rfl) upd_same sc.cls sc.log (show (6 : Nat) < 1000 by decide) fun pl H8 hpl e8 hp8 hx8 => ?_
    have k8 := (Kp.of (x := x) e8).trans (Kp.upd (u := .ins 1440 dx (fS' (.ref b') (.ref pl) h' (.ref pp) s' false)) hx8)
    have c8 := (c6.trans k7).trans k8
    have tl := Tx.ins (u := .ins 1440 dx (fS' (.ref b') (.ref pl) h' (.ref pp) s' false)) hx8
    refine k _ ((k6.trans k7).trans k8) ⟨dx, b', .ref pl, h', .ref pp, s', upd_same, hbk.kp c8, .tup (tx_t tl (SqT.of hp8)) (dpAll_tx c8.tx _ _ (immAll_iff.mpr fun y hy => by
      rw [(List.mem_replicate.mp hy).2]
      exact hd) hy0), hh'.tx rfl c8.tx, ⟨pp, x0, rfl, tx_t k8.tx (tx_t (Tx.ins hx7) (SqT.of hp7)), by omega, fun v hv => (hbf v (by simp [hv])).kp c8⟩, hs'.tx rfl c8.tx⟩
theorem ok_SiteWorkshop_undo (W : Wd w.params mg) : Ok w mg base CX0 2 a_Workshop_undo fd_Workshop_undo ["self"] (spUndo (Kw w) 1504) := by
  refine (F_Workshop_undo w.params).ok sc_Workshop_undo (fun vs H Q E h => ?_) (fun cdv A outer s H vs Q E hr h => ?_)
  · obtain ⟨x, ks, ts, d, n, rfl, _⟩ := h
    rfl
  · obtain ⟨x, ks, ts, d, n, rfl, ⟨dx, b, l, hh, p, s, hx, sh⟩, hn, hd, k⟩ := h
    refine ⟨_, (pss_cons (ps_expr (pe_meth0 (pv 0) cls_SiteWorkshop mt_SiteWorkshop_check_idle (ok_Workshop_check_idle W) (hr.mono (by decide)) (b_Workshop_check_idle _) .nil pass0 ))
    (pss_cons (ps_if (pt_cmpR (op_eqEmp hr.units0) (pe_fld (pv 0) rfl) (pe_tup pa_nil) (nomark _)) (pss_one ps_never) pss_nil)
    (pss_cons (ps_asg (pe_ix ix_tup (pe_fld (pv 0) rfl) (pe_un un_neg pe_int) (fun _ _ => rfl)) (pg_tup rfl (pgs_cons (pg_fld (pv 0)) (pgs_cons (pg_fld (pv 0)) (pgs_cons (pg_fld (pv 0)) pgs_nil)))))
    (pss_cons (ps_fld (pv 0) (pe_slice sl_tup (pe_fld (pv 0) rfl) po_none (po_some (pe_un un_neg pe_int))) rfl)
    (pss_one (ps_fld (pv 0) (pe_slice sl_tup (pe_fld (pv 0) rfl) po_none (po_some (pe_un un_neg pe_int))) rfl)))))), ?_⟩
    have sc := scS (P := w.params)
    refine ⟨_, rfl, x, dx, _, rfl, hx, rfl, x, 1504, dx, _, rfl, sc, hx, rfl, fun H1 e1 => ?_⟩
    have hx1 := e1 _ _ hx
    have sh1 := sh.kp hd (.of e1)
    obtain ⟨al, ys, rfl, hly, hyd⟩ := dp_tup sh1.log
    rw [List.replicate_succ'] at hyd
    obtain ⟨y0, y1, rfl, hy0, hy1⟩ := dpa_split hyd
    obtain ⟨yl, rfl, hyl⟩ := dpa1 hy1
    obtain ⟨ap, xs, rfl, hps, hlen, hbf⟩ := sh1.past
    refine q_when (b := false) (et_is (et_test (ev_eqEmp (ev_fld (ev_var rfl) hx1 sc.cls sc.log rfl) hly)) (by cases y0 <;> rfl)) (fun z => by cases z) fun _ H2 e2 => ?_
    rcases List.eq_nil_or_concat xs with rfl | ⟨x0, u, rfl⟩
    · cases hlen
    rw [List.concat_eq_append] at hps hlen hbf
    rw [List.length_append, List.length_singleton] at hlen
    have hx2 := e2 _ _ hx1
    obtain ⟨q, b', h', s', rfl, hq, hbk, hh', hs'⟩ := hbf u (by simp)
    refine (ev_op (ev_fld (ev_var rfl) hx2 sc.cls sc.past rfl) ev_neg1 (rv_ixT (ex_t e2 hps) atI_last)) H2 (Ex.refl H2) _ fun H3 e3 => ?_
    have e23 := e2.trans e3
    have hx3 := e3 _ _ hx2
    refine ⟨q, [.ref b', h', s'], rfl, ex_t e23 hq, rfl, .ref b', [h', s'], rfl, .ref x, rfl, x, 1504, dx, _, rfl, hx3, sc.cls, sc.book, (show (6 : Nat) < 1000 by decide), ?_⟩
    refine ⟨h', [s'], rfl, .ref x, rfl, x, 1504, dx, _, rfl, upd_same, sc.cls, sc.held, (show (6 : Nat) < 1000 by decide), ?_⟩
    refine ⟨s', [], rfl, .ref x, rfl, x, 1504, dx, _, rfl, upd_same, sc.cls, sc.sites, (show (6 : Nat) < 1000 by decide), rfl, ?_⟩
    have k4 := (Kp.of (x := x) ((e1.trans e2).trans e3)).trans (Kp.upd (u := .ins 1504 dx (fS' (.ref b') (.ref al) hh (.ref ap) s false)) hx3)
    have k5 := k4.trans (Kp.upd (u := .ins 1504 dx (fS' (.ref b') (.ref al) h' (.ref ap) s false)) upd_same)
    have k6 := k5.trans (Kp.upd (u := .ins 1504 dx (fS' (.ref b') (.ref al) h' (.ref ap) s' false)) upd_same)
    have c6 := ((Kp.of (x := x) e23).trans (Kp.upd (u := .ins 1504 dx (fS' (.ref b') (.ref al) hh (.ref ap) s false)) hx3)).trans ((Kp.upd (u := .ins 1504 dx (fS' (.ref b') (.ref al) h' (.ref ap) s false)) upd_same).trans (Kp.upd (u := .ins 1504 dx (fS' (.ref b') (.ref al) h' (.ref ap) s' false)) upd_same))
    refine q_fldU (xs := x0) (eu_last (ev_fld (ev_var rfl) upd_same sc.cls sc.past rfl) (tx_t c6.tx hps)) (ev_var rfl) upd_same sc.cls sc.past (show (6 : Nat) < 1000 by decide) fun pp H7 hpp e7 hp7 hx7 => ?_
    have k7 := (Kp.of (x := x) e7).trans (Kp.upd (u := .ins 1504 dx (fS' (.ref b') (.ref al) h' (.ref pp) s' false)) hx7)
    have t7 := (c6.trans k7).tx
    refine s_fldU (xs := y0) (eu_last (ev_fld (ev_var rfl) upd_same sc.cls sc.log rfl) (tx_t t7 hly)) (ev_var rfl) upd_same sc.cls sc.log (show (6 : Nat) < 1000 by decide) fun pl H8 hpl e8 hp8 hx8 => ?_
    have k8 := (Kp.of (x := x) e8).trans (Kp.upd (u := .ins 1504 dx (fS' (.ref b') (.ref pl) h' (.ref pp) s' false)) hx8)
    have c8 := (c6.trans k7).trans k8
    have tl := Tx.ins (u := .ins 1504 dx (fS' (.ref b') (.ref pl) h' (.ref pp) s' false)) hx8
    refine k _ ((k6.trans k7).trans k8) ⟨dx, b', .ref pl, h', .ref pp, s', upd_same, hbk.kp c8, .tup (tx_t tl (SqT.of hp8)) (dpAll_tx c8.tx _ _ (immAll_iff.mpr fun y hy => by
      rw [(List.mem_replicate.mp hy).2]
      exact hd) hy0), hh'.tx rfl c8.tx, ⟨pp, x0, rfl, tx_t k8.tx (tx_t (Tx.ins hx7) (SqT.of hp7)), by omega, fun v hv => (hbf v (by simp [hv])).kp c8⟩, hs'.tx rfl c8.tx⟩
end
end K76
set_option maxHeartbeats 4000000
namespace K76
open PySem PySem.W PySem.Calls PyProof.Rows L2 Evl Ed StX
section
variable {w : World} {mg : Str → Option Value} {base : Heap}
theorem _root_.L2.ps_fldK {X : Cx} {K : PySem.W.Frag} {o value : Expr} {f : Str} {pos pos' : Pos} {ta tv : TE} (hK : X.K = K) (ha : PE X o ta) (hv : PE X value tv) (hs : swapsWith value (some (.Attribute o f pos')) pos.line X.env = pure false) : PS X (.Assign [.Attribute o f pos'] value pos) (sFld K ta tv f) := hK ▸ ps_fld ha hv hs
theorem _root_.L2.pg_fldK {X : Cx} {K : PySem.W.Frag} {o : Expr} {f : Str} {pos : Pos} {ta : TE} (hK : X.K = K) (ho : PE X o ta) : PG X (.Attribute o f pos) (gFld K ta f) := hK ▸ pg_fld ho
theorem s_asgT {te : TE} {g : TG} {D : Ends} {σ : L2.St} {H : Hp} {xs : List V} (h : EvU te σ H xs) (k : ∀ p H1, Ex H H1 → H1 p = some (.tup xs) → g (.ref p) σ H1 D.nx) : tAsg te g D σ H := h H (Ex.refl H) _ fun p H1 _ e1 h1 => k p H1 e1 h1
def AllC (K : PySem.W.Frag) (C : Addr) (f : Str → Nat → Bool) (H : Hp) (x : Addr) (rest : List V) (ks : List (Str × Int)) (ts : List Tmp) (d : PyData) (n : Nat) (Q : VK) (E : XK) : Prop :=
  (∃ j, (∀ i y, i < j → rest[i]? = some y → Jdg K H y f true) ∧ (∃ y, rest[j]? = some y ∧ Jdg K H y f false) ∧ Xc (Ex H) 450 "index" (.int (j : Nat)) E) ∨
  ((∀ y ∈ rest, Jdg K H y f true ∧ ∃ t ∈ ts, d = putD t ∧ Dp K H y (putD t)) ∧ n ≤ 100 ∧ ((n + rest.length ≤ 100 ∧ ∀ H', Kp x H H' → ShopAt K C H' x ks ts d false (n + rest.length) → Q .non H') ∨ (100 < n + rest.length ∧ Xc (Ex H) 664 "limit" (.int 100) E)))
def spAll (K : PySem.W.Frag) (C : Addr) (f : Str → Nat → Bool) : Sp := fun vs H Q E => ∃ (x p : Addr) (rest : List V) (ks : List (Str × Int)) (ts : List Tmp) (d : PyData) (n : Nat), vs = [.ref x, .non, .ref p] ∧ SqT K H p rest ∧ ShopAt K C H x ks ts d false n ∧ OkB ks ts ∧ NoS ts ∧ immD d = true ∧ AllC K C f H x rest ks ts d n Q E
theorem sc_Workshop_do_all : FnScope ["self", "watch", "deeds", "index", "deed", "book", "log", "held", "past", "sites", "unfinished"] ["self", "watch", "deeds"] (defScope s_Workshop_do_all) := ⟨rfl, rfl, rfl, by decide +kernel, rfl, by decide +kernel, by decide +kernel⟩
theorem ok_Workshop_do_all (W : Wd w.params mg) : FnR PR w (Kw w) mg base (L2N.CX PR w) 13 a_Workshop_do_all (fun vs H Q E => ∃ ws rest, vs = ws ++ rest ∧ ws.length = (["self"] : List Str).length ∧ rest.length ≤ sizeLine ∧ ∀ p, H p = Option.none → spAll (Kw w) 1440 fW (ws ++ [.non, V.ref p]) (upd H p (.tup rest)) Q E) := by
  obtain ⟨oc, od, kV, doc, pm, an, cdv, ct, osl, efd, lk, hcd⟩ := (F_Workshop_do_all w.params).ex
  obtain rfl : kV = .ref 1374 := (congrArg FuncData.kwdefaults efd).symm
  refine fn_starKO (D := 1374) (kn := "watch") (pv := "deeds") (kval := .none) (kv := .non) rfl (by kernel_rfl) (efd ▸ lk) hcd sc_Workshop_do_all Ed.cxUpN (fun us rest hl => ?_) (fun A outer s H vs Q E hr h => ?_)
  · match us, hl with
    | [u], _ =>
      cases rest with
      | nil =>
        exact ⟨_, _, _, _, _, _, rfl, by rfl, by rfl⟩
      | cons r rs =>
        exact ⟨_, _, _, _, _, _, rfl, by rfl, by rfl⟩
  · have h := h
    refine ⟨_, (pss_cons (ps_expr (pe_meth0 (pv 0) cls_Workshop mt_Workshop_check_idle (ok_Workshop_check_idle W) (hr.mono (by decide)) (b_Workshop_check_idle _) .nil pass0 ))
    (pss_cons (ps_for (passes_of rfl) rfl (pi_enumT rfl (n_enumerate W) (pa_cons (pv 2) pa_nil)) (pg_tup rfl (pgs_cons (pg_name (i := 3) sc_Workshop_do_all.nd rfl (Or.inl rfl)) (pgs_cons (pg_name (i := 4) sc_Workshop_do_all.nd rfl (Or.inl rfl)) pgs_nil)))
    (pss_one (ps_if (pt_not (pt_val (pe_meth (pv 0) cls_Workshop mt_Workshop_is_deed (ok_Workshop_is_deed W) (hr.mono (by decide)) (b_Workshop_is_deed _) .nil pass0 (pa_cons (pv 4) pa_nil)))) (pss_one (ps_raiseAN (k := 1) rfl (xt_InvalidDeed W) (hr.mono (by decide)) (L2N.takes_of rfl rfl rfl rfl) (pa_cons (pv 3) pa_nil))) pss_nil)))
    (pss_cons (ps_par3 (i := 5) (j := 6) (l := 7) rfl sc_Workshop_do_all.nd rfl rfl rfl (by decide) (by decide) (by decide) rfl rfl rfl (pa_cons (pe_fld (pv 0) rfl) (pa_cons (pe_fld (pv 0) rfl) (pa_cons (pe_fld (pv 0) rfl) pa_nil))) rfl)
    (pss_cons (ps_par3 (i := 8) (j := 9) (l := 10) rfl sc_Workshop_do_all.nd rfl rfl rfl (by decide) (by decide) (by decide) rfl rfl rfl (pa_cons (pe_fld (pv 0) rfl) (pa_cons (pe_fld (pv 0) rfl) (pa_cons pe_bl pa_nil))) rfl)
    (pss_cons (ps_fld (pv 0) pe_bl rfl)
    (pss_one (ps_finN rfl rfl rfl (L2N.takes_of rfl rfl rfl rfl) (fun W_ pn_ xe_ tk_ ho_ => (pss_cons (ps_for ho_ rfl (pi_enumTK (K := Kw w) rfl rfl (n_enumerate W) (pa_cons (pv 2) pa_nil)) (pg_tupK (K := Kw w) (n := 2) rfl rfl (pgs_cons (pg_name (i := 3) sc_Workshop_do_all.nd rfl (Or.inl rfl)) (pgs_cons (pg_name (i := 4) sc_Workshop_do_all.nd rfl (Or.inl rfl)) pgs_nil)))
    (pss_cons (ps_expr (pe_methSt (E := fun σ => WE W_ σ) (pv 0) cls_Workshop mt_Workshop_done (ok_Workshop_done W) (hr.mono (by decide)) (b_Workshop_done _) (fun σ => L2N.passAt tk_ σ) (pa_cons (pv 4) pa_nil)))
    (pss_one (ps_if (pt_cmp (pc_notN (pv 1))) pss_never pss_nil))))
    (pss_one (ps_set (i := 10) sc_Workshop_do_all.nd rfl (Or.inl rfl) pe_non)))) (pss_cons (ps_fldK (K := Kw w) rfl (pv 0) pe_bl rfl)
    (pss_one (ps_if (pt_cmp (pc_notN (pv 10))) (pss_cons (ps_asg (pe_tup (pa_cons (pv 5) (pa_cons (pv 6) (pa_cons (pv 7) pa_nil)))) (pg_tupK (K := Kw w) (n := 3) rfl rfl (pgs_cons (pg_fldK (K := Kw w) rfl (pv 0)) (pgs_cons (pg_fldK (K := Kw w) rfl (pv 0)) (pgs_cons (pg_fldK (K := Kw w) rfl (pv 0)) pgs_nil)))))
    (pss_one (ps_asg (pe_tup (pa_cons (pv 8) (pa_cons (pv 9) pa_nil))) (pg_tupK (K := Kw w) (n := 2) rfl rfl (pgs_cons (pg_fldK (K := Kw w) rfl (pv 0)) (pgs_cons (pg_fldK (K := Kw w) rfl (pv 0)) pgs_nil)))))) pss_nil))) (fun a_ pn_ hot_ => (pss_cons (ps_fldK (K := Kw w) rfl (pv 0) pe_bl rfl)
    (pss_one (ps_if (pt_cmp (pc_notN (pv 10))) (pss_cons (ps_asg (pe_tup (pa_cons (pv 5) (pa_cons (pv 6) (pa_cons (pv 7) pa_nil)))) (pg_tupHK (K := Kw w) (n := 3) rfl hot_ (pgs_cons (pg_fldK (K := Kw w) rfl (pv 0)) (pgs_cons (pg_fldK (K := Kw w) rfl (pv 0)) (pgs_cons (pg_fldK (K := Kw w) rfl (pv 0)) pgs_nil)))))
    (pss_one (ps_asg (pe_tup (pa_cons (pv 8) (pa_cons (pv 9) pa_nil))) (pg_tupHK (K := Kw w) (n := 2) rfl hot_ (pgs_cons (pg_fldK (K := Kw w) rfl (pv 0)) (pgs_cons (pg_fldK (K := Kw w) rfl (pv 0)) pgs_nil)))))) pss_nil))))))))))), ?_⟩
    obtain ⟨x, p, rest, ks, ts, d, n, rfl, hp, hS, ok, hno, hd, k⟩ := h
    have sc := scW (P := w.params)
    obtain ⟨dx, b, l, hh, pp, s, hx, sh⟩ := id hS
    refine ⟨_, rfl, x, dx, _, rfl, hx, rfl, x, 1440, dx, _, rfl, sc, hx, rfl, fun H1 e1 => ?_⟩
    rcases k with ⟨j, hgood, ⟨y, hy, hbad⟩, k⟩ | ⟨hgood, hn, k⟩
    · refine q_forEnV (ev_var rfl) (ex_t e1 hp) (fun i σ' H' => Ex H1 H' ∧ (∃ q r, σ' = [some (.ref x), some .non, some (.ref p), q, r, none, none, none, none, none, none]) ∧ i ≤ j) (fun H2 e2 => ⟨e2, ⟨_, _, rfl⟩, Nat.zero_le _⟩)
        (fun H0 e0 i y' σ' H' H'' hi tx pv e2 => ?_) (fun σ' H' pv => ?_)
      · obtain ⟨e3, ⟨q, r, rfl⟩, hij⟩ := pv
        have e4 := (e1.trans e3).trans e2
        rcases Nat.lt_or_eq_of_le hij with c | c
        · refine s_when (b := false) (et_not (et_B (ev_deedW (ev_var rfl) (ea_cons (ev_var rfl) ea_nil) (e4 _ _ hx) rfl ((hgood i y' c hi).ex e4)))) (fun z => by cases z) fun _ H2 e5 => ?_
          exact ⟨(tx.trans (Tx.of e2)).trans (Tx.of e5), (e3.trans e2).trans e5, ⟨_, _, rfl⟩, c⟩
        · subst c
          rw [hy] at hi
          cases hi
          refine s_when (b := true) (et_not (et_B (ev_deedW (ev_var rfl) (ea_cons (ev_var rfl) ea_nil) (e4 _ _ hx) rfl (hbad.ex e4)))) (fun _ H2 e5 => ?_) fun z => by cases z
          exact s_raiseA (ea_cons (ev_var rfl) ea_nil) fun dd H3 e6 hdd => k dd H3 ((e4.trans e5).trans e6) hdd
      · obtain ⟨e3, ⟨q, r, rfl⟩, hij⟩ := pv
        have := (List.getElem?_eq_some_iff.mp hy).1
        omega
    · refine q_forEnV (ev_var rfl) (ex_t e1 hp) (fun i σ' H' => Ex H1 H' ∧ (∃ q r, σ' = [some (.ref x), some .non, some (.ref p), q, r, none, none, none, none, none, none])) (fun H2 e2 => ⟨e2, ⟨_, _, rfl⟩⟩)
        (fun H0 e0 i y' σ' H' H'' hi tx pv e2 => ?_) (fun σ' H' pv => ?_)
      · obtain ⟨e3, ⟨q, r, rfl⟩⟩ := pv
        have e4 := (e1.trans e3).trans e2
        refine s_when (b := false) (et_not (et_B (ev_deedW (ev_var rfl) (ea_cons (ev_var rfl) ea_nil) (e4 _ _ hx) rfl ((hgood y' (List.mem_of_getElem? hi)).1.ex e4)))) (fun z => by cases z) fun _ H2 e5 => ?_
        exact ⟨(tx.trans (Tx.of e2)).trans (Tx.of e5), (e3.trans e2).trans e5, ⟨_, _, rfl⟩⟩
      obtain ⟨e3, ⟨q, r, rfl⟩⟩ := pv
      have e4 := e1.trans e3
      refine q_par3 (ea_cons (ev_fld (ev_var rfl) (e4 _ _ hx) sc.cls sc.book rfl) (ea_cons (ev_fld (ev_var rfl) (e4 _ _ hx) sc.cls sc.log rfl) (ea_cons (ev_fld (ev_var rfl) (e4 _ _ hx) sc.cls sc.held rfl) ea_nil))) fun H2 e5 => ?_
      have e6 := e4.trans e5
      refine q_par3 (ea_cons (ev_fld (ev_var rfl) (e6 _ _ hx) sc.cls sc.past rfl) (ea_cons (ev_fld (ev_var rfl) (e6 _ _ hx) sc.cls sc.sites rfl) (ea_cons ev_c ea_nil))) fun H3 e7 => ?_
      have e8 := e6.trans e7
      refine q_fld (v := .bl true) ev_c (ev_var rfl) (e8 _ _ hx) sc.cls sc.busy (show (6 : Nat) < 1000 by decide) fun H4 e9 hx4 => ?_
      have k5 := (Kp.of (x := x) (e8.trans e9)).trans (Kp.upd (u := .ins 1440 dx (fS' (.ref b) l hh pp s true)) hx4)
      have hS5 : ShopAt (Kw w) 1440 (upd H4 x (.ins 1440 dx (fS' (.ref b) l hh pp s true))) x ks ts d true n := ⟨dx, b, l, hh, pp, s, upd_same, sh.kp hd k5⟩
      have hp5 : SqT (Kw w) (upd H4 x (.ins 1440 dx (fS' (.ref b) l hh pp s true))) p rest := tx_t k5.tx hp
      show tFinN _ _ _ _ _ _ (upd H4 x (.ins 1440 dx (fS' (.ref b) l hh pp s true)))
      generalize hG : upd H4 x (.ins 1440 dx (fS' (.ref b) l hh pp s true)) = H5 at k5 hS5 hp5
      clear hG
      refine q_forEnV (ev_var rfl) hp5 (fun i σ' H' => Kp x H5 H' ∧ ShopAt (Kw w) 1440 H' x ks ts d true (n + i) ∧ n + i ≤ 100 ∧ (∃ q r, σ' = [some (.ref x), some .non, some (.ref p), q, r, some (.ref b), some l, some hh, some pp, some s, some (.bl true)]))
        (fun H6 e10 => ⟨.of e10, hS5.ex hd e10, by omega, ⟨_, _, rfl⟩⟩) (fun H0 e0 i y' σ' H' H'' hi tx pv e11 => ?_) (fun σ' H' pv => ?_)
      · obtain ⟨k6, hS6, h100, q', r', rfl⟩ := pv
        obtain ⟨dx6, b6, l6, h6, p6, s6, hx6, sh6⟩ := id hS6
        have hyd := hgood y' (List.mem_of_getElem? hi)
        have hlt := (List.getElem?_eq_some_iff.mp hi).1
        have k7 := (k5.trans k6).trans (.of e11)
        have hdx : dx6 = dx := by
          obtain ⟨fs', h'⟩ := k7.ins _ _ _ hx
          rw [e11 _ _ hx6] at h'
          cases h'
          rfl
        subst hdx
        refine ⟨_, rfl, x, dx6, _, rfl, e11 _ _ hx6, rfl, _, rfl, x, y', true, ks, ts, d, n + i, rfl, hS6.ex hd e11, ok, hno, hd, ?_⟩
        by_cases hfull : n + i = 100
        · refine .inl ⟨hfull, fun dd H7 e12 hdd => ?_⟩
          rcases k with ⟨h1, _⟩ | ⟨_, k⟩
          · omega
          have hx7 := e12 _ _ (e11 _ _ hx6)
          have k8 := k7.trans (.of e12)
          refine q_fld (v := .bl false) ev_c (ev_var rfl) hx7 sc.cls sc.busy (show (6 : Nat) < 1000 by decide) fun H8 e13 hx8 => ?_
          have k9 := (Kp.of (x := x) e13).trans (Kp.upd (u := .ins 1440 dx6 (fS' (.ref b6) l6 h6 p6 s6 false)) hx8)
          refine s_when (b := true) (et_is (et_B (ev_notN (ev_var rfl))) rfl) (fun _ H9 e14 => ?_) fun z => by cases z
          have hx9 : H9 x = some (.ins 1440 dx6 (fS' (.ref b6) l6 h6 p6 s6 false)) := e14 _ _ upd_same
          refine s_asgT (eu_tup (ea_cons (ev_var rfl) (ea_cons (ev_var rfl) (ea_cons (ev_var rfl) ea_nil))) (by simp)) fun t H10 e15 ht10 => ?_
          have hx10 := e15 _ _ hx9
          have k10 := k9.trans ((Kp.of e14).trans (.of e15))
          refine ⟨t, _, rfl, SqT.of ht10, rfl, .ref b, [l, hh], rfl, .ref x, rfl, x, 1440, dx6, _, rfl, hx10, sc.cls, sc.book, (show (6 : Nat) < 1000 by decide), ?_⟩
          refine ⟨l, [hh], rfl, .ref x, rfl, x, 1440, dx6, _, rfl, upd_same, sc.cls, sc.log, (show (6 : Nat) < 1000 by decide), ?_⟩
          refine ⟨hh, [], rfl, .ref x, rfl, x, 1440, dx6, _, rfl, upd_same, sc.cls, sc.held, (show (6 : Nat) < 1000 by decide), rfl, ?_⟩
          have k11 := ((k10.trans (Kp.upd (u := .ins 1440 dx6 (fS' (.ref b) l6 h6 p6 s6 false)) hx10)).trans (Kp.upd (u := .ins 1440 dx6 (fS' (.ref b) l h6 p6 s6 false)) upd_same)).trans (Kp.upd (u := .ins 1440 dx6 (fS' (.ref b) l hh p6 s6 false)) upd_same)
          refine s_asgT (eu_tup (ea_cons (ev_var rfl) (ea_cons (ev_var rfl) ea_nil)) (by simp)) fun t2 H12 e16 ht12 => ?_
          have hx12 := e16 x _ upd_same
          refine ⟨t2, _, rfl, SqT.of ht12, rfl, pp, [s], rfl, .ref x, rfl, x, 1440, dx6, _, rfl, hx12, sc.cls, sc.past, (show (6 : Nat) < 1000 by decide), ?_⟩
          refine ⟨s, [], rfl, .ref x, rfl, x, 1440, dx6, _, rfl, upd_same, sc.cls, sc.sites, (show (6 : Nat) < 1000 by decide), rfl, ?_⟩
          have k13 := ((k11.trans (.of e16)).trans (Kp.upd (u := .ins 1440 dx6 (fS' (.ref b) l hh pp s6 false)) hx12)).trans (Kp.upd (u := .ins 1440 dx6 (fS' (.ref b) l hh pp s false)) upd_same)
          refine k dd _ ((k8.trans k13).ex fun o ho => ?_) (k13.at_ hdd fun z => ?_)
          · rw [hx] at ho
            cases ho
            exact upd_same
          · subst z
            rw [hdd] at hx7
            cases hx7
        · refine .inr (.inl ⟨by omega, ?_⟩)
          obtain ⟨_, t, ht, rfl, hy'⟩ := hyd
          refine ⟨t, ht, rfl, (hy'.tx (imm_putD t) k7.tx), fun H7 k8 hS7 => ?_⟩
          refine s_when (b := false) (et_is (et_B (ev_notN (ev_var rfl))) rfl) (fun z => by cases z) fun _ H8 e12 => ?_
          exact ⟨((tx.trans (Tx.of e11)).trans k8.tx).trans (Tx.of e12), ((k6.trans (.of e11)).trans k8).trans (.of e12), hS7.ex hd e12, by omega, _, _, rfl⟩
      · obtain ⟨k6, hS6, h100, q', r', rfl⟩ := pv
        refine s_asg (v := .non) ev_c fun H7 e12 => ?_
        obtain ⟨dx6, b6, l6, h6, p6, s6, hx6, sh6⟩ := hS6.ex hd e12
        refine q_fld (v := .bl false) ev_c (ev_var rfl) hx6 sc.cls sc.busy (show (6 : Nat) < 1000 by decide) fun H8 e13 hx8 => ?_
        have k9 := (Kp.of (x := x) e13).trans (Kp.upd (u := .ins 1440 dx6 (fS' (.ref b6) l6 h6 p6 s6 false)) hx8)
        refine s_when (b := false) (et_is (et_B (ev_notN (ev_var rfl))) rfl) (fun z => by cases z) fun _ H9 e14 => ?_
        have k10 := ((k5.trans k6).trans (.of e12)).trans (k9.trans (.of e14))
        rcases k with ⟨_, k⟩ | ⟨h1, _⟩
        · exact k _ k10 ⟨dx6, b6, l6, h6, p6, s6, e14 _ _ upd_same, sh6.kp hd (k9.trans (.of e14))⟩
        · omega
theorem ok_SiteWorkshop_do_all (W : Wd w.params mg) : FnR PR w (Kw w) mg base (L2N.CX PR w) 13 a_Workshop_do_all (fun vs H Q E => ∃ ws rest, vs = ws ++ rest ∧ ws.length = (["self"] : List Str).length ∧ rest.length ≤ sizeLine ∧ ∀ p, H p = Option.none → spAll (Kw w) 1504 fWS (ws ++ [.non, V.ref p]) (upd H p (.tup rest)) Q E) := by
  obtain ⟨oc, od, kV, doc, pm, an, cdv, ct, osl, efd, lk, hcd⟩ := (F_Workshop_do_all w.params).ex
  obtain rfl : kV = .ref 1374 := (congrArg FuncData.kwdefaults efd).symm
  refine fn_starKO (D := 1374) (kn := "watch") (pv := "deeds") (kval := .none) (kv := .non) rfl (by kernel_rfl) (efd ▸ lk) hcd sc_Workshop_do_all Ed.cxUpN (fun us rest hl => ?_) (fun A outer s H vs Q E hr h => ?_)
  · match us, hl with
    | [u], _ =>
      cases rest with
      | nil =>
        exact ⟨_, _, _, _, _, _, rfl, by rfl, by rfl⟩
      | cons r rs =>
        exact ⟨_, _, _, _, _, _, rfl, by rfl, by rfl⟩
  · have h := h
    refine ⟨_, (pss_cons (ps_expr (pe_meth0 (pv 0) cls_SiteWorkshop mt_SiteWorkshop_check_idle (ok_Workshop_check_idle W) (hr.mono (by decide)) (b_Workshop_check_idle _) .nil pass0 ))
    (pss_cons (ps_for (passes_of rfl) rfl (pi_enumT rfl (n_enumerate W) (pa_cons (pv 2) pa_nil)) (pg_tup rfl (pgs_cons (pg_name (i := 3) sc_Workshop_do_all.nd rfl (Or.inl rfl)) (pgs_cons (pg_name (i := 4) sc_Workshop_do_all.nd rfl (Or.inl rfl)) pgs_nil)))
    (pss_one (ps_if (pt_not (pt_val (pe_meth (pv 0) cls_SiteWorkshop mt_SiteWorkshop_is_deed (ok_SiteWorkshop_is_deed W) (hr.mono (by decide)) (b_SiteWorkshop_is_deed _) .nil pass0 (pa_cons (pv 4) pa_nil)))) (pss_one (ps_raiseAN (k := 1) rfl (xt_InvalidDeed W) (hr.mono (by decide)) (L2N.takes_of rfl rfl rfl rfl) (pa_cons (pv 3) pa_nil))) pss_nil)))
    (pss_cons (ps_par3 (i := 5) (j := 6) (l := 7) rfl sc_Workshop_do_all.nd rfl rfl rfl (by decide) (by decide) (by decide) rfl rfl rfl (pa_cons (pe_fld (pv 0) rfl) (pa_cons (pe_fld (pv 0) rfl) (pa_cons (pe_fld (pv 0) rfl) pa_nil))) rfl)
    (pss_cons (ps_par3 (i := 8) (j := 9) (l := 10) rfl sc_Workshop_do_all.nd rfl rfl rfl (by decide) (by decide) (by decide) rfl rfl rfl (pa_cons (pe_fld (pv 0) rfl) (pa_cons (pe_fld (pv 0) rfl) (pa_cons pe_bl pa_nil))) rfl)
    (pss_cons (ps_fld (pv 0) pe_bl rfl)
    (pss_one (ps_finN rfl rfl rfl (L2N.takes_of rfl rfl rfl rfl) (fun W_ pn_ xe_ tk_ ho_ => (pss_cons (ps_for ho_ rfl (pi_enumTK (K := Kw w) rfl rfl (n_enumerate W) (pa_cons (pv 2) pa_nil)) (pg_tupK (K := Kw w) (n := 2) rfl rfl (pgs_cons (pg_name (i := 3) sc_Workshop_do_all.nd rfl (Or.inl rfl)) (pgs_cons (pg_name (i := 4) sc_Workshop_do_all.nd rfl (Or.inl rfl)) pgs_nil)))
    (pss_cons (ps_expr (pe_methSt (E := fun σ => WE W_ σ) (pv 0) cls_SiteWorkshop mt_SiteWorkshop_done (ok_SiteWorkshop_done W) (hr.mono (by decide)) (b_SiteWorkshop_done _) (fun σ => L2N.passAt tk_ σ) (pa_cons (pv 4) pa_nil)))
    (pss_one (ps_if (pt_cmp (pc_notN (pv 1))) pss_never pss_nil))))
    (pss_one (ps_set (i := 10) sc_Workshop_do_all.nd rfl (Or.inl rfl) pe_non)))) (pss_cons (ps_fldK (K := Kw w) rfl (pv 0) pe_bl rfl)
    (pss_one (ps_if (pt_cmp (pc_notN (pv 10))) (pss_cons (ps_asg (pe_tup (pa_cons (pv 5) (pa_cons (pv 6) (pa_cons (pv 7) pa_nil)))) (pg_tupK (K := Kw w) (n := 3) rfl rfl (pgs_cons (pg_fldK (K := Kw w) rfl (pv 0)) (pgs_cons (pg_fldK (K := Kw w) rfl (pv 0)) (pgs_cons (pg_fldK (K := Kw w) rfl (pv 0)) pgs_nil)))))
    (pss_one (ps_asg (pe_tup (pa_cons (pv 8) (pa_cons (pv 9) pa_nil))) (pg_tupK (K := Kw w) (n := 2) rfl rfl (pgs_cons (pg_fldK (K := Kw w) rfl (pv 0)) (pgs_cons (pg_fldK (K := Kw w) rfl (pv 0)) pgs_nil)))))) pss_nil))) (fun a_ pn_ hot_ => (pss_cons (ps_fldK (K := Kw w) rfl (pv 0) pe_bl rfl)
    (pss_one (ps_if (pt_cmp (pc_notN (pv 10))) (pss_cons (ps_asg (pe_tup (pa_cons (pv 5) (pa_cons (pv 6) (pa_cons (pv 7) pa_nil)))) (pg_tupHK (K := Kw w) (n := 3) rfl hot_ (pgs_cons (pg_fldK (K := Kw w) rfl (pv 0)) (pgs_cons (pg_fldK (K := Kw w) rfl (pv 0)) (pgs_cons (pg_fldK (K := Kw w) rfl (pv 0)) pgs_nil)))))
    (pss_one (ps_asg (pe_tup (pa_cons (pv 8) (pa_cons (pv 9) pa_nil))) (pg_tupHK (K := Kw w) (n := 2) rfl hot_ (pgs_cons (pg_fldK (K := Kw w) rfl (pv 0)) (pgs_cons (pg_fldK (K := Kw w) rfl (pv 0)) pgs_nil)))))) pss_nil))))))))))), ?_⟩
    obtain ⟨x, p, rest, ks, ts, d, n, rfl, hp, hS, ok, hno, hd, k⟩ := h
    have sc := scS (P := w.params)
    obtain ⟨dx, b, l, hh, pp, s, hx, sh⟩ := id hS
    refine ⟨_, rfl, x, dx, _, rfl, hx, rfl, x, 1504, dx, _, rfl, sc, hx, rfl, fun H1 e1 => ?_⟩
    rcases k with ⟨j, hgood, ⟨y, hy, hbad⟩, k⟩ | ⟨hgood, hn, k⟩
    · refine q_forEnV (ev_var rfl) (ex_t e1 hp) (fun i σ' H' => Ex H1 H' ∧ (∃ q r, σ' = [some (.ref x), some .non, some (.ref p), q, r, none, none, none, none, none, none]) ∧ i ≤ j) (fun H2 e2 => ⟨e2, ⟨_, _, rfl⟩, Nat.zero_le _⟩)
        (fun H0 e0 i y' σ' H' H'' hi tx pv e2 => ?_) (fun σ' H' pv => ?_)
      · obtain ⟨e3, ⟨q, r, rfl⟩, hij⟩ := pv
        have e4 := (e1.trans e3).trans e2
        rcases Nat.lt_or_eq_of_le hij with c | c
        · refine s_when (b := false) (et_not (et_B (ev_deedS (ev_var rfl) (ea_cons (ev_var rfl) ea_nil) (e4 _ _ hx) rfl ((hgood i y' c hi).ex e4)))) (fun z => by cases z) fun _ H2 e5 => ?_
          exact ⟨(tx.trans (Tx.of e2)).trans (Tx.of e5), (e3.trans e2).trans e5, ⟨_, _, rfl⟩, c⟩
        · subst c
          rw [hy] at hi
          cases hi
          refine s_when (b := true) (et_not (et_B (ev_deedS (ev_var rfl) (ea_cons (ev_var rfl) ea_nil) (e4 _ _ hx) rfl (hbad.ex e4)))) (fun _ H2 e5 => ?_) fun z => by cases z
          exact s_raiseA (ea_cons (ev_var rfl) ea_nil) fun dd H3 e6 hdd => k dd H3 ((e4.trans e5).trans e6) hdd
      · obtain ⟨e3, ⟨q, r, rfl⟩, hij⟩ := pv
        have := (List.getElem?_eq_some_iff.mp hy).1
        omega
    · refine q_forEnV (ev_var rfl) (ex_t e1 hp) (fun i σ' H' => Ex H1 H' ∧ (∃ q r, σ' = [some (.ref x), some .non, some (.ref p), q, r, none, none, none, none, none, none])) (fun H2 e2 => ⟨e2, ⟨_, _, rfl⟩⟩)
        (fun H0 e0 i y' σ' H' H'' hi tx pv e2 => ?_) (fun σ' H' pv => ?_)
      · obtain ⟨e3, ⟨q, r, rfl⟩⟩ := pv
        have e4 := (e1.trans e3).trans e2
        refine s_when (b := false) (et_not (et_B (ev_deedS (ev_var rfl) (ea_cons (ev_var rfl) ea_nil) (e4 _ _ hx) rfl ((hgood y' (List.mem_of_getElem? hi)).1.ex e4)))) (fun z => by cases z) fun _ H2 e5 => ?_
        exact ⟨(tx.trans (Tx.of e2)).trans (Tx.of e5), (e3.trans e2).trans e5, ⟨_, _, rfl⟩⟩
      obtain ⟨e3, ⟨q, r, rfl⟩⟩ := pv
      have e4 := e1.trans e3
      refine q_par3 (ea_cons (ev_fld (ev_var rfl) (e4 _ _ hx) sc.cls sc.book rfl) (ea_cons (ev_fld (ev_var rfl) (e4 _ _ hx) sc.cls sc.log rfl) (ea_cons (ev_fld (ev_var rfl) (e4 _ _ hx) sc.cls sc.held rfl) ea_nil))) fun H2 e5 => ?_
      have e6 := e4.trans e5
      refine q_par3 (ea_cons (ev_fld (ev_var rfl) (e6 _ _ hx) sc.cls sc.past rfl) (ea_cons (ev_fld (ev_var rfl) (e6 _ _ hx) sc.cls sc.sites rfl) (ea_cons ev_c ea_nil))) fun H3 e7 => ?_
      have e8 := e6.trans e7
      refine q_fld (v := .bl true) ev_c (ev_var rfl) (e8 _ _ hx) sc.cls sc.busy (show (6 : Nat) < 1000 by decide) fun H4 e9 hx4 => ?_
      have k5 := (Kp.of (x := x) (e8.trans e9)).trans (Kp.upd (u := .ins 1504 dx (fS' (.ref b) l hh pp s true)) hx4)
      have hS5 : ShopAt (Kw w) 1504 (upd H4 x (.ins 1504 dx (fS' (.ref b) l hh pp s true))) x ks ts d true n := ⟨dx, b, l, hh, pp, s, upd_same, sh.kp hd k5⟩
      have hp5 : SqT (Kw w) (upd H4 x (.ins 1504 dx (fS' (.ref b) l hh pp s true))) p rest := tx_t k5.tx hp
      show tFinN _ _ _ _ _ _ (upd H4 x (.ins 1504 dx (fS' (.ref b) l hh pp s true)))
      generalize hG : upd H4 x (.ins 1504 dx (fS' (.ref b) l hh pp s true)) = H5 at k5 hS5 hp5
      clear hG
      refine q_forEnV (ev_var rfl) hp5 (fun i σ' H' => Kp x H5 H' ∧ ShopAt (Kw w) 1504 H' x ks ts d true (n + i) ∧ n + i ≤ 100 ∧ (∃ q r, σ' = [some (.ref x), some .non, some (.ref p), q, r, some (.ref b), some l, some hh, some pp, some s, some (.bl true)]))
        (fun H6 e10 => ⟨.of e10, hS5.ex hd e10, by omega, ⟨_, _, rfl⟩⟩) (fun H0 e0 i y' σ' H' H'' hi tx pv e11 => ?_) (fun σ' H' pv => ?_)
      · obtain ⟨k6, hS6, h100, q', r', rfl⟩ := pv
        obtain ⟨dx6, b6, l6, h6, p6, s6, hx6, sh6⟩ := id hS6
        have hyd := hgood y' (List.mem_of_getElem? hi)
        have hlt := (List.getElem?_eq_some_iff.mp hi).1
        have k7 := (k5.trans k6).trans (.of e11)
        have hdx : dx6 = dx := by
          obtain ⟨fs', h'⟩ := k7.ins _ _ _ hx
          rw [e11 _ _ hx6] at h'
          cases h'
          rfl
        subst hdx
        refine ⟨_, rfl, x, dx6, _, rfl, e11 _ _ hx6, rfl, _, rfl, x, y', true, ks, ts, d, n + i, rfl, hS6.ex hd e11, ok, hno, hd, ?_⟩
        by_cases hfull : n + i = 100
        · refine .inl ⟨hfull, fun dd H7 e12 hdd => ?_⟩
          rcases k with ⟨h1, _⟩ | ⟨_, k⟩
          · omega
          have hx7 := e12 _ _ (e11 _ _ hx6)
          have k8 := k7.trans (.of e12)
          refine q_fld (v := .bl false) ev_c (ev_var rfl) hx7 sc.cls sc.busy (show (6 : Nat) < 1000 by decide) fun H8 e13 hx8 => ?_
          have k9 := (Kp.of (x := x) e13).trans (Kp.upd (u := .ins 1504 dx6 (fS' (.ref b6) l6 h6 p6 s6 false)) hx8)
          refine s_when (b := true) (et_is (et_B (ev_notN (ev_var rfl))) rfl) (fun _ H9 e14 => ?_) fun z => by cases z
          have hx9 : H9 x = some (.ins 1504 dx6 (fS' (.ref b6) l6 h6 p6 s6 false)) := e14 _ _ upd_same
          refine s_asgT (eu_tup (ea_cons (ev_var rfl) (ea_cons (ev_var rfl) (ea_cons (ev_var rfl) ea_nil))) (by simp)) fun t H10 e15 ht10 => ?_
          have hx10 := e15 _ _ hx9
          have k10 := k9.trans ((Kp.of e14).trans (.of e15))
          refine ⟨t, _, rfl, SqT.of ht10, rfl, .ref b, [l, hh], rfl, .ref x, rfl, x, 1504, dx6, _, rfl, hx10, sc.cls, sc.book, (show (6 : Nat) < 1000 by decide), ?_⟩
          refine ⟨l, [hh], rfl, .ref x, rfl, x, 1504, dx6, _, rfl, upd_same, sc.cls, sc.log, (show (6 : Nat) < 1000 by decide), ?_⟩
          refine ⟨hh, [], rfl, .ref x, rfl, x, 1504, dx6, _, rfl, upd_same, sc.cls, sc.held, (show (6 : Nat) < 1000 by decide), rfl, ?_⟩
          have k11 := ((k10.trans (Kp.upd (u := .ins 1504 dx6 (fS' (.ref b) l6 h6 p6 s6 false)) hx10)).trans (Kp.upd (u := .ins 1504 dx6 (fS' (.ref b) l h6 p6 s6 false)) upd_same)).trans (Kp.upd (u := .ins 1504 dx6 (fS' (.ref b) l hh p6 s6 false)) upd_same)
          refine s_asgT (eu_tup (ea_cons (ev_var rfl) (ea_cons (ev_var rfl) ea_nil)) (by simp)) fun t2 H12 e16 ht12 => ?_
          have hx12 := e16 x _ upd_same
          refine ⟨t2, _, rfl, SqT.of ht12, rfl, pp, [s], rfl, .ref x, rfl, x, 1504, dx6, _, rfl, hx12, sc.cls, sc.past, (show (6 : Nat) < 1000 by decide), ?_⟩
          refine ⟨s, [], rfl, .ref x, rfl, x, 1504, dx6, _, rfl, upd_same, sc.cls, sc.sites, (show (6 : Nat) < 1000 by decide), rfl, ?_⟩
          have k13 := ((k11.trans (.of e16)).trans (Kp.upd (u := .ins 1504 dx6 (fS' (.ref b) l hh pp s6 false)) hx12)).trans (Kp.upd (u := .ins 1504 dx6 (fS' (.ref b) l hh pp s false)) upd_same)
          refine k dd _ ((k8.trans k13).ex fun o ho => ?_) (k13.at_ hdd fun z => ?_)
          · rw [hx] at ho
            cases ho
            exact upd_same
          · subst z
            rw [hdd] at hx7
            cases hx7
        · refine .inr (.inl ⟨by omega, ?_⟩)
          obtain ⟨_, t, ht, rfl, hy'⟩ := hyd
          refine ⟨t, ht, rfl, (hy'.tx (imm_putD t) k7.tx), fun H7 k8 hS7 => ?_⟩
          refine s_when (b := false) (et_is (et_B (ev_notN (ev_var rfl))) rfl) (fun z => by cases z) fun _ H8 e12 => ?_
          exact ⟨((tx.trans (Tx.of e11)).trans k8.tx).trans (Tx.of e12), ((k6.trans (.of e11)).trans k8).trans (.of e12), hS7.ex hd e12, by omega, _, _, rfl⟩
      · obtain ⟨k6, hS6, h100, q', r', rfl⟩ := pv
        refine s_asg (v := .non) ev_c fun H7 e12 => ?_
        obtain ⟨dx6, b6, l6, h6, p6, s6, hx6, sh6⟩ := hS6.ex hd e12
        refine q_fld (v := .bl false) ev_c (ev_var rfl) hx6 sc.cls sc.busy (show (6 : Nat) < 1000 by decide) fun H8 e13 hx8 => ?_
        have k9 := (Kp.of (x := x) e13).trans (Kp.upd (u := .ins 1504 dx6 (fS' (.ref b6) l6 h6 p6 s6 false)) hx8)
        refine s_when (b := false) (et_is (et_B (ev_notN (ev_var rfl))) rfl) (fun z => by cases z) fun _ H9 e14 => ?_
        have k10 := ((k5.trans k6).trans (.of e12)).trans (k9.trans (.of e14))
        rcases k with ⟨_, k⟩ | ⟨h1, _⟩
        · exact k _ k10 ⟨dx6, b6, l6, h6, p6, s6, e14 _ _ upd_same, sh6.kp hd (k9.trans (.of e14))⟩
        · omega
end
end K76
set_option maxHeartbeats 4000000
namespace Ed
open PySem L2 Evl
section
variable {K : PySem.W.Frag} {σ : L2.St} {H : Hp} {te : TE} {ta : TA} {j n : Nat} {vs : List Nat}
/-- [e for k in range(n)] of data -/
theorem eld_lcR (d : Nat → PyData) (hi : ∀ i, immD (d i) = true) (h : EvA ta σ H [.int (n : Int)]) (hz : n ≤ 40000) (hw : ∀ x, wipe ((wipe σ vs).set j (some x)) vs = wipe σ vs)
    (he : ∀ i H1, i < n → Ex H H1 → EvD K te ((wipe σ vs).set j (some (.int (i : Int)))) H1 (d i)) : EvLD K (tLc (iRng1 ta) (gName j) tYes te vs) σ H ((List.range n).map d) := fun H0 e Q q => h H0 e _ fun H1 e1 => by
  refine ⟨(n : Int), rfl, by omega, by omega, fun Dl hD => ?_⟩
  refine lcD_core (K := K) (Yv := fun i x => x = .int ((0 : Int) + (i : Int))) (G := fun _ => True) walk_range (fun _ _ => trivial) hz (fun _ => true) d hi hw (fun i x _ _ => et_yes) (fun i x hlt y _ => ?_) hD fun ys H2 e2 h2 hd => ?_
  · rw [y, Int.zero_add]
    exact he i H1 hlt (e.trans e1)
  · have e0 : givenD n (fun _ => true) d = (List.range n).map d := by
      unfold givenD
      rw [List.filter_eq_self.mpr (fun _ _ => rfl)]
    rw [e0] at hd
    exact q Dl ys H2 (fresh_back e1 hD) (e1.trans e2) h2 hd
end
end Ed
namespace K76
open PySem PySem.W PySem.Calls PyProof.Rows L2 Evl Ed
/-! ### rows that fill their kinds -/
theorem fstep_mono {f : List Str} {t : Tmp} {x : Str} (h : x ∈ f) : x ∈ fstep f t := by
  unfold fstep
  split
  · exact List.mem_append_left _ h
  · exact h
theorem fold_mono : ∀ (ts : List Tmp) {f : List Str} {x : Str}, x ∈ f → x ∈ ts.foldl fstep f
  | [], _, _, h => h
  | t :: ts, f, x, h => by
    rw [List.foldl_cons]
    exact fold_mono ts (fstep_mono h)
theorem fold_has : ∀ (ts : List Tmp) {f : List Str} {t : Tmp}, t ∈ ts → (∀ s ∈ t.slots, s.k ∈ f) → t.kind ∈ ts.foldl fstep f
  | t0 :: ts, f, t, h, hs => by
    rw [List.foldl_cons]
    rcases List.mem_cons.mp h with rfl | h
    · refine fold_mono ts ?_
      by_cases hk : t.kind ∈ f
      · exact fstep_mono hk
      · rw [fstep_yes]
        · exact List.mem_append_right _ (List.mem_singleton.mpr rfl)
        · unfold fopen
          rw [Bool.and_eq_true, List.all_eq_true]
          exact ⟨by simp [hk], fun s h' => decide_eq_true (hs s h')⟩
    · exact fold_has ts h fun s h' => fstep_mono (hs s h')
theorem filled_of {ks : List (Str × Int)} {ts : List Tmp} (h : ∀ (i : Nat) (k : Str × Int), ks[i]? = some k → ∃ t ∈ ts, t.kind = k.1 ∧ ∀ s ∈ t.slots, ∃ (j : Nat) (kj : Str × Int), i < j ∧ ks[j]? = some kj ∧ s.k = kj.1) : Filled ks ts := by
  have key : ∀ n, n ≤ ks.length → ∀ (i : Nat) (k : Str × Int), ks.length - n ≤ i → ks[i]? = some k → k.1 ∈ fill ts n := by
    intro n
    induction n with
    | zero =>
      intro _ i k hi hk
      have := (List.getElem?_eq_some_iff.mp hk).1
      omega
    | succ n ih =>
      intro hn i k hi hk
      obtain ⟨t, ht, hkt, hs⟩ := h i k hk
      rw [← hkt]
      refine fold_has ts ht fun s h' => ?_
      obtain ⟨j, kj, hj, hkj, e⟩ := hs s h'
      rw [e]
      exact ih (by omega) j kj (by omega) hkj
  intro k hk
  obtain ⟨i, hi, rfl⟩ := List.getElem_of_mem hk
  exact key ks.length (Nat.le_refl _) i _ (by omega) (List.getElem?_eq_getElem hi)
structure RowOk (ks : List (Str × Int)) (nms : List Str) (j : Nat) (t : Tmp) : Prop where
  ok : OkT ks t
  nm : some t.name = nms[j]?
  below : j < ks.length → some t.kind = ks[j]?.map (·.1) ∧ ∀ s ∈ t.slots, ∃ j' kj, j < j' ∧ ks[j']? = some kj ∧ s.k = kj.1
def RowsOk (ks : List (Str × Int)) (nms : List Str) (Rs : List Tmp) : Prop := ∀ j t, Rs[j]? = some t → RowOk ks nms j t
theorem RowsOk.step {ks : List (Str × Int)} {nms : List Str} {Rs : List Tmp} {t : Tmp} (h : RowsOk ks nms Rs) (ht : RowOk ks nms Rs.length t) : RowsOk ks nms (Rs ++ [t]) := fun j t' e => by
  rcases Nat.lt_or_ge j Rs.length with c | c
  · rw [List.getElem?_append_left c] at e
    exact h j t' e
  · rw [List.getElem?_append_right c] at e
    have e0 : j - Rs.length = 0 := by
      have := (List.getElem?_eq_some_iff.mp e).1
      simp at this
      omega
    rw [e0] at e
    cases e
    have : j = Rs.length := by omega
    rw [this]
    exact ht
/-- the slots of a row of kinds that come later -/
theorem below_of {ks : List (Str × Int)} {t : Tmp} {bl : List Nat} {j : Nat} (h : t.slots.map (fun s => some s.k) = bl.map (fun k => ks[k]?.map (·.1))) (hb : ∀ k ∈ bl, j < k) : ∀ s ∈ t.slots, ∃ j' kj, j < j' ∧ ks[j']? = some kj ∧ s.k = kj.1 := fun s hs => by
  have h1 : some s.k ∈ t.slots.map (fun s => some s.k) := List.mem_map.mpr ⟨s, hs, rfl⟩
  rw [h] at h1
  obtain ⟨k, hk, e⟩ := List.mem_map.mp h1
  obtain ⟨kj, h2, h3⟩ := Option.map_eq_some_iff.mp e
  exact ⟨k, kj, hb k hk, h2, h3.symm⟩
theorem rows_end {ks : List (Str × Int)} {nms : List Str} {Rs : List Tmp} (okk : OkK ks) (hn : nms.Nodup) (hn4 : ∀ s ∈ nms, Nm4 s) (h : RowsOk ks nms Rs) (h1 : ks.length ≤ Rs.length) (h2 : Rs.length ≤ 8) (at_ : Nat) : OkB ks (Rs.drop at_ ++ Rs.take at_) ∧ NoS (Rs.drop at_ ++ Rs.take at_) := by
  have hm : ∀ t, t ∈ Rs.drop at_ ++ Rs.take at_ ↔ t ∈ Rs := fun t => by
    rw [List.mem_append]
    constructor
    · rintro (h | h)
      · exact List.mem_of_mem_drop h
      · exact List.mem_of_mem_take h
    · intro h
      rw [← List.take_append_drop at_ Rs] at h
      rcases List.mem_append.mp h with h | h
      · exact .inr h
      · exact .inl h
  have hat : ∀ t ∈ Rs, ∃ j, RowOk ks nms j t := fun t ht => by
    obtain ⟨j, hj, rfl⟩ := List.getElem_of_mem ht
    exact ⟨j, h j _ (List.getElem?_eq_getElem hj)⟩
  have hnames : Rs.map (·.name) = nms.take Rs.length := by
    apply List.ext_getElem?
    intro i
    rw [List.getElem?_map, List.getElem?_take]
    by_cases hi : i < Rs.length
    · have e := List.getElem?_eq_getElem hi
      rw [e, if_pos hi]
      exact (h i _ e).nm
    · rw [List.getElem?_eq_none (by omega), if_neg hi] <;> rfl
  have hnd : (Rs.map (·.name)).Nodup := by
    rw [hnames]
    exact hn.sublist (List.take_sublist _ _)
  refine ⟨⟨okk, ⟨?_, ?_, fun t ht => ?_, ?_⟩, filled_of fun i k hk => ?_⟩, fun t ht => ?_⟩
  · rw [List.length_append, List.length_drop, List.length_take]
    have := okk.lo
    omega
  · rw [List.length_append, List.length_drop, List.length_take]
    omega
  · obtain ⟨j, r⟩ := hat t ((hm t).mp ht)
    exact r.ok
  · rw [List.map_append]
    have e : (Rs.map (·.name)).Perm ((Rs.drop at_).map (·.name) ++ (Rs.take at_).map (·.name)) := by
      rw [← List.map_append]
      refine List.Perm.map _ ?_
      have h3 := List.perm_append_comm (l₁ := Rs.take at_) (l₂ := Rs.drop at_)
      rw [List.take_append_drop] at h3
      exact h3
    exact e.nodup_iff.mp hnd
  · have hi := (List.getElem?_eq_some_iff.mp hk).1
    have e := List.getElem?_eq_getElem (show i < Rs.length by omega)
    obtain ⟨b1, b2⟩ := (h i _ e).below hi
    rw [hk] at b1
    exact ⟨_, (hm _).mpr (List.getElem_mem _), Option.some.inj b1, b2⟩
  · obtain ⟨j, r⟩ := hat t ((hm t).mp ht)
    have hmem : t.name ∈ nms := List.mem_of_getElem? r.nm.symm
    have h4 := (hn4 _ hmem).2
    intro z
    rw [z] at h4
    exact absurd h4 (by decide)
section
variable {K : PySem.W.Frag} {σ : L2.St} {H : Hp} {E : XK} {D : Ends} {tp tm tn ta : TE} {p : Addr} {n : Nat}
theorem names_at {Q : VK} {m : Nat} (hp : Ev tp σ H (.ref p)) (hm : Ev tm σ H (.int (m : Int))) (h : PoolAt H p n) (hn : n ≤ 90000) (h26 : m ≤ 26)
    (k : ∀ l (ss : List Str) H', H l = none → Kl p H H' → PoolAt H' p (n + 8) → H' l = some (.lst (ss.map V.str)) → ss.length = m → ss.Nodup → (∀ s ∈ ss, Nm4 s) → Q (.ref l) H') : tCall spNames [] E (tCons tp (tCons tm tNil)) σ H Q :=
  hp H (Ex.refl H) _ fun H1 e1 => hm H1 e1 _ fun H2 e2 => ⟨p, m, n, rfl, h.ex (e1.trans e2), hn, h26, fun l ss H' hl kl po => k l ss H' (fresh_back (e1.trans e2) hl) ((Kl.of (e1.trans e2)).trans kl) po⟩
/-- rows.append(_law_template(pool, kinds, words, name, at, below)) -/
theorem row_step {lk lw lr lb : Addr} {ks : List (Str × Int)} {kv ys : List V} {ws : List Str} {bl : List Nat} {nm : Str} {Pa : Nat → Prop} (s0 : σ[0]? = some (some (.ref p))) (s7 : σ[7]? = some (some (.ref lk))) (s4 : σ[4]? = some (some (.ref lw))) (s8 : σ[8]? = some (some (.ref lr))) (s9 : σ[9]? = some (some (.ref lb)))
    (hn : Ev tn σ H (.str nm)) (hnm : Nm nm) (po : PoolAt H p n) (hn8 : n ≤ 70000) (hk : H lk = some (.lst kv)) (hkv : DpAll K H kv (ks.map kD)) (okk : OkK ks) (hg2 : ∀ k ∈ ks, k.2 ≤ 2) (hw : H lw = some (.lst (ws.map V.str))) (hwl : ws.length = 4) (hws : ∀ x ∈ ws, Nm x)
    (hb : H lb = some (.lst (bl.map fun n : Nat => V.int (n : Int)))) (hbl : bl.length ≤ 2) (hblk : ∀ k ∈ bl, k < ks.length) (hr : H lr = some (.lst ys)) (hys : ys.length < 1000) (nk : lk ≠ p) (nw : lw ≠ p) (nb : lb ≠ p) (nr : lr ≠ p)
    (hta : ∀ H0, Ex H H0 → ∀ Q : VK, (∀ (a : Nat) H1, a < ks.length → Pa a → Kl p H0 H1 → PoolAt H1 p (n + 1) → Q (.int (a : Int)) H1) → ta σ H0 Q)
    (k : ∀ (a : Nat) v (t : Tmp) H', Pa a → Kl p H H' → H' lr = some (.lst ys) → PoolAt H' p (n + 41) → Dp K H' v (tD t) → OkT ks t → t.name = nm → some t.kind = ks[a]?.map (·.1) → t.slots.map (fun s => some s.k) = bl.map (fun k => ks[k]?.map (·.1)) → D.nx σ (upd H' lr (.lst (ys ++ [v])))) :
    tDrop (tBM K "list" rAppend (tVar 8) (tCons (tCall (spTmpl K) [] E (tCons (tVar 0) (tCons (tVar 7) (tCons (tVar 4) (tCons tn (tCons ta (tCons (tVar 9) tNil))))))) tNil)) D σ H := by
  refine s_appW s8 hr ?_
  refine callW (consW (varW s0 (consW (varW s7 (consW (varW s4 (consW (evW hn fun H1 e1 => consW (hta H1 e1 _ fun a H2 ha pa k2 po2 => ?_)))))))))
  refine consW (varW s9 (nilW ?_))
  have k02 : Kl p H H2 := (Kl.of e1).trans k2
  refine ⟨p, lk, lw, lb, nm, a, n + 1, ks, kv, ws, bl, rfl, po2, by omega, k02.at_ hk nk, hkv.tx (imm_ksD ks) k02.tx, okk, hg2, k02.at_ hw nw, hwl, hws, hnm, ha, k02.at_ hb nb, hbl, hblk, nk, nw, nb, fun v t H3 k3 po3 hv ok h1 h2 h3 => ?_⟩
  have k03 := k02.trans k3
  exact appE (k03.at_ hr nr) (by omega) (k a v t H3 pa k03 (k03.at_ hr nr) (po3.mono (by omega)) hv ok h1 h2 h3)
end
theorem cut_drop (xs : List V) {j : Nat} (h : j ≤ xs.length) : cutV xs (some (j : Int)) none = xs.drop j := by
  unfold cutV
  rw [HT.sIx_nat, HT.sIx_none, Nat.min_eq_left h, List.take_of_length_le (by rw [List.length_drop]; omega)]
theorem cut_take (xs : List V) {j : Nat} (h : j ≤ xs.length) : cutV xs none (some (j : Int)) = xs.take j := by
  unfold cutV
  rw [HT.sIx_nat, HT.sIx_none, Nat.min_eq_left h, List.drop_zero, Nat.sub_zero]
theorem dpAll_drop {K : PySem.W.Frag} {H : Hp} {xs : List V} {ds : List PyData} (h : DpAll K H xs ds) (n : Nat) : DpAll K H (xs.drop n) (ds.drop n) := by
  induction n generalizing xs ds with
  | zero => exact h
  | succ n ih =>
    cases h with
    | nil => exact .nil
    | cons a b => exact ih b
theorem dpAll_take {K : PySem.W.Frag} {H : Hp} {xs : List V} {ds : List PyData} (h : DpAll K H xs ds) (n : Nat) : DpAll K H (xs.take n) (ds.take n) := by
  induction n generalizing xs ds with
  | zero => exact .nil
  | succ n ih =>
    cases h with
    | nil => exact .nil
    | cons a b => exact .cons a (ih b)
/-- a slice of a list of data, tracked -/
theorem eld_slD {K : PySem.W.Frag} {σ : L2.St} {H : Hp} {te : TE} {tl th : TO} {a : Addr} {xs : List V} {ds : List PyData} {lo hi : Option Int} (h : Ev te σ H (.ref a)) (h1 : EvO tl σ H lo) (h2 : EvO th σ H hi) (hs : SqL K H a xs) (hd : DpAll K H (cutV xs lo hi) ds) : EvLD K (tSl (rSlL K) te tl th) σ H ds := fun H1 e Q q =>
  el_sl h h1 h2 hs H1 e _ fun l H2 hl e2 h2 => q l _ H2 hl e2 h2 ((hd.ex e).ex e2)
theorem ints_of {ys : List V} {M : Nat} (h : ∀ (i : Nat) y, ys[i]? = some y → ∃ c : Nat, y = .int (c : Int) ∧ c < M) : ∃ bl : List Nat, ys = bl.map (fun n : Nat => V.int (n : Int)) ∧ ∀ c ∈ bl, c < M := by
  induction ys with
  | nil => exact ⟨[], rfl, fun c hc => by cases hc⟩
  | cons y ys ih =>
    obtain ⟨c, rfl, hc⟩ := h 0 y rfl
    obtain ⟨cs, rfl, hcs⟩ := ih fun i z hz => h (i + 1) z (by simpa using hz)
    exact ⟨c :: cs, rfl, fun d hd => by
      rcases List.mem_cons.mp hd with rfl | hd
      · exact hc
      · exact hcs d hd⟩
section
variable {w : World} {mg : Str → Option Value} {base : Heap}
/-! ### _law_book -/
theorem sc__law_book : FnScope ["_law_pool_here", "_law_many", "_law_that", "_law_titles", "_law_words", "_law_names_here", "_law_k", "_law_kinds", "_law_rows", "_law_below", "_law_turn", "_law_at"] ["_law_pool_here"] (defScope s__law_book) := ⟨rfl, rfl, rfl, by decide +kernel, rfl, by decide +kernel, by decide +kernel⟩
def spBook (K : PySem.W.Frag) : Sp := fun vs H Q _ => ∃ (p : Addr) (n : Nat), vs = [.ref p] ∧ PoolAt H p n ∧ n ≤ 10000 ∧
  ∀ l kt rt wl (ks : List (Str × Int)) (ts : List Tmp) H', Kl p H H' → PoolAt H' p (n + 1000) → l ≠ p → H l = none → H' l = some (.lst [kt, rt, wl]) → Dp K H' kt (ksD ks) → Dp K H' rt (tsD ts) → OkB ks ts → NoS ts → Q (.ref l) H'
theorem ok__law_book (W : Wd w.params mg) : Ok w mg base CX0 4 a__law_book fd__law_book ["_law_pool_here"] (spBook (Kw w)) := by
  refine (F__law_book w.params).ok sc__law_book (fun vs H Q E h => ?_) (fun cdv A outer s H vs Q E hr h => ?_)
  · obtain ⟨p, n, rfl, _⟩ := h
    rfl
  · obtain ⟨p, n, rfl, po, hn, k⟩ := h
    refine ⟨_, (pss_cons (ps_set (i := 1) sc__law_book.nd rfl (Or.inr rfl) (pe_op op_add pe_int (pe_call (ok__law_draw W) (hr.mono (by decide)) rfl (g__law_draw W) (F__law_draw _).kp (b__law_draw _) .nil pass0 (pa_cons (pv 0) (pa_cons pe_int pa_nil)))))
    (pss_cons (ps_set (i := 2) sc__law_book.nd rfl (Or.inr rfl) (pe_call (ok__law_draw W) (hr.mono (by decide)) rfl (g__law_draw W) (F__law_draw _).kp (b__law_draw _) .nil pass0 (pa_cons (pv 0) (pa_cons (pe_op op_mulW pe_int (pv 1)) pa_nil))))
    (pss_cons (ps_asg (pe_tup (pa_cons (pe_call (ok__law_names W) (hr.mono (by decide)) rfl (g__law_names W) (F__law_names _).kp (b__law_names _) .nil pass0 (pa_cons (pv 0) (pa_cons (pv 1) pa_nil))) (pa_cons (pe_call (ok__law_names W) (hr.mono (by decide)) rfl (g__law_names W) (F__law_names _).kp (b__law_names _) .nil pass0 (pa_cons (pv 0) (pa_cons pe_int pa_nil))) pa_nil))) (pg_tup rfl (pgs_cons (pg_name (i := 3) sc__law_book.nd rfl (Or.inr rfl)) (pgs_cons (pg_name (i := 4) sc__law_book.nd rfl (Or.inl rfl)) pgs_nil))))
    (pss_cons (ps_par (i := 4) (j := 5) rfl sc__law_book.nd rfl rfl (by decide) rfl rfl (pa_cons (pe_op op_cat (pv 4) (pe_call (ok__law_names W) (hr.mono (by decide)) rfl (g__law_names W) (F__law_names _).kp (b__law_names _) .nil pass0 (pa_cons (pv 0) (pa_cons pe_int pa_nil)))) (pa_cons (pe_call (ok__law_names W) (hr.mono (by decide)) rfl (g__law_names W) (F__law_names _).kp (b__law_names _) .nil pass0 (pa_cons (pv 0) (pa_cons (pe_op op_add (pv 1) pe_int) pa_nil))) pa_nil)) rfl)
    (pss_cons (ps_par (i := 7) (j := 8) rfl sc__law_book.nd rfl rfl (by decide) rfl rfl (pa_cons (pe_lc (own := [("_law_k", 6)]) (g := gName 6) (tt := tYes) rfl sc__law_book.nd (pi_range1 rfl (n_range W) (pa_cons (pv 1) pa_nil)) (blkOk_by (own := [("_law_k", 6)]) (N := ["_law_pool_here", "_law_many", "_law_that", "_law_titles", "_law_words", "_law_names_here", "_law_k", "_law_kinds", "_law_rows", "_law_below", "_law_turn", "_law_at"]) (sc := defScope s__law_book) (by decide +kernel)) (fun _ _ _ _ _ => (pg_name (i := 6) sc__law_book.nd rfl (Or.inl rfl))) (fun _ _ _ _ _ => pts_nil) (fun _ _ _ _ _ => (pe_tup (pa_cons (pe_ix (ix_listK (K := Kw w) rfl) (pv 3) (pv 6) (fun _ _ => rfl)) (pa_cons (pe_ifExp (pt_cmpR op_eq (pv 6) (pv 2) (nomark _)) pe_int pe_int) pa_nil))))) (pa_cons (pe_lst pa_nil) pa_nil)) rfl)
    (pss_cons (ps_for PassesOwn.never rfl (pi_range1 rfl (n_range W) (pa_cons (pv 1) pa_nil)) (pg_name (i := 6) sc__law_book.nd rfl (Or.inl rfl))
    (pss_cons (ps_set (i := 9) sc__law_book.nd rfl (Or.inl rfl) (pe_lst pa_nil))
    (pss_cons (ps_if (PW.pt (pw_and (pt_cmpR op_lt (pv 6) (pe_op op_sub (pv 1) pe_int) (nomark _)) (pw_and1 (pt_cmpR op_gt (pe_call (ok__law_draw W) (hr.mono (by decide)) rfl (g__law_draw W) (F__law_draw _).kp (b__law_draw _) .nil pass0 (pa_cons (pv 0) (pa_cons pe_int pa_nil))) pe_int (nomark _))))) (pss_one (ps_expr (pe_bm PySem.F.plainAttrs_list PySem.F.slot_list_append PySem.F.type_list_append mt_append (pv 9) (pa_cons (pe_op op_add (pe_op op_add (pv 6) pe_int) (pe_call (ok__law_draw W) (hr.mono (by decide)) rfl (g__law_draw W) (F__law_draw _).kp (b__law_draw _) .nil pass0 (pa_cons (pv 0) (pa_cons (pe_op op_sub (pe_op op_sub (pv 1) (pv 6)) pe_int) pa_nil)))) pa_nil)))) pss_nil)
    (pss_one (ps_expr (pe_bm PySem.F.plainAttrs_list PySem.F.slot_list_append PySem.F.type_list_append mt_append (pv 8) (pa_cons (pe_call (ok__law_template W) (hr.mono (by decide)) rfl (g__law_template W) (F__law_template _).kp (b__law_template _) .nil pass0 (pa_cons (pv 0) (pa_cons (pv 7) (pa_cons (pv 4) (pa_cons (pe_ix ix_list (pv 5) (pv 6) (fun _ _ => rfl)) (pa_cons (pv 6) (pa_cons (pv 9) pa_nil))))))) pa_nil)))))))
    (pss_cons (ps_for PassesOwn.never rfl (pi_range1 rfl (n_range W) (pa_cons (pe_call (ok__law_draw W) (hr.mono (by decide)) rfl (g__law_draw W) (F__law_draw _).kp (b__law_draw _) .nil pass0 (pa_cons (pv 0) (pa_cons pe_int pa_nil))) pa_nil)) (pg_name (i := 6) sc__law_book.nd rfl (Or.inl rfl))
    (pss_cons (ps_setLc (i := 9) (own := [("_law_turn", 10)]) (g := gName 10) (tt := tYes) rfl sc__law_book.nd rfl rfl (sw_true rfl rfl rfl (by decide +kernel)) (pi_range1 rfl (n_range W) (pa_cons (pe_op op_add (pe_op op_sub pe_int (pv 6)) (pe_call (ok__law_draw W) (hr.mono (by decide)) rfl (g__law_draw W) (F__law_draw _).kp (b__law_draw _) .nil pass0 (pa_cons (pv 0) (pa_cons pe_int pa_nil)))) pa_nil)) (blkOk_by (own := [("_law_turn", 10)]) (N := ["_law_pool_here", "_law_many", "_law_that", "_law_titles", "_law_words", "_law_names_here", "_law_k", "_law_kinds", "_law_rows", "_law_below", "_law_turn", "_law_at"]) (sc := defScope s__law_book) (by decide +kernel)) (fun _ _ _ _ _ => (pg_name (i := 10) sc__law_book.nd rfl (Or.inl rfl))) (fun _ _ _ _ _ => pts_nil) (fun _ _ _ _ _ => (pe_call (ok__law_draw W) (hr.mono (by decide)) rfl (g__law_draw W) (F__law_draw _).kp (b__law_draw _) .nil pass0 (pa_cons (pv 0) (pa_cons (pv 1) pa_nil)))))
    (pss_one (ps_expr (pe_bm PySem.F.plainAttrs_list PySem.F.slot_list_append PySem.F.type_list_append mt_append (pv 8) (pa_cons (pe_call (ok__law_template W) (hr.mono (by decide)) rfl (g__law_template W) (F__law_template _).kp (b__law_template _) .nil pass0 (pa_cons (pv 0) (pa_cons (pv 7) (pa_cons (pv 4) (pa_cons (pe_ix ix_list (pv 5) (pe_op op_add (pv 1) (pv 6)) (fun _ _ => rfl)) (pa_cons (pe_call (ok__law_draw W) (hr.mono (by decide)) rfl (g__law_draw W) (F__law_draw _).kp (b__law_draw _) .nil pass0 (pa_cons (pv 0) (pa_cons (pv 1) pa_nil))) (pa_cons (pv 9) pa_nil))))))) pa_nil))))))
    (pss_cons (ps_set (i := 11) sc__law_book.nd rfl (Or.inl rfl) (pe_call (ok__law_draw W) (hr.mono (by decide)) rfl (g__law_draw W) (F__law_draw _).kp (b__law_draw _) .nil pass0 (pa_cons (pv 0) (pa_cons (pe_callB call_len_seq rfl (n_len W) boot_len (pa_cons (pv 8) pa_nil)) pa_nil))))
    (pss_one (ps_ret (pe_lst (pa_cons (pe_callTy call_tuple_of rfl (n_tuple W) boot_tuple (pa_cons (pv 7) pa_nil)) (pa_cons (pe_callTy call_tuple_of rfl (n_tuple W) boot_tuple (pa_cons (pe_op op_cat (pe_slice sl_list (pv 8) (po_some (pv 11)) po_none) (pe_slice sl_list (pv 8) po_none (po_some (pv 11)))) pa_nil)) (pa_cons (pv 4) pa_nil)))))))))))))), ?_⟩
    refine q_asgW (opW (cW ?_))
    refine draw_at (m := 3) (ev_var rfl) ev_c po (by omega) (by decide) (by decide) fun r0 H1 hr0 k1 po1 => ?_
    obtain ⟨M, hM⟩ : ∃ M : Nat, (1 : Int) + (r0 : Int) = (M : Int) := ⟨1 + r0, by omega⟩
    refine addW hM ?_
    have hM3 : 1 ≤ M ∧ M ≤ 3 := by omega
    refine q_asgW ?_
    refine draw_at (m := 2 * (M : Int)) (ev_var rfl) (ev_mulW ev_c (ev_var rfl) (by decide) (by omega)) po1 (by omega) (by omega) (by omega) fun tht H2 _ k2 po2 => ?_
    refine q_asgG (tupW (consW ?_))
    refine names_at (m := M) (ev_var rfl) (ev_var rfl) po2 (by omega) (by omega) fun lt tts H3 hlt k3 po3 ht3 htl htn ht4 => ?_
    refine consW ?_
    refine names_at (m := 2) (ev_var rfl) ev_c po3 (by omega) (by decide) fun lw0 ws0 H4 hlw0 k4 po4 hw04 hw0l _ hw0n => ?_
    refine nilW ⟨sz_of (show (2 : Nat) ≤ 100000 by decide), fun tt htt => ?_⟩
    refine ⟨tt, _, rfl, SqT.of upd_same, rfl, _, _, rfl, _, _, rfl, rfl, ?_⟩
    have e5 := Ex.new (o := .tup [.ref lt, .ref lw0]) htt
    have pne : ∀ {l : Addr} {H' : Hp} {m : Nat}, PoolAt H' p m → H' l = none → l ≠ p := fun po h z => by
      subst z
      obtain ⟨_, _, _, q, _⟩ := po
      rw [h] at q
      cases q
    have hltp := pne po2 hlt
    have hlwp := pne po3 hlw0
    have ht5 := e5 _ _ (k4.at_ ht3 hltp)
    have hw05 := e5 _ _ hw04
    have po5 := po4.ex e5
    have k05 : Kl p H (upd H4 tt (.tup [.ref lt, .ref lw0])) := (((k1.trans k2).trans k3).trans k4).trans (.of e5)
    generalize (upd H4 tt (.tup [.ref lt, .ref lw0])) = H5 at ht5 hw05 po5 k05
    refine q_parW (consW (opW (varW rfl ?_)))
    refine names_at (m := 2) (ev_var rfl) ev_c po5 (by omega) (by decide) fun lw1 ws1 H6 hlw1 k6 po6 hw16 hw1l _ hw1n => ?_
    have hw06 := k6.at_ hw05 hlwp
    refine ⟨lw0, lw1, _, _, rfl, rfl, hw06, hw16, sz_of (by rw [List.length_map, List.length_map]; omega), fun lw hlw => ?_⟩
    have e7 := Ex.new (o := .lst (ws0.map V.str ++ ws1.map V.str)) hlw
    have hw7 : (upd H6 lw (.lst (ws0.map V.str ++ ws1.map V.str))) lw = some (.lst ((ws0 ++ ws1).map V.str)) := by rw [upd_same, List.map_append]
    have po7 := po6.ex e7
    have ht7 := e7 _ _ (k6.at_ ht5 hltp)
    have hlwp := pne po6 hlw
    have k07 : Kl p H (upd H6 lw (.lst (ws0.map V.str ++ ws1.map V.str))) := (k05.trans k6).trans (.of e7)
    generalize (upd H6 lw (.lst (ws0.map V.str ++ ws1.map V.str))) = H7 at hw7 po7 ht7 k07
    have hws : ∀ x ∈ ws0 ++ ws1, Nm x := fun x hx => by
      rcases List.mem_append.mp hx with hx | hx
      · exact (hw0n x hx).1
      · exact (hw1n x hx).1
    have hwl : (ws0 ++ ws1).length = 4 := by rw [List.length_append, hw0l, hw1l]
    generalize ws0 ++ ws1 = ws at hw7 hws hwl
    refine consW ?_
    refine names_at (m := M + 2) (ev_var rfl) (ev_is (ev_addI (ev_var rfl) ev_c) rfl) po7 (by omega) (by omega) fun ln nms H8 hln k8 po8 hn8 hnl hnn hn4 => ?_
    refine nilW ⟨_, _, rfl, ?_⟩
    have hw8 := k8.at_ hw7 hlwp
    have ht8 := k8.at_ ht7 hltp
    have hlnp := pne po7 hln
    -- the kinds
    refine q_parW (consW ?_)
    refine eld_lcR (K := Kw w) (n := M) (fun i => kD ((tts.getD i ""), if (i : Int) = (tht : Int) then 2 else 1)) (fun _ => rfl) (ea_cons (ev_var rfl) ea_nil) (by omega) (fun _ => rfl) (fun i H9 hi e9 => ?_) H8 (Ex.refl H8) _ fun lk kv H9 hlk e9 hk9 hkv => ?_
    · have hti : tts[i]? = some (tts.getD i "") := by
        rw [List.getD_eq_getElem?_getD, List.getElem?_eq_getElem (by omega)] <;> rfl
      refine ed_tup (ea_consD (ed_str (ev_ixLn (n := i) (ev_var rfl) (ev_var rfl) (sq_of (e9 _ _ ht8)) (by rw [List.getElem?_map, hti] <;> rfl))) (ea_consD (ed_int (ev_if (b := decide (V.int (i : Int) = V.int (tht : Int))) (et_test (ev_op (ev_var rfl) (ev_var rfl) (rv_eq rfl))) (fun h => ?_) (fun h => ?_))) ea_nilD)) (show (2 : Nat) ≤ 100000 by decide)
      · have h' : (i : Int) = (tht : Int) := V.int.inj (of_decide_eq_true h)
        show Ev _ _ _ (.int (if (i : Int) = (tht : Int) then 2 else 1))
        rw [if_pos h']
        exact ev_c
      · have h' : ¬ (i : Int) = (tht : Int) := fun e => (of_decide_eq_false h) (by rw [e])
        show Ev _ _ _ (.int (if (i : Int) = (tht : Int) then 2 else 1))
        rw [if_neg h']
        exact ev_c
    obtain ⟨ks, hks⟩ : ∃ ks : List (Str × Int), ks = (List.range M).map fun i => ((tts.getD i "", if (i : Int) = (tht : Int) then 2 else 1) : Str × Int) := ⟨_, rfl⟩
    have hkv : DpAll (Kw w) H9 kv (ks.map kD) := by
      rw [hks, List.map_map]
      exact hkv
    have hkl : ks.length = M := by rw [hks, List.length_map, List.length_range]
    have htts : ks.map (·.1) = tts := by
      rw [hks, List.map_map]
      apply List.ext_getElem?
      intro i
      rw [List.getElem?_map]
      by_cases hi : i < M
      · rw [List.getElem?_range hi, List.getElem?_eq_getElem (by omega : i < tts.length)]
        show some (tts.getD i "") = _
        rw [List.getD_eq_getElem?_getD, List.getElem?_eq_getElem (by omega : i < tts.length)] <;> rfl
      · rw [List.getElem?_eq_none (by rw [List.length_range]; omega), List.getElem?_eq_none (by omega)] <;> rfl
    have hg12 : ∀ k ∈ ks, 1 ≤ k.2 ∧ k.2 ≤ 2 := fun k hk => by
      rw [hks] at hk
      obtain ⟨i, _, rfl⟩ := List.mem_map.mp hk
      show 1 ≤ (if (i : Int) = (tht : Int) then (2 : Int) else 1) ∧ (if (i : Int) = (tht : Int) then (2 : Int) else 1) ≤ 2
      split <;> omega
    have okk : OkK ks := ⟨by omega, by omega, fun k hk => (ht4 k.1 (by rw [← htts]; exact List.mem_map.mpr ⟨k, hk, rfl⟩)).1, fun k hk => ⟨(hg12 k hk).1, by have := (hg12 k hk).2; omega⟩, by rw [htts]; exact htn⟩
    have hg2 : ∀ k ∈ ks, k.2 ≤ 2 := fun k hk => (hg12 k hk).2
    clear hks htts hg12
    refine consW (lstW (nilW ⟨sz_of (by decide), fun lr hlr => nilW ⟨_, _, rfl, ?_⟩⟩))
    have e10 := Ex.new (o := .lst []) hlr
    have hk10 := e10 _ _ hk9
    have hw10 := e10 _ _ (e9 _ _ hw8)
    have hn10 := e10 _ _ (e9 _ _ hn8)
    have po10 := (po8.ex e9).ex e10
    have hkv10 := hkv.ex e10
    have hr10 : (upd H9 lr (.lst [])) lr = some (.lst []) := upd_same
    have k010 : Kl p H (upd H9 lr (.lst [])) := (k07.trans k8).trans (.of (e9.trans e10))
    have hlkp := pne po8 hlk
    have hlrp := pne (po8.ex e9) hlr
    have nkr : lk ≠ lr := fun z => by
      subst z
      rw [hk9] at hlr
      cases hlr
    have nwr : lw ≠ lr := fun z => by
      subst z
      rw [e9 _ _ hw8] at hlr
      cases hlr
    have nnr : ln ≠ lr := fun z => by
      subst z
      rw [e9 _ _ hn8] at hlr
      cases hlr
    have hlrH : H lr = none := by
      cases q : H lr with
      | none => rfl
      | some o =>
        have := ((k07.trans k8).trans (.of e9)).at_ q hlrp
        rw [hlr] at this
        cases this
    generalize (upd H9 lr (.lst [])) = H10 at e10 hk10 hw10 hn10 po10 hkv10 hr10 k010
    have ksd : ∀ {H' : Hp}, Ks [p, lr] H10 H' → H' lk = some (.lst kv) ∧ DpAll (Kw w) H' kv (ks.map kD) ∧ H' lw = some (.lst (ws.map V.str)) ∧ H' ln = some (.lst (nms.map V.str)) := fun kk =>
      ⟨kk.at_ hk10 (by simp only [List.mem_cons, List.not_mem_nil, or_false, not_or]; exact ⟨hlkp, nkr⟩), hkv10.tx (imm_ksD ks) kk.tx, kk.at_ hw10 (by simp only [List.mem_cons, List.not_mem_nil, or_false, not_or]; exact ⟨hlwp, nwr⟩), kk.at_ hn10 (by simp only [List.mem_cons, List.not_mem_nil, or_false, not_or]; exact ⟨hlnp, nnr⟩)⟩
    have immR : ∀ Rs : List Tmp, immAll (Rs.map tD) = true := fun Rs => immAll_map imm_tD Rs
    -- a row of each kind
    refine q_forR1 (n := (M : Int)) (ea_cons (ev_var rfl) ea_nil) (by omega) (fun i σ' H' => Ks [p, lr] H10 H' ∧ PoolAt H' p (n + 40 + 60 * i) ∧ (∃ ys Rs, H' lr = some (.lst ys) ∧ DpAll (Kw w) H' ys (Rs.map tD) ∧ Rs.length = i ∧ RowsOk ks nms Rs) ∧
        ∃ x6 x9, σ' = [some (.ref p), some (.int (M : Int)), some (.int (tht : Int)), some (.ref lt), some (.ref lw), some (.ref ln), x6, some (.ref lk), some (.ref lr), x9, none, none])
      (fun H11 e11 => ⟨.of e11, (po10.ex e11).mono (by omega), ⟨[], [], e11 _ _ hr10, .nil, rfl, fun j t h => by simp at h⟩, _, _, rfl⟩) (fun i σ' H' hi pv => ?_) (fun σ' H' pv => ?_)
    · obtain ⟨k11, po11, ⟨ys, Rs, h11, hy, hlen, hrok⟩, x6, x9, rfl⟩ := pv
      have hi' : i < M := by omega
      obtain ⟨nmi, hnmi⟩ : ∃ nmi, nms[i]? = some nmi := ⟨_, List.getElem?_eq_getElem (by omega)⟩
      have fin : ∀ {E : XK} {D : Ends} (bl : List Nat) (lb : Addr) (H20 : Hp) (m : Nat), bl.length ≤ 1 → (∀ k ∈ bl, i < k ∧ k < M) → Ks [p, lr] H10 H20 → PoolAt H20 p m → m ≤ n + 50 + 60 * i → H20 lr = some (.lst ys) → DpAll (Kw w) H20 ys (Rs.map tD) → H20 lb = some (.lst (bl.map fun n : Nat => V.int (n : Int))) → lb ≠ p →
          (∀ H', (Ks [p, lr] H10 H' ∧ PoolAt H' p (n + 40 + 60 * (i + 1)) ∧ (∃ ys Rs, H' lr = some (.lst ys) ∧ DpAll (Kw w) H' ys (Rs.map tD) ∧ Rs.length = i + 1 ∧ RowsOk ks nms Rs)) → D.nx [some (.ref p), some (.int (M : Int)), some (.int (tht : Int)), some (.ref lt), some (.ref lw), some (.ref ln), some (.int (i : Int)), some (.ref lk), some (.ref lr), some (.ref lb), none, none] H') →
          tDrop (tBM (Kw w) "list" rAppend (tVar 8) (tCons (tCall (spTmpl (Kw w)) [] E (tCons (tVar 0) (tCons (tVar 7) (tCons (tVar 4) (tCons (tOp (rIxL (Kw w)) (tVar 5) (tVar 6)) (tCons (tVar 6) (tCons (tVar 9) tNil))))))) tNil)) D [some (.ref p), some (.int (M : Int)), some (.int (tht : Int)), some (.ref lt), some (.ref lw), some (.ref ln), some (.int (i : Int)), some (.ref lk), some (.ref lr), some (.ref lb), none, none] H20 := by
        intro E D bl lb H20 m hbl hbk k20 po20 hm hr20 hy20 hb20 hlb fk
        obtain ⟨d1, d2, d3, d4⟩ := ksd k20
        refine row_step (nm := nmi) (Pa := fun a => a = i) rfl rfl rfl rfl rfl (ev_ixLn (n := i) (ev_var rfl) (ev_var rfl) (sq_of d4) (by rw [List.getElem?_map, hnmi] <;> rfl)) (hn4 nmi (List.mem_of_getElem? hnmi)).1 po20 (by omega) d1 d2 okk hg2 d3 hwl hws hb20 (by omega) (fun k hk => by have := (hbk k hk).2; omega) hr20 (by have := hy20.len; rw [List.length_map] at this; omega) hlkp hlwp hlb hlrp
          (fun H0 e0 Q q => varW rfl (q i H0 (by omega) rfl (.refl _ _) ((po20.ex e0).mono (Nat.le_succ _)))) fun a v t H21 ha k21 h21 po21 hv ok t1 t2 t3 => ?_
        subst ha
        have h21t : Tx H21 (upd H21 lr (.lst (ys ++ [v]))) := Tx.lst h21
        refine fk _ ⟨(k20.trans (k21.ks (by simp))).trans (.upd h21 (by simp)), (po21.upd hlrp).mono (by omega), ys ++ [v], Rs ++ [t], upd_same, ?_, by rw [List.length_append, hlen, List.length_singleton], hrok.step ⟨ok, ?_, fun _ => ⟨?_, below_of t3 fun k hk => ?_⟩⟩⟩
        · rw [List.map_append]
          exact (hy20.tx (immR Rs) (k21.tx.trans h21t)).app (.one (hv.tx (imm_tD t) h21t))
        · rw [t1, hlen, hnmi]
        · rw [hlen]
          exact t2
        · rw [hlen]
          exact (hbk k hk).1
      refine q_asgL (el_lst ea_nil (by decide)) fun lb H12 hlb e12 h12 => ?_
      have hlbp := pne po11 hlb
      have hlbr : lb ≠ lr := fun z => by
        subst z
        rw [h11] at hlb
        cases hlb
      have hlb10 : H10 lb = none := by
        cases q : H10 lb with
        | none => rfl
        | some o =>
          have := k11.at_ q (by simp only [List.mem_cons, List.not_mem_nil, or_false, not_or]; exact ⟨hlbp, hlbr⟩)
          rw [hlb] at this
          cases this
      refine q_ifW (andW (etW (b := decide ((i : Int) < (M : Int) - 1)) (et_test (ev_op (ev_var rfl) (ev_subI (ev_var rfl) ev_c) rv_I0)) fun H13 e13 => ?_))
      have e123 := e12.trans e13
      by_cases hlt : (i : Int) < (M : Int) - 1
      · rw [if_pos (decide_eq_true hlt)]
        refine testW (opW ?_)
        refine draw_at (m := 3) (ev_var rfl) ev_c (po11.ex e123) (by omega) (by decide) (by decide) fun r H14 hr14 k14 po14 => ?_
        refine cW ⟨_, _, rfl, rfl, _, rfl, ?_⟩
        have k1114 : Kl p H' H14 := (Kl.of e123).trans k14
        have h14b := k14.at_ (e13 _ _ h12) hlbp
        by_cases hr0 : (0 : Int) < (r : Int)
        · rw [if_pos (decide_eq_true hr0)]
          refine s_appW (i := 9) rfl h14b ?_
          refine opW (opW (varW rfl (cW (addW rfl ?_))))
          refine draw_at (m := (M : Int) - (i : Int) - 1) (ev_var rfl) (ev_subI (ev_subI (ev_var rfl) (ev_var rfl)) ev_c) po14 (by omega) (by omega) (by omega) fun r2 H15 hr2 k15 po15 => ?_
          refine addW (show (i : Int) + 1 + (r2 : Int) = ((i + 1 + r2 : Nat) : Int) by omega) ?_
          have h15b := k15.at_ h14b hlbp
          refine appE h15b (by decide) ?_
          have k1115 := k1114.trans k15
          have h15r := k1115.at_ h11 hlrp
          have kb : Ks [lb, p, lr] H10 (upd H15 lb (.lst ([] ++ [.int ((i + 1 + r2 : Nat) : Int)]))) := ((k11.mono fun a ha => List.mem_cons_of_mem _ ha).trans (k1115.ks (by simp))).trans (.upd h15b (by simp))
          exact fin [i + 1 + r2] lb _ _ (by simp) (fun k hk => by rw [List.mem_singleton.mp hk]; omega) (kb.drop hlb10) (po15.upd hlbp) (by omega) ((upd_ne (Ne.symm hlbr)).trans h15r) (hy.tx (immR Rs) (k1115.tx.trans (Tx.lst h15b))) upd_same hlbp fun H' h => ⟨h.1, h.2.1, h.2.2, _, _, rfl⟩
        · rw [if_neg (by rw [decide_eq_true_eq]; exact hr0)]
          exact fin [] lb H14 _ (by simp) (fun k hk => by cases hk) (k11.trans (k1114.ks (by simp))) po14 (by omega) (k1114.at_ h11 hlrp) (hy.tx (immR Rs) k1114.tx) h14b hlbp fun H' h => ⟨h.1, h.2.1, h.2.2, _, _, rfl⟩
      · rw [if_neg (by rw [decide_eq_true_eq]; exact hlt)]
        exact fin [] lb H13 _ (by simp) (fun k hk => by cases hk) (k11.trans (.of e123)) (po11.ex e123) (by omega) (e123 _ _ h11) (hy.ex e123) (e13 _ _ h12) hlbp fun H' h => ⟨h.1, h.2.1, h.2.2, _, _, rfl⟩
    obtain ⟨k11, po11, ⟨ys0, Rs0, h11, hy0, hlen0, hrok0⟩, x6, x9, rfl⟩ := pv
    rw [Int.toNat_natCast] at po11 hlen0
    -- more rows
    refine q_forP (p := p) (n := n + 300) (M := 2) (by decide) (fun Q q => ?_) (fun i σ' H' => Ks [p, lr] H10 H' ∧ PoolAt H' p (n + 300 + 60 * i) ∧ (∃ ys Rs, H' lr = some (.lst ys) ∧ DpAll (Kw w) H' ys (Rs.map tD) ∧ Rs.length = M + i ∧ RowsOk ks nms Rs) ∧
        ∃ x6 x9, σ' = [some (.ref p), some (.int (M : Int)), some (.int (tht : Int)), some (.ref lt), some (.ref lw), some (.ref ln), x6, some (.ref lk), some (.ref lr), x9, none, none])
      (fun H12 k12 po12 => ⟨k11.trans (k12.ks (by simp)), po12, ⟨ys0, Rs0, k12.at_ h11 hlrp, hy0.tx (immR Rs0) k12.tx, hlen0, hrok0⟩, _, _, rfl⟩) (fun i σ' H' hi pv => ?_) (fun mm σ' H' hmm pv => ?_)
    · refine consW ?_
      refine draw_at (m := 3) (ev_var rfl) ev_c po11 (by omega) (by decide) (by decide) fun r H12 hr12 k12 po12 => ?_
      exact q r H12 (by omega) k12 (po12.mono (by omega))
    · obtain ⟨k12, po12, ⟨ys, Rs, h12, hy, hlen, hrok⟩, x6, x9, rfl⟩ := pv
      refine q_asgW ?_
      refine lc_pool (p := p) (n := n + 301 + 60 * i) (d := 1) (M := 2) (Pm := fun _ => True) (Py := fun _ y => ∃ c : Nat, y = .int (c : Int) ∧ c < M) (by decide) (by
        obtain ⟨_, _, _, q, _⟩ := po12
        exact ⟨_, q⟩) (by exact fun _ => rfl) (fun Q q => ?_) (fun i2 H13 hi2 k13 po13 Q q => ?_) (fun lb ys2 H13 _ hM2 hlb k13 po13 h13 hy2 => ?_)
      · refine consW (opW (opW (cW (varW rfl (subW rfl ?_)))))
        refine draw_at (m := 2) (ev_var rfl) ev_c po12 (by omega) (by decide) (by decide) fun r H13 hr13 k13 po13 => ?_
        refine addW (show (1 : Int) - (i : Int) + (r : Int) = ((1 - i + r : Nat) : Int) by omega) (nilW ?_)
        exact q (1 - i + r) H13 (by omega) trivial k13 (po13.mono (by omega))
      · refine draw_at (m := (M : Int)) (ev_var rfl) (ev_var rfl) po13 (by omega) (by omega) (by omega) fun r H14 hr14 k14 po14 => ?_
        exact q _ H14 k14 (po14.mono (by omega)) ⟨r, rfl, by omega⟩
      obtain ⟨bl, rfl, hbl⟩ := ints_of hy2
      rw [List.length_map] at hM2
      have hlbp := pne po12 hlb
      have k1013 := k12.trans (k13.ks (L := [p, lr]) (by simp))
      obtain ⟨d1, d2, d3, d4⟩ := ksd k1013
      obtain ⟨nmi, hnmi⟩ : ∃ nmi, nms[M + i]? = some nmi := ⟨_, List.getElem?_eq_getElem (by omega)⟩
      have hr13 := k13.at_ h12 hlrp
      refine row_step (nm := nmi) (Pa := fun a => True) rfl rfl rfl rfl rfl (ev_ixLn (n := M + i) (ev_var rfl) (ev_is (ev_addI (ev_var rfl) (ev_var rfl)) rfl) (sq_of d4) (by rw [List.getElem?_map, hnmi] <;> rfl)) (hn4 nmi (List.mem_of_getElem? hnmi)).1 po13 (by omega) d1 d2 okk hg2 d3 hwl hws h13 hM2 (fun k hk => by have := hbl k hk; omega) hr13 (by have := hy.len; rw [List.length_map] at this; omega) hlkp hlwp hlbp hlrp
        (fun H0 e0 Q q => draw_at (m := (M : Int)) (ev_var rfl) (ev_var rfl) (po13.ex e0) (by omega) (by omega) (by omega) fun r H14 hr14 k14 po14 => q r H14 (by omega) trivial k14 po14) fun a v t H21 ha k21 h21 po21 hv ok t1 t2 t3 => ?_
      have h21t : Tx H21 (upd H21 lr (.lst (ys ++ [v]))) := Tx.lst h21
      have hy13 := hy.tx (immR Rs) k13.tx
      refine ⟨(k1013.trans (k21.ks (by simp))).trans (.upd h21 (by simp)), (po21.upd hlrp).mono (by omega), ⟨ys ++ [v], Rs ++ [t], upd_same, ?_, by rw [List.length_append, hlen, List.length_singleton]; omega, hrok.step ⟨ok, by rw [t1, hlen, hnmi], fun hj => by omega⟩⟩, _, _, rfl⟩
      rw [List.map_append]
      exact (hy13.tx (immR Rs) (k21.tx.trans h21t)).app (.one (hv.tx (imm_tD t) h21t))
    -- the end
    obtain ⟨k13, po13, ⟨ys, Rs, h13, hy, hlen, hrok⟩, x6, x9, rfl⟩ := pv
    have hyl : ys.length = Rs.length := by rw [hy.len, List.length_map]
    refine q_asgW ?_
    refine draw_at (m := (ys.length : Int)) (ev_var rfl) (ev_len (ev_var rfl) (sq_of h13)) po13 (by omega) (by omega) (by omega) fun a H14 ha k14 po14 => ?_
    have k1014 := k13.trans (k14.ks (L := [p, lr]) (by simp))
    obtain ⟨d1, d2, d3, d4⟩ := ksd k1014
    have h14 := k14.at_ h13 hlrp
    have hy14 := hy.tx (immR Rs) k14.tx
    have hal : a ≤ ys.length := by omega
    refine s_retW (lstW (consW (edW (ed_tupleV (ev_var rfl) d1 d2) fun v1 H15 e15 hv1 => consW (edW (d := tsD (Rs.drop a ++ Rs.take a)) (ed_to (ed_tupleOf (eld_cat (ds := (Rs.drop a).map tD) (es := (Rs.take a).map tD) (eld_slD (lo := some (a : Int)) (hi := none) (ev_var rfl) (eo_some (ev_var rfl)) eo_none (sq_of (e15 _ _ h14)) (by rw [cut_drop ys hal, List.map_drop]; exact dpAll_drop (hy14.ex e15) a)) (eld_slD (lo := none) (hi := some (a : Int)) (ev_var rfl) eo_none (eo_some (ev_var rfl)) (sq_of (e15 _ _ h14)) (by rw [cut_take ys hal, List.map_take]; exact dpAll_take (hy14.ex e15) a)) (immR _) (by rw [List.length_map, List.length_map, List.length_drop, List.length_take]; omega))) (by show PyData.tuple _ = PyData.tuple (List.map tD (_ ++ _)); rw [List.map_append])) fun v2 H16 e16 hv2 => consW (varW rfl (nilW ⟨sz_of (show (3 : Nat) ≤ 100000 by decide), fun l hl => ?_⟩))))))
    have e17 := Ex.new (o := .lst [v1, v2, .ref lw]) hl
    have hend := rows_end okk hnn hn4 hrok (by omega) (by omega) a
    have hlp := pne ((po14.ex e15).ex e16) hl
    have kk := k1014.trans (.of ((e15.trans e16).trans e17))
    refine k l v1 v2 (.ref lw) ks (Rs.drop a ++ Rs.take a) _ ⟨fun b o hb e => ?_, k010.tx.trans kk.tx⟩ ((((po14.ex e15).ex e16).ex e17).mono (by omega)) hlp ?_ upd_same ((hv1.ex e16).ex e17) (hv2.ex e17) hend.1 hend.2
    · have hb' : b ≠ p := by simpa using hb
      refine kk.at_ (k010.at_ e hb') ?_
      simp only [List.mem_cons, List.not_mem_nil, or_false, not_or]
      refine ⟨hb', fun z => ?_⟩
      rw [z, hlrH] at e
      cases e
    · cases q : H l with
      | none => rfl
      | some o =>
        have hlr2 : l ≠ lr := fun z => by
          rw [z, hlrH] at q
          cases q
        have := (e15.trans e16) _ _ (k1014.at_ (k010.at_ q hlp) (by simp only [List.mem_cons, List.not_mem_nil, or_false, not_or]; exact ⟨hlp, hlr2⟩))
        rw [hl] at this
        cases this
end
end K76
set_option maxHeartbeats 2000000
/-! TryT: try .. except (X, Y, Z) as n, all that comes is one of them. -/
namespace L2
open PySem PySem.Spec PyProof.Rows
/-- what the clause wishes of an exception of the body -/
def wAs3 (K : PySem.W.Frag) (cs : List Value) (i : Nat) (ts : Addr → Value → Option Addr → TS) (D : Ends) : WX := fun cls d σ H =>
  PySem.W.exmAny K cls cs = some true ∧ ∀ a, H a = none → ts a cls d { nx := fun σ' H' => D.nx (σ'.set i none) H', rt := D.rt, bk := fun σ' H' => D.bk (σ'.set i none) H', ct := fun σ' H' => D.ct (σ'.set i none) H' } (σ.set i (some (.ref a))) H
theorem flying_push {B h : Heap} {l : List Env} {a : Addr} {Z : Obj → Prop} {o : Obj} (fl : HandSPX.FlyingZ B l a Z h) : HandSPX.FlyingZ B l a Z (h.push o) := by
  obtain ⟨f1, f2, f3, oe, vs, T, oT, ts', he, hz, hd, h1, h2, h3, h4, h5, h6⟩ := fl
  have k : ∀ b u, h.get? b = some u → (h.push o).get? b = some u := fun b u q => Heap.get?_push_of_some _ q
  exact ⟨fun b u e => k b u (f1 b u e), f2, Heap.FunFrames.of_keeps (fun b u e _ => ⟨u, k b u e, rfl⟩) f3, oe, vs, T, oT, ts', k _ _ he, hz, hd, h1, h2, h3, k _ _ h4, h5, h6⟩
section
variable {X : Cx} {x1 x2 x3 n : Str} {c1 c2 c3 : Value} {i kk : Nat} {body suite : List Stmt} {b₀ : Stmt} {p1 p2 p3 tpos pos pos' : Pos} {tb : WX → TS} {ts : Addr → Value → Option Addr → TS}
theorem named_ok {pins : List (Addr × Obj)} {σ : St} {H : Hp} {s : Shared} {x : Str} {c : Value} {np : Pos} {Q : Value → Shared → Prop} {E : Value → Shared → Prop} (hc : Names X x c) (I : Inv X pins σ H s) (q : Q c s) : wpAny (model X.prog X.w) X.A (eval (.Name x np) X.env) Q E s := by
  obtain ⟨hg, hdbg, hm | ⟨hm, hv, hnn⟩⟩ := hc
  · exact ld_glob I hg hm q hdbg
  · exact ld_blt I hg hm hv q hnn hdbg
theorem ps_try_as3 (hs : X.stack = X.env :: X.outer) (hf : X.env.frame = some X.env.locals) (hN : X.N.Nodup) (hi : X.N[i]? = some n) (hln : X.env.kindOf n = some .local) (n1 : Names X x1 c1) (n2 : Names X x2 c2) (n3 : Names X x3 c3)
    (hb : ∀ (W : WX) (pn : List (Addr × Obj)) (xe : Value → Shared → Prop), Takes (X.tr pn xe) W → PassesOwn (model X.prog X.w) X.A X.env xe → PSs (X.tr pn xe) body (tb W))
    (hsu : ∀ (a : Addr) (oe : Obj) (cls : Value) (d : Option Addr) (pn : List (Addr × Obj)), Zc cls d oe → (∃ vs, oe.data = .fields vs) → PSs (X.suite a ((a, oe) :: pn)) (b₀ :: suite) (ts a cls d)) :
    PS X (.Try body [.ExceptHandler (some (.Tuple [.Name x1 p1, .Name x2 p2, .Name x3 p3] kk tpos)) (some n) (b₀ :: suite) pos'] [] [] pos) (fun D σ H => tb (wAs3 X.K [c1, c2, c3] i ts D) D σ H) := by
  refine ⟨fun pins s σ H D I h => ?_⟩
  have ok := I.ok
  have hfr : X.A.frames = some (X.env :: X.outer) := by rw [ok.frames, hs]
  have hloc : Loc X.env.scope n := .inl hln
  refine wpAny_Try_except ?_
  refine wpAny_mono ((hb (wAs3 X.K [c1, c2, c3] i ts D) (X.pn ++ pins) (fun e s₁ => wpAny (model X.prog X.w) X.A (noteFrame e X.env) (fun _ s₂ => wpAny (model X.prog X.w) X.A (setFlight e none) (fun _ s₃ =>
    wpAny (model X.prog X.w) X.A (handleBy e X.env [.ExceptHandler (some (.Tuple [.Name x1 p1, .Name x2 p2, .Name x3 p3] kk tpos)) (some n) (b₀ :: suite) pos']) (SP X pins D) X.xe s₃) X.xe s₂) X.xe s₁) (fun u s' xx => ?_) PassesOwn.looking).run [] s σ H D (I.toTry _) h) (fun f s1 hsp => ?_) (fun e s1 he => he)
  · obtain ⟨a, B, sI, pins', σ', H', cls, d, rfl, J', nb, up, sky, na, os, ag, hb1, hyes⟩ := xx
    have J : Inv X pins σ' H' sI := J'.ofTry ok
    have sky' : Sky B (X.env :: X.outer) a (Zc cls d) X.env.locals s'.heap := by rw [← hs]; exact sky
    show wpAny (model X.prog X.w) X.A (noteFrame (.ref a) X.env) _ _ _
    refine Sky.land Zc.steady hfr hf sky' fun h3 fl3 up3 => ?_
    have J3 : Inv X pins σ' H' { s' with heap := h3 } := J.landed nb fl3.1 (up.trans up3) os ag
    obtain ⟨oe3, vs3, he3, hz3, hd3⟩ := fl3.there
    have notFr : ∀ {h : Heap} {o : Obj} {vs : Array Value}, h.FunFrames B (X.env :: X.outer) → h.get? a = some o → o.data = .fields vs → a ∉ frs (X.env :: X.outer) := fun {h o vs} ff e dd hm => by
      obtain ⟨_, o', e', hnf⟩ := ff.mem hm
      rw [e] at e'; cases e'
      exact hnf _ dd
    have nfr := notFr fl3.2.2.1 he3 hd3
    have nL : a ≠ X.env.locals := fun z => nfr (List.mem_filterMap.mpr ⟨X.env, List.mem_cons_self, by rw [hf, z]⟩)
    have nF : a ∉ X.fs := fun hm => by
      obtain ⟨e, he, q⟩ := List.mem_filterMap.mp hm
      exact nfr (List.mem_filterMap.mpr ⟨e, List.mem_cons_of_mem _ he, q⟩)
    have S3 := J3.suite he3 hd3 na nL nF
    refine wpAny_handleBy_cons (codeAny_handlers_test ?_) (by intro q; cases q)
    have LT : PySem.W.Looks (model X.prog X.w) h3 (typeOf (.ref a)) cls := fun A Q E s k q => wpAny_typeOf_ref (k _ _ he3) (by rw [hz3.1]; exact q)
    refine wpAny_Tuple ?_
    refine wpAny_items_cons (named_ok (X := X.suite a ((a, oe3) :: (X.pn ++ pins))) n1 S3 ?_)
    refine wpAny_items_cons (named_ok (X := X.suite a ((a, oe3) :: (X.pn ++ pins))) n2 S3 ?_)
    refine wpAny_items_cons (named_ok (X := X.suite a ((a, oe3) :: (X.pn ++ pins))) n3 S3 ?_)
    refine wpAny_items_nil ⟨by size_fits, ?_⟩
    have kp : ∀ q o, h3.get? q = some o → (h3.push { cls := .type "tuple", data := .seq [c1, c2, c3].toArray }).get? q = some o := fun _ _ z => Heap.get?_push_of_some _ z
    refine (PySem.W.exm_tup3 (M := model X.prog X.w) (J3.kIn.keeps kp) (LT.keeps kp) (Heap.get?_push_size h3 rfl) hb1).here ?_
    have fl3' := flying_push (o := { cls := .type "tuple", data := .seq [c1, c2, c3].toArray }) fl3
    have up3' : s'.heap.UpToSlots (h3.push { cls := .type "tuple", data := .seq [c1, c2, c3].toArray }) := up3.trans (Heap.UpToSlots.of_keeps kp)
    refine codeAny_handlers_suite_as ?_
    refine HandSPX.lands_againZ (s := { s' with heap := h3.push { cls := .type "tuple", data := .seq [c1, c2, c3].toArray } }) fl3' fun h4 fl4 up4 => ?_
    have J4 : Inv X pins σ' H' { s' with heap := h4 } := J.landed nb fl4.1 ((up.trans up3').trans up4) os ag
    obtain ⟨oe4, vs4, he4, hz4, hd4⟩ := fl4.there
    have S4 := J4.suite he4 hd4 na nL nF
    refine store_ok (X := X.suite a ((a, oe4) :: (X.pn ++ pins))) (v := .ref a) S4 hN hi hloc rfl (fun s5 S5 => ?_) (.inr hln)
    refine wpAny_mono ((hsu a oe4 cls d (X.pn ++ pins) hz4 ⟨_, hd4⟩).run [] s5 _ H' _ S5 (hyes a na)) (fun f s6 hsp => ?_) (fun _ _ z => False.elim z)
    have end_ : ∀ {σ6 : St} {H6 : Hp} {Q : Shared → Prop}, Inv (X.suite a ((a, oe4) :: (X.pn ++ pins))) [] σ6 H6 s6 → (∀ s7, Inv X pins (σ6.set i none) H6 s7 → Q s7) →
        wpAny (model X.prog X.w) X.A (do bindName X.env n .none; unbindBehindTheSuite X.env n pos') (fun _ s7 => Q s7) X.xe s6 := fun {σ6 H6 Q} S6 hq => gone_ok (S6.unsuite ok) hN hi hln hq
    cases f with
    | next =>
      obtain ⟨σ6, H6, S6, q6⟩ := hsp
      exact end_ S6 fun s7 J7 => ⟨_, _, J7, q6⟩
    | brk =>
      obtain ⟨σ6, H6, S6, q6⟩ := hsp
      exact end_ S6 fun s7 J7 => ⟨_, _, J7, q6⟩
    | cont =>
      obtain ⟨σ6, H6, S6, q6⟩ := hsp
      exact end_ S6 fun s7 J7 => ⟨_, _, J7, q6⟩
    | ret u =>
      obtain ⟨v6, σ6, H6, S6, r6, q6⟩ := hsp
      exact end_ S6 fun s7 J7 => ⟨_, _, _, J7, r6, q6⟩
  · cases f with
    | next =>
      obtain ⟨σ', H', J', q⟩ := hsp
      exact wpAny_execs_nil ⟨σ', H', J'.ofTry ok, q⟩
    | brk =>
      obtain ⟨σ', H', J', q⟩ := hsp
      exact ⟨σ', H', J'.ofTry ok, q⟩
    | cont =>
      obtain ⟨σ', H', J', q⟩ := hsp
      exact ⟨σ', H', J'.ofTry ok, q⟩
    | ret u =>
      obtain ⟨v, σ', H', J', r, q⟩ := hsp
      exact ⟨v, σ', H', J'.ofTry ok, r, q⟩
end
end L2
set_option maxHeartbeats 4000000
/-! Rp: repr of data, isinstance of a caught error with fields, list.count of bools. -/
namespace L2
open PySem PySem.Spec PyProof.Rows
/-- repr(v), v data -/
def rReprD (K : PySem.W.Frag) : List V → Hp → VK → Prop := fun xs H Q => ∃ (v : V) (d : PyData), xs = [v] ∧ Dp K H v d ∧ d.showable = true ∧ SeqAt.shaped d = true ∧ d.shown.length ≤ sizeLine ∧ Q (.str d.shown) H
section
variable {X : Cx}
theorem call_reprD (hg : X.A.guards = some []) (hu : X.A.units + 70 < cLine) : CallR X (.builtin "repr") (rReprD X.K) := by
  intro pins s σ H xs us Q I r h
  obtain ⟨v, d, rfl, hd, sh, sp, hz, q⟩ := h
  obtain ⟨u, rfl, ru⟩ := r.one
  have lay : d.canLay0 = true := SeqAt.canLay_of_shaped sp
  have hdp : d.depth ≤ 64 := by
    have h : (d.canLay0 && decide (d.depth ≤ 64)) = true := sp
    rw [Bool.and_eq_true] at h
    exact of_decide_eq_true h.2
  obtain ⟨as, rd⟩ := Dp.reads I d v u hd ru
  cases hd with
  | non =>
    cases ru
    exact PySem.P.repr_of_none ⟨.str _, H, I.tok _, ⟨_, rfl⟩, q⟩
  | bl b =>
    cases ru
    exact PySem.P.repr_of_bool ⟨.str _, H, I.tok _, ⟨_, rfl⟩, q⟩
  | int i =>
    obtain ⟨t, rfl⟩ := ru
    exact PySem.P.repr_of_int (of_decide_eq_true sh) ⟨.str _, H, I.tok _, ⟨_, rfl⟩, q⟩
  | str x =>
    obtain ⟨t, rfl⟩ := ru
    exact PySem.P.repr_of_str ⟨.str _, H, I.tok _, ⟨_, rfl⟩, q⟩ hz
  | lst hs ha =>
    cases ru
    exact repr_of_reads' rd sh (PyData.noDict_hsm (PyData.hasDict_of_canLay _ lay)) hg (by omega) (fun _ _ e => e) (fun h' t tk hk => ⟨.str _, H, I.kept hk, ⟨_, rfl⟩, q⟩) hz
  | tup hs ha =>
    cases ru
    exact repr_of_reads' rd sh (PyData.noDict_hsm (PyData.hasDict_of_canLay _ lay)) hg (by omega) (fun _ _ e => e) (fun h' t tk hk => ⟨.str _, H, I.kept hk, ⟨_, rfl⟩, q⟩) hz
/-- l.count(True), l of bools -/
def rCntB (K : PySem.W.Frag) : V → List V → Hp → VK → Prop := fun x xs H Q => ∃ (p : Addr) (bs : List Bool) (k : Bool), x = .ref p ∧ xs = [.bl k] ∧ SqL K H p (bs.map V.bl) ∧ Q (.int (bs.count k : Nat)) H
theorem countIn_bools (k : Bool) : ∀ bs : List Bool, countIn (.bool k) (bs.map PyData.bool) = (bs.count k : Nat)
  | [] => rfl
  | b :: bs => by
    rw [List.map_cons, List.count_cons, countIn, countIn_bools k bs]
    simp only [same]
    cases b <;> cases k <;> simp [Int.add_comm]
theorem dpAll_bools {K : PySem.W.Frag} {H : Hp} : ∀ bs : List Bool, DpAll K H (bs.map V.bl) (bs.map PyData.bool)
  | [] => .nil
  | b :: bs => .cons (.bl b) (dpAll_bools bs)
theorem mt_countB : MtR X "list.count" (rCntB X.K) := by
  intro pins s σ H x xs v us Q I rx rxs h
  obtain ⟨p, bs, k, rfl, rfl, hs, q⟩ := h
  cases rx
  obtain ⟨u, rfl, ru⟩ := rxs.one
  cases ru
  obtain ⟨its, rv, ⟨o, n, ho, hc, hdn, hd⟩, hlen⟩ := I.list hs
  have hl : s.heap.IsList p its.toArray := ⟨o, ho, hc, n, hd⟩
  obtain ⟨as, ra⟩ := Dp.readsAll I _ _ its (dpAll_bools bs) rv
  refine count_list_bools hl ra ?_ ⟨.int (bs.count k : Nat), H, I.tok _, ⟨s.toks, ?_⟩, q⟩
  · rw [List.all_eq_true]
    intro y hy
    obtain ⟨b, _, rfl⟩ := List.mem_map.mp hy
    rfl
  · rw [countIn_bools]
end
/-- isinstance(e, c), e the caught exception of class D with its fields at dd -/
def rIsF (K : PySem.W.Frag) (a : Addr) (cls : Value) (d : Option Addr) (D : Addr) : List V → Hp → VK → Prop := fun xs H Q => ∃ (c : V) (cv : Value) (b : Bool) (dd : Addr) (fs : List (Str × V)), xs = [.ref a, c] ∧ cls = .ref D ∧ d = some dd ∧ H dd = some (.xd fs) ∧ (∀ u, RelV c u → u = cv) ∧ PySem.W.kitOne K (.ref D) cv = some b ∧ Q (.bl b) H
theorem call_isF {X : Cx} {a D : Addr} {oe : Obj} {cls : Value} {d : Option Addr} {pn : List (Addr × Obj)} (C : ExcC X.K D) (hz : Zc cls d oe) (hf : ∃ vs, oe.data = .fields vs) : CallR (X.suite a ((a, oe) :: pn)) (.builtin "isinstance") (rIsF X.K a cls d D) := by
  intro pins s σ H xs us Q I r h
  obtain ⟨c, cv, b, dd, fs, rfl, rfl, rfl, hdd, hcv, e, q⟩ := h
  cases r with
  | cons rx rr =>
    cases rr with
    | cons rt rr =>
      cases rr
      cases rx
      have ec := hcv _ rt
      subst ec
      obtain ⟨hget, _⟩ := I.pin (a, oe) (List.mem_append.mpr (.inl List.mem_cons_self))
      obtain ⟨vs, hv⟩ := hf
      have hx : ObjOk X.prog X.w H s.heap dd (.xd fs) := I.hok dd _ hdd
      obtain ⟨mA, hns, _⟩ := hx
      obtain ⟨od, ho, _⟩ := lookIn_ns hns
      have J : PySem.W.InstAt s.heap a oe D (some od) := ⟨hget, hz.1, by unfold PySem.W.notCls; rw [hv] <;> rfl, by rw [hz.2]; exact ho⟩
      have hcl : (PySem.W.clsIn X.K D).isSome = true := by
        obtain ⟨cd, hc, _⟩ := PySem.W.any_some C.hd
        rw [hc] <;> rfl
      exact PySem.W.kia_one (PySem.W.kitx_exc hcl C.hg C.hk C.hs C.ha C.hn C.ht C.hm) I.kIn J e (fun z => nomatch z) fun tk => ⟨.bl b, H, I.kept (t' := tk) fun _ _ z => z, rfl, q⟩
/-- isinstance(e, c), e a caught exception of one of the program's classes -/
def rIsG (K : PySem.W.Frag) (a : Addr) (cls : Value) (d : Option Addr) : List V → Hp → VK → Prop := fun xs H Q => ∃ D, ExcC K D ∧ rIsF K a cls d D xs H Q
theorem call_isG {X Y : Cx} {a : Addr} {oe : Obj} {cls : Value} {d : Option Addr} {pn : List (Addr × Obj)} (hz : Zc cls d oe) (hf : ∃ vs, oe.data = .fields vs) (hY : Y = X.suite a ((a, oe) :: pn) := by rfl) : CallR Y (.builtin "isinstance") (rIsG Y.K a cls d) := fun pins s σ H xs us Q I r h => by
  subst hY
  obtain ⟨D, C, h⟩ := h
  exact call_isF C hz hf pins s σ H xs us Q I r h
/-- e.f, e a caught exception of one of the program's classes -/
def tXfG (K : PySem.W.Frag) (a : Addr) (cls : Value) (d : Option Addr) (f : Str) (te : TE) : TE := fun σ H Q => ∃ C, XfC K C ∧ PySem.W.findIn K (.ref C) f = some none ∧ tXf a cls d C f te σ H Q
theorem pe_xfG {X : Cx} {a : Addr} {oe : Obj} {cls : Value} {d : Option Addr} {pn : List (Addr × Obj)} {e : Expr} {te : TE} {pos : Pos} {n : Str} (hz : Zc cls d oe) (hf : ∃ vs, oe.data = .fields vs) (he : PE (X.suite a ((a, oe) :: pn)) e te) (hb : attributeBase e n X.env (eval e X.env) = eval e X.env := by rfl) :
    PE (X.suite a ((a, oe) :: pn)) (.Attribute e n pos) (tXfG X.K a cls d n te) := ⟨fun pins s σ H Q I h => by
  obtain ⟨C, T, hno, h⟩ := h
  exact (pe_xf T hno hz hf he hb).run pins s σ H Q I h⟩
/-- what leaves leaves with all slots -/
theorem takes_len {X : Cx} {W : WX} (tk : Takes X W) : Takes X (fun cls d σ H => σ.length = X.N.length → W cls d σ H) := fun u s' ⟨a, B, sI, pins, σ, H, cls, d, e, I, nb, up, sky, na, os, ag, w⟩ =>
  tk u s' ⟨a, B, sI, pins, σ, H, cls, d, e, I, nb, up, sky, na, os, ag, w I.len⟩
/-- try .. except (X, Y, Z) as n: the suite told by what it wishes -/
theorem ps_try_as3s {X : Cx} {x1 x2 x3 n : Str} {c1 c2 c3 : Value} {i kk : Nat} {body suite : List Stmt} {b₀ : Stmt} {p1 p2 p3 tpos pos pos' : Pos} {tb : WX → TS} (ts : Addr → Value → Option Addr → TS) (hs : X.stack = X.env :: X.outer) (hf : X.env.frame = some X.env.locals) (hN : X.N.Nodup) (hi : X.N[i]? = some n) (hln : X.env.kindOf n = some .local) (n1 : Names X x1 c1) (n2 : Names X x2 c2) (n3 : Names X x3 c3)
    (hb : ∀ (W : WX) (pn : List (Addr × Obj)) (xe : Value → Shared → Prop), Takes (X.tr pn xe) W → PassesOwn (model X.prog X.w) X.A X.env xe → PSs (X.tr pn xe) body (tb W))
    (hsu : ∀ (a : Addr) (oe : Obj) (cls : Value) (d : Option Addr) (pn : List (Addr × Obj)), Zc cls d oe → (∃ vs, oe.data = .fields vs) → ∃ t : TS, PSs (X.suite a ((a, oe) :: pn)) (b₀ :: suite) t ∧ ∀ D σ H, ts a cls d D σ H → t D σ H) :
    PS X (.Try body [.ExceptHandler (some (.Tuple [.Name x1 p1, .Name x2 p2, .Name x3 p3] kk tpos)) (some n) (b₀ :: suite) pos'] [] [] pos) (fun D σ H => tb (wAs3 X.K [c1, c2, c3] i ts D) D σ H) :=
  ps_try_as3 hs hf hN hi hln n1 n2 n3 hb fun a oe cls d pn hz hf' => by
    obtain ⟨t, h1, h2⟩ := hsu a oe cls d pn hz hf'
    exact ⟨fun pins s σ H D I h => h1.run pins s σ H D I (h2 D σ H h)⟩
end L2
set_option maxHeartbeats 4000000
namespace L2
open PySem PySem.Spec PyProof.Rows
theorem Room.units70 {k : Nat} {A : Around} (r : Room k A) : A.units + 70 < cLine := by
  have := r.un
  omega
theorem call_reprDK {X : Cx} {K : PySem.W.Frag} (hK : X.K = K) (hg : X.A.guards = some []) (hu : X.A.units + 70 < cLine) : CallR X (.builtin "repr") (rReprD K) := hK ▸ call_reprD hg hu
end L2
namespace K76
open PySem
theorem boot_ValueError : bootBuiltins "ValueError" = some (.type "ValueError") := by kernel_rfl
theorem boot_LookupError : bootBuiltins "LookupError" = some (.type "LookupError") := by kernel_rfl
theorem boot_ArithmeticError : bootBuiltins "ArithmeticError" = some (.type "ArithmeticError") := by kernel_rfl
theorem boot_repr : bootBuiltins "repr" = some (.builtin "repr") := by kernel_rfl
open PySem PySem.W PySem.Calls PyProof.Rows L2 Evl Ed LamX
/-! ### _law_caught -/
theorem sc__law_caught : FnScope ["_law_act", "_law_told", "e", "_law_sides", "_law_base", "_law_sorts", "_law_at"] ["_law_act"] (defScope s__law_caught) := ⟨rfl, rfl, rfl, by decide +kernel, rfl, by decide +kernel, by decide +kernel⟩
/-! ### the suite's words -/
section
variable {K : PySem.W.Frag} {σ : L2.St} {H : Hp} {te ta : TE} {D : Ends} {tz : TS}
theorem ev_isG {a dd C : Addr} {fs : List (Str × V)} {c : V} {cv : Value} {b : Bool} {i : Nat} {ty : TE} (hs : σ[i]? = some (some (.ref a))) (ho : H dd = some (.xd fs)) (hc : ExcC K C) (h2 : Ev ty σ H c) (hcv : ∀ u, RelV c u → u = cv) (hk : PySem.W.kitOne K (.ref C) cv = some b) :
    Ev (tCB (rIsG K a (.ref C) (some dd)) (tCons (tVar i) (tCons ty tNil))) σ H (.bl b) := fun H1 e Q q => ⟨_, hs, h2 H1 e _ fun H2 e2 => ⟨C, hc, c, cv, b, dd, fs, rfl, rfl, rfl, (e.trans e2) _ _ ho, hcv, hk, q H2 e2⟩⟩
theorem rel_ref {a : Addr} : ∀ u, RelV (.ref a) u → u = Value.ref a := fun _ h => h
theorem rel_ty {n : String} : ∀ u, RelV (.ty n) u → u = Value.type n := fun _ h => h
theorem q_appB {i : Nat} {l : Addr} {xs : List V} {v : V} (hs : σ[i]? = some (some (.ref l))) (hl : H l = some (.lst xs)) (hx : xs.length < 1000) (h : Ev te σ H v) (k : ∀ H1, Ex H H1 → H1 l = some (.lst xs) → tz D σ (upd H1 l (.lst (xs ++ [v])))) :
    tSeq (tDrop (tBM K "list" rAppend (tVar i) (tCons te tNil))) tz D σ H := s_appW (D := { D with nx := fun σ2 H2 => tz D σ2 H2 }) hs hl (evW h fun H1 e => appE (e _ _ hl) (by omega) (k H1 e (e _ _ hl)))
theorem ev_cntB {l : Addr} {bs : List Bool} {k : Bool} {i : Nat} {n : Nat} (hs : σ[i]? = some (some (.ref l))) (hl : H l = some (.lst (bs.map V.bl))) (hn : bs.count k = n) : Ev (tBM K "list" (rCntB K) (tVar i) (tCons (tC (.bl k)) tNil)) σ H (.int (n : Int)) := fun H1 e Q q =>
  ⟨.ref l, hs, Or.inl ⟨rfl, _, sq_of (e _ _ hl)⟩, l, bs, k, rfl, rfl, sq_of (e _ _ hl), by rw [hn]; exact q H1 (Ex.refl _)⟩
theorem ev_idxB {l : Addr} {bs : List Bool} {k : Bool} {i : Nat} {n : Nat} (hs : σ[i]? = some (some (.ref l))) (hl : H l = some (.lst (bs.map V.bl))) (hn : bs[n]? = some k) (h0 : ∀ m, m < n → bs[m]? = some (!k)) : Ev (tBM K "list" (rIndex K) (tVar i) (tCons (tC (.bl k)) tNil)) σ H (.int (n : Int)) := fun H1 e Q q =>
  ⟨.ref l, hs, Or.inl ⟨rfl, _, sq_of (e _ _ hl)⟩, l, bs.map V.bl, .bl k, n, .bl k, rfl, rfl, sq_of (e _ _ hl), rfl, by
    rw [List.all_eq_true]
    intro x hx
    obtain ⟨b, _, rfl⟩ := List.mem_map.mp hx
    rfl, by rw [List.getElem?_map, hn] <;> rfl, by cases k <;> rfl, fun m z hm hz => by
    rw [List.getElem?_map, h0 m hm] at hz
    cases hz
    cases k <;> rfl, q H1 (Ex.refl _)⟩
/-- [..][j], the list written -/
theorem ev_ixNew {xs : List V} {n : Nat} {v : V} (ha : EvL te σ H xs) (hb : Ev ta σ H (.int (n : Int))) (e : xs[n]? = some v) : Ev (tOp (rIxL K) te ta) σ H v := fun H1 e1 Q q => ha H1 e1 _ fun p H2 hp e2 h2 => hb H2 (e1.trans e2) _ fun H3 e3 => ⟨p, xs, _, v, rfl, rfl, sq_of (e3 _ _ h2), atI_nat e, q H3 (e2.trans e3)⟩
theorem _root_.Ed.Ks.ex0 {H H' : Hp} (k : Ks [] H H') : Ex H H' := fun b o e => k.off b o (by simp) e
end
section
variable {w : World} {mg : Str → Option Value} {base : Heap}
/-- data that repr tells -/
structure Rp (K : PySem.W.Frag) (H : Hp) (v : V) (r : Str) : Prop where
  ex : ∃ d : PyData, Dp K H v d ∧ d.showable = true ∧ SeqAt.shaped d = true ∧ d.shown.length ≤ sizeLine ∧ d.shown = r
inductive Five : Addr → Str → Str → Prop where
  | book : Five 127 "NotABook" "value"
  | deed : Five 450 "InvalidDeed" "index"
  | many : Five 664 "TooManyDeeds" "limit"
  | unknown : Five 222 "UnknownTemplate" "value"
  | number : Five 298 "InvalidNumber" "value"
/-- what the program says of an exception's class -/
structure Ct (K : PySem.W.Frag) (D : Addr) (s1 s2 s3 t1 t2 t3 t4 t5 : Bool) : Prop where
  c : ExcC K D
  f : XfC K D
  a1 : PySem.W.kitOne K (.ref D) (.ref 81) = some s1
  a2 : PySem.W.kitOne K (.ref D) (.ref 94) = some s2
  a3 : PySem.W.kitOne K (.ref D) (.ref 107) = some s3
  b1 : PySem.W.kitOne K (.ref D) (.type "ValueError") = some s1
  b2 : PySem.W.kitOne K (.ref D) (.type "LookupError") = some s2
  b3 : PySem.W.kitOne K (.ref D) (.type "ArithmeticError") = some s3
  c1 : PySem.W.kitOne K (.ref D) (.ref 127) = some t1
  c2 : PySem.W.kitOne K (.ref D) (.ref 450) = some t2
  c3 : PySem.W.kitOne K (.ref D) (.ref 664) = some t3
  c4 : PySem.W.kitOne K (.ref D) (.ref 222) = some t4
  c5 : PySem.W.kitOne K (.ref D) (.ref 298) = some t5
  any : PySem.W.exmAny K (.ref D) [.ref 81, .ref 94, .ref 107] = some true
theorem ct127 (P : Params) : Ct (K0 P) 127 true false false true false false false false := ⟨⟨by kernel_rfl, by kernel_rfl, by kernel_rfl, by kernel_rfl, by kernel_rfl, by kernel_rfl, by kernel_rfl, by kernel_rfl⟩, xfB_ok (by kernel_rfl), by kernel_rfl, by kernel_rfl, by kernel_rfl, by kernel_rfl, by kernel_rfl, by kernel_rfl, by kernel_rfl, by kernel_rfl, by kernel_rfl, by kernel_rfl, by kernel_rfl, by kernel_rfl⟩
theorem ct450 (P : Params) : Ct (K0 P) 450 true false false false true false false false := ⟨⟨by kernel_rfl, by kernel_rfl, by kernel_rfl, by kernel_rfl, by kernel_rfl, by kernel_rfl, by kernel_rfl, by kernel_rfl⟩, xfB_ok (by kernel_rfl), by kernel_rfl, by kernel_rfl, by kernel_rfl, by kernel_rfl, by kernel_rfl, by kernel_rfl, by kernel_rfl, by kernel_rfl, by kernel_rfl, by kernel_rfl, by kernel_rfl, by kernel_rfl⟩
theorem ct664 (P : Params) : Ct (K0 P) 664 false false true false false true false false := ⟨⟨by kernel_rfl, by kernel_rfl, by kernel_rfl, by kernel_rfl, by kernel_rfl, by kernel_rfl, by kernel_rfl, by kernel_rfl⟩, xfB_ok (by kernel_rfl), by kernel_rfl, by kernel_rfl, by kernel_rfl, by kernel_rfl, by kernel_rfl, by kernel_rfl, by kernel_rfl, by kernel_rfl, by kernel_rfl, by kernel_rfl, by kernel_rfl, by kernel_rfl⟩
theorem ct222 (P : Params) : Ct (K0 P) 222 true false false false false false true false := ⟨⟨by kernel_rfl, by kernel_rfl, by kernel_rfl, by kernel_rfl, by kernel_rfl, by kernel_rfl, by kernel_rfl, by kernel_rfl⟩, xfB_ok (by kernel_rfl), by kernel_rfl, by kernel_rfl, by kernel_rfl, by kernel_rfl, by kernel_rfl, by kernel_rfl, by kernel_rfl, by kernel_rfl, by kernel_rfl, by kernel_rfl, by kernel_rfl, by kernel_rfl⟩
theorem ct298 (P : Params) : Ct (K0 P) 298 true false false false false false false true := ⟨⟨by kernel_rfl, by kernel_rfl, by kernel_rfl, by kernel_rfl, by kernel_rfl, by kernel_rfl, by kernel_rfl, by kernel_rfl⟩, xfB_ok (by kernel_rfl), by kernel_rfl, by kernel_rfl, by kernel_rfl, by kernel_rfl, by kernel_rfl, by kernel_rfl, by kernel_rfl, by kernel_rfl, by kernel_rfl, by kernel_rfl, by kernel_rfl, by kernel_rfl⟩
def EchC (K : PySem.W.Frag) (Q : VK) : XK := fun cls d H => ∃ (C : Addr) (nm f : Str) (v : V) (r : Str) (dd : Addr), cls = .ref C ∧ d = some dd ∧ H dd = some (.xd [(f, v)]) ∧ Five C nm f ∧ Rp K H v r ∧
  ∀ H2 l, Ex H H2 → H2 l = some (.lst [.str nm, .str r]) → Q (.ref l) H2
def TCaught (K : PySem.W.Frag) : (XK → Hp → VK → Prop) → Hp → VK → Prop := fun tl H Q => ∀ Qv : VK, (∀ v H' r, Rp K H' v r → (∀ H2 l, Ex H' H2 → H2 l = some (.lst [.str "told", .str r]) → Q (.ref l) H2) → Qv v H') → tl (EchC K Q) H Qv
def tAct (f c' : Addr) (q : Str) (n : Nat) (tl : XK → Hp → VK → Prop) (W : WX) : TE := fun σ H Q => ∃ Ech : XK, (∀ cls d σ' H', Ech cls d H' → σ'.length = n → W cls d σ' H') ∧ σ[0]? = some (some (.ref f)) ∧ H c' = some (CodeO c' q) ∧ tl Ech H Q
abbrev NC : List Str := ["_law_act", "_law_told", "e", "_law_sides", "_law_base", "_law_sorts", "_law_at"]
abbrev lcX (w : World) (mg : Str → Option Value) (base : Heap) (A : Around) (stack : List Env) (s : Shared) (H : Hp) (cdv : Value) : Cx := (cxOf C8.CX0 PR w (Kw w) mg base NC "_law_caught" (defScope s__law_caught) a__law_caught cdv A stack s H C8.E0).nox
theorem caught_gives {X : Cx} {k : Nat} {q : Str} {cdv : Value} (W : Wd w.params mg) (e1 : PR = X.prog) (e2 : w = X.w) (e3 : Kw w = X.K) (e4 : mg = X.mg) (hgu : X.A.guards = some []) (hr0 : Room (k + 1) X.A) :
    GivesTo X ["_law_act", "_law_told", "e", "_law_sides", "_law_base", "_law_sorts", "_law_at"] "_law_caught" (defScope s__law_caught) a__law_caught cdv (defBody s__law_caught) "_law_act" q (TCaught (Kw w)) := by
  intro f c' s H Q tl act hc h
  rcases X with ⟨prog, w', K, mg', base, A, N, s0, H0, env, outer, stack, ex, fn, calm, pn, xe⟩
  dsimp only at e1 e2 e3 e4 hgu hr0 act ⊢
  subst e1 e2 e3 e4
  have hr := hr0.deeper (envOfC "_law_caught" (defScope s__law_caught) s.heap.objs.size a__law_caught cdv)
  have hgu_ : (A.deeper (envOfC "_law_caught" (defScope s__law_caught) s.heap.objs.size a__law_caught cdv)).guards = some [] := hgu
  have act_ : ∀ (W0 : WX) (pn : List (Addr × Obj)) (xe : Value → Shared → Prop) (tk : Takes ((cxOf C8.CX0 PR w (Kw w) mg base ["_law_act", "_law_told", "e", "_law_sides", "_law_base", "_law_sorts", "_law_at"] "_law_caught" (defScope s__law_caught) a__law_caught cdv A stack s H C8.E0).nox.tr pn xe) W0) {p1 p2 : Pos},
      PE ((cxOf C8.CX0 PR w (Kw w) mg base ["_law_act", "_law_told", "e", "_law_sides", "_law_base", "_law_sorts", "_law_at"] "_law_caught" (defScope s__law_caught) a__law_caught cdv A stack s H C8.E0).nox.tr pn xe) (.Call (.Name "_law_act" p1) [] [] p2) (tAct f c' q 7 tl W0) := fun W0 pn xe tk p1 p2 => ⟨fun pins s' σ H' Q I h' => by
    obtain ⟨Ech, hW, h1, h2, h3⟩ := h'
    exact (act _ pn xe Ech p1 p2 (takes_len tk) fun cls d σ' H' he hl => hW cls d σ' H' he hl).run pins s' σ H' Q I ⟨h1, h2, h3⟩⟩
  clear act
  obtain ⟨ts_, hts⟩ : ∃ ts : Addr → Value → Option Addr → TS, ts = fun a cls d D σ H => σ.length = 7 ∧ σ[2]? = some (some (.ref a)) ∧ EchC (Kw w) D.rt cls d H := ⟨_, rfl⟩
  refine ⟨_, (pss_cons (ps_try_as3s (i := 2) ts_ rfl rfl sc__law_caught.nd rfl rfl ⟨rfl, rfl, .inl (g_SiteError W)⟩ ⟨rfl, rfl, .inl (g_StateError W)⟩ ⟨rfl, rfl, .inl (g_LimitError W)⟩ (fun W_ pn_ xe_ tk_ _ => (pss_one (ps_set (i := 1) sc__law_caught.nd rfl (Or.inl rfl) (act_ W_ pn_ xe_ tk_))))
    (fun a_ oe_ cls_ d_ pn_ hz_ hf_ => ?suite))
    (pss_one (ps_ret (pe_lst (pa_cons pe_str (pa_cons (pe_callB (call_reprD hgu_ hr.units70) rfl (n_repr W) boot_repr (pa_cons (pv 1) pa_nil)) pa_nil)))))), ?_⟩
  case suite =>
    refine ⟨_, (pss_cons (ps_set (i := 3) sc__law_caught.nd rfl (Or.inl rfl) (pe_lst (pa_cons (pe_callB (call_isG hz_ hf_) rfl (n_isinstance W) boot_isinstance (pa_cons (pv 2) (pa_cons (pe_glob (v := .ref 81) rfl (g_SiteError W) rfl) pa_nil))) (pa_cons (pe_callB (call_isG hz_ hf_) rfl (n_isinstance W) boot_isinstance (pa_cons (pv 2) (pa_cons (pe_glob (v := .ref 94) rfl (g_StateError W) rfl) pa_nil))) (pa_cons (pe_callB (call_isG hz_ hf_) rfl (n_isinstance W) boot_isinstance (pa_cons (pv 2) (pa_cons (pe_glob (v := .ref 107) rfl (g_LimitError W) rfl) pa_nil))) pa_nil)))))
    (pss_cons (ps_set (i := 4) sc__law_caught.nd rfl (Or.inl rfl) (pe_lst (pa_cons (pe_callB (call_isG hz_ hf_) rfl (n_isinstance W) boot_isinstance (pa_cons (pv 2) (pa_cons (pe_tyN rfl (n_ValueError W) boot_ValueError) pa_nil))) (pa_cons (pe_callB (call_isG hz_ hf_) rfl (n_isinstance W) boot_isinstance (pa_cons (pv 2) (pa_cons (pe_tyN rfl (n_LookupError W) boot_LookupError) pa_nil))) pa_nil))))
    (pss_cons (ps_expr (pe_bm (X := (lcX w mg base A stack s H cdv).suite a_ ((a_, oe_) :: pn_)) PySem.F.plainAttrs_list PySem.F.slot_list_append PySem.F.type_list_append mt_append (pv 4) (pa_cons (pe_callB (call_isG hz_ hf_) rfl (n_isinstance W) boot_isinstance (pa_cons (pv 2) (pa_cons (pe_tyN rfl (n_ArithmeticError W) boot_ArithmeticError) pa_nil))) pa_nil)))
    (pss_cons (ps_set (i := 5) sc__law_caught.nd rfl (Or.inl rfl) (pe_lst (pa_cons (pe_callB (call_isG hz_ hf_) rfl (n_isinstance W) boot_isinstance (pa_cons (pv 2) (pa_cons (pe_glob (v := .ref 127) rfl (g_NotABook W) rfl) pa_nil))) pa_nil)))
    (pss_cons (ps_expr (pe_bm (X := (lcX w mg base A stack s H cdv).suite a_ ((a_, oe_) :: pn_)) PySem.F.plainAttrs_list PySem.F.slot_list_append PySem.F.type_list_append mt_append (pv 5) (pa_cons (pe_callB (call_isG hz_ hf_) rfl (n_isinstance W) boot_isinstance (pa_cons (pv 2) (pa_cons (pe_glob (v := .ref 450) rfl (g_InvalidDeed W) rfl) pa_nil))) pa_nil)))
    (pss_cons (ps_expr (pe_bm (X := (lcX w mg base A stack s H cdv).suite a_ ((a_, oe_) :: pn_)) PySem.F.plainAttrs_list PySem.F.slot_list_append PySem.F.type_list_append mt_append (pv 5) (pa_cons (pe_callB (call_isG hz_ hf_) rfl (n_isinstance W) boot_isinstance (pa_cons (pv 2) (pa_cons (pe_glob (v := .ref 664) rfl (g_TooManyDeeds W) rfl) pa_nil))) pa_nil)))
    (pss_cons (ps_expr (pe_bm (X := (lcX w mg base A stack s H cdv).suite a_ ((a_, oe_) :: pn_)) PySem.F.plainAttrs_list PySem.F.slot_list_append PySem.F.type_list_append mt_append (pv 5) (pa_cons (pe_callB (call_isG hz_ hf_) rfl (n_isinstance W) boot_isinstance (pa_cons (pv 2) (pa_cons (pe_glob (v := .ref 222) rfl (g_UnknownTemplate W) rfl) pa_nil))) pa_nil)))
    (pss_cons (ps_expr (pe_bm (X := (lcX w mg base A stack s H cdv).suite a_ ((a_, oe_) :: pn_)) PySem.F.plainAttrs_list PySem.F.slot_list_append PySem.F.type_list_append mt_append (pv 5) (pa_cons (pe_callB (call_isG hz_ hf_) rfl (n_isinstance W) boot_isinstance (pa_cons (pv 2) (pa_cons (pe_glob (v := .ref 298) rfl (g_InvalidNumber W) rfl) pa_nil))) pa_nil)))
    (pss_cons (ps_if (PW.pt (pw_or (pt_cmpR op_ne (pe_bm (X := (lcX w mg base A stack s H cdv).suite a_ ((a_, oe_) :: pn_)) PySem.F.plainAttrs_list PySem.F.slot_list_count PySem.F.type_list_count mt_countB (pv 5) (pa_cons pe_bl pa_nil)) pe_int (nomark _)) (pw_or (pt_cmpR (op_neDK (K := Kw w) rfl hr.units) (pv 3) (pv 4) (nomark _)) (pw_or1 (pt_cmpR op_ne (pe_bm (X := (lcX w mg base A stack s H cdv).suite a_ ((a_, oe_) :: pn_)) PySem.F.plainAttrs_list PySem.F.slot_list_count PySem.F.type_list_count mt_countB (pv 3) (pa_cons pe_bl pa_nil)) pe_int (nomark _)))))) (pss_one (ps_ret (pe_lst (pa_cons pe_str pa_nil)))) pss_nil)
    (pss_cons (ps_set (i := 6) sc__law_caught.nd rfl (Or.inl rfl) (pe_bm (X := (lcX w mg base A stack s H cdv).suite a_ ((a_, oe_) :: pn_)) PySem.F.plainAttrs_list PySem.F.slot_list_index PySem.F.type_list_index mt_index (pv 5) (pa_cons pe_bl pa_nil)))
    (pss_cons (ps_if (pt_cmpR op_ne (pe_bm (X := (lcX w mg base A stack s H cdv).suite a_ ((a_, oe_) :: pn_)) PySem.F.plainAttrs_list PySem.F.slot_list_index PySem.F.type_list_index mt_index (pv 3) (pa_cons pe_bl pa_nil)) (pe_ix (ix_listK (K := Kw w) rfl) (pe_lst (pa_cons pe_int (pa_cons pe_int (pa_cons pe_int (pa_cons pe_int (pa_cons pe_int pa_nil)))))) (pv 6) (fun _ _ => rfl)) (nomark _)) (pss_one (ps_ret (pe_lst (pa_cons pe_str pa_nil)))) pss_nil)
    (pss_cons (ps_if (pt_cmpR op_eq (pv 6) pe_int (nomark _)) (pss_one (ps_ret (pe_lst (pa_cons pe_str (pa_cons (pe_callB (call_reprDK (K := Kw w) rfl hgu_ hr.units70) rfl (n_repr W) boot_repr (pa_cons (pe_xfG hz_ hf_ (pv 2)) pa_nil)) pa_nil))))) pss_nil)
    (pss_cons (ps_if (pt_cmpR op_eq (pv 6) pe_int (nomark _)) (pss_one (ps_ret (pe_lst (pa_cons pe_str (pa_cons (pe_callB (call_reprDK (K := Kw w) rfl hgu_ hr.units70) rfl (n_repr W) boot_repr (pa_cons (pe_xfG hz_ hf_ (pv 2)) pa_nil)) pa_nil))))) pss_nil)
    (pss_cons (ps_if (pt_cmpR op_eq (pv 6) pe_int (nomark _)) (pss_one (ps_ret (pe_lst (pa_cons pe_str (pa_cons (pe_callB (call_reprDK (K := Kw w) rfl hgu_ hr.units70) rfl (n_repr W) boot_repr (pa_cons (pe_xfG hz_ hf_ (pv 2)) pa_nil)) pa_nil))))) pss_nil)
    (pss_cons (ps_if (pt_cmpR op_eq (pv 6) pe_int (nomark _)) (pss_one (ps_ret (pe_lst (pa_cons pe_str (pa_cons (pe_callB (call_reprDK (K := Kw w) rfl hgu_ hr.units70) rfl (n_repr W) boot_repr (pa_cons (pe_xfG hz_ hf_ (pv 2)) pa_nil)) pa_nil))))) pss_nil)
    (pss_one (ps_if (pt_cmpR op_eq (pv 6) pe_int (nomark _)) (pss_one (ps_ret (pe_lst (pa_cons pe_str (pa_cons (pe_callB (call_reprDK (K := Kw w) rfl hgu_ hr.units70) rfl (n_repr W) boot_repr (pa_cons (pe_xfG hz_ hf_ (pv 2)) pa_nil)) pa_nil))))) pss_nil))))))))))))))))), ?_⟩
    intro D σ H' hh
    subst hts
    obtain ⟨hl, h2, C, nm, fld, v, r, dd, rfl, rfl, hdd, hfive, hrp, k⟩ := hh
    obtain ⟨x0, x1, x3, x4, x5, x6, rfl⟩ : ∃ x0 x1 x3 x4 x5 x6, σ = [x0, x1, some (.ref a_), x3, x4, x5, x6] := by
      match σ, hl, h2 with
      | [x0, x1, x2, x3, x4, x5, x6], _, h2 =>
        cases h2
        exact ⟨x0, x1, x3, x4, x5, x6, rfl⟩
    obtain ⟨s1, s2, s3, t1, t2, t3, t4, t5, j, at_, ct, hno, hc1, hc2, hj, hj0, hat, hat0, hjat, hfld⟩ : ∃ s1 s2 s3 t1 t2 t3 t4 t5, ∃ j at_ : Nat, Ct (Kw w) C s1 s2 s3 t1 t2 t3 t4 t5 ∧ PySem.W.findIn (Kw w) (.ref C) fld = some none ∧ [t1, t2, t3, t4, t5].count true = 1 ∧ [s1, s2, s3].count true = 1 ∧ [s1, s2, s3][j]? = some true ∧ (∀ m, m < j → [s1, s2, s3][m]? = some false) ∧
        [t1, t2, t3, t4, t5][at_]? = some true ∧ (∀ m, m < at_ → [t1, t2, t3, t4, t5][m]? = some false) ∧ ([0, 0, 2, 0, 0] : List Nat)[at_]? = some j ∧ ([("NotABook", "value"), ("InvalidDeed", "index"), ("TooManyDeeds", "limit"), ("UnknownTemplate", "value"), ("InvalidNumber", "value")] : List (Str × Str))[at_]? = some (nm, fld) := by
      cases hfive with
      | book => exact ⟨_, _, _, _, _, _, _, _, 0, 0, ct127 w.params, by kernel_rfl, rfl, rfl, rfl, fun m hm => by omega, rfl, fun m hm => by omega, rfl, rfl⟩
      | deed => exact ⟨_, _, _, _, _, _, _, _, 0, 1, ct450 w.params, by kernel_rfl, rfl, rfl, rfl, fun m hm => by omega, rfl, fun m hm => by
          match m, hm with
          | 0, _ => rfl, rfl, rfl⟩
      | many => exact ⟨_, _, _, _, _, _, _, _, 2, 2, ct664 w.params, by kernel_rfl, rfl, rfl, rfl, fun m hm => by
          match m, hm with
          | 0, _ => rfl
          | 1, _ => rfl, rfl, fun m hm => by
          match m, hm with
          | 0, _ => rfl
          | 1, _ => rfl, rfl, rfl⟩
      | unknown => exact ⟨_, _, _, _, _, _, _, _, 0, 3, ct222 w.params, by kernel_rfl, rfl, rfl, rfl, fun m hm => by omega, rfl, fun m hm => by
          match m, hm with
          | 0, _ => rfl
          | 1, _ => rfl
          | 2, _ => rfl, rfl, rfl⟩
      | number => exact ⟨_, _, _, _, _, _, _, _, 0, 4, ct298 w.params, by kernel_rfl, rfl, rfl, rfl, fun m hm => by omega, rfl, fun m hm => by
          match m, hm with
          | 0, _ => rfl
          | 1, _ => rfl
          | 2, _ => rfl
          | 3, _ => rfl, rfl, rfl⟩
    refine q_asgL (el_lst (ea_cons (ev_isG rfl hdd ct.c ev_c rel_ref ct.a1) (ea_cons (ev_isG rfl hdd ct.c ev_c rel_ref ct.a2) (ea_cons (ev_isG rfl hdd ct.c ev_c rel_ref ct.a3) ea_nil))) (by simp)) fun l1 H1 hl1 e1 h1 => ?_
    have hd1 := e1 _ _ hdd
    refine q_asgL (el_lst (ea_cons (ev_isG rfl hd1 ct.c ev_c rel_ty ct.b1) (ea_cons (ev_isG rfl hd1 ct.c ev_c rel_ty ct.b2) ea_nil)) (by simp)) fun l2 H2 hl2 e2 h2 => ?_
    refine q_appB rfl h2 (by simp) (ev_isG rfl (e2 _ _ hd1) ct.c ev_c rel_ty ct.b3) fun H3 e3 h3 => ?_
    have n12 : l1 ≠ l2 := fun z => by
      subst z
      rw [h1] at hl2
      cases hl2
    have nd2 : dd ≠ l2 := fun z => by
      subst z
      rw [hd1] at hl2
      cases hl2
    have k4 : Ks [l2] H' (upd H3 l2 (.lst ([.bl s1, .bl s2] ++ [.bl s3]))) := (Ks.of ((e1.trans e2).trans e3)).trans (.upd h3 (by simp))
    have a4 : (upd H3 l2 (.lst ([.bl s1, .bl s2] ++ [.bl s3]))) l1 = some (.lst [.bl s1, .bl s2, .bl s3]) := (upd_ne n12).trans ((e2.trans e3) _ _ h1)
    have b4 : (upd H3 l2 (.lst ([.bl s1, .bl s2] ++ [.bl s3]))) l2 = some (.lst [.bl s1, .bl s2, .bl s3]) := upd_same
    have d4 : (upd H3 l2 (.lst ([.bl s1, .bl s2] ++ [.bl s3]))) dd = some (.xd [(fld, v)]) := (upd_ne nd2).trans ((e2.trans e3) _ _ hd1)
    have hl2' : H' l2 = none := fresh_back e1 hl2
    generalize (upd H3 l2 (.lst ([.bl s1, .bl s2] ++ [.bl s3]))) = H4 at k4 a4 b4 d4
    refine q_asgL (el_lst (ea_cons (ev_isG rfl d4 ct.c ev_c rel_ref ct.c1) ea_nil) (by simp)) fun l3 H5 hl3 e5 h5 => ?_
    have n13 : l1 ≠ l3 := fun z => by
      subst z
      rw [a4] at hl3
      cases hl3
    have n23 : l2 ≠ l3 := fun z => by
      subst z
      rw [b4] at hl3
      cases hl3
    have nd3 : dd ≠ l3 := fun z => by
      subst z
      rw [d4] at hl3
      cases hl3
    have hl3' : H' l3 = none := by
      cases q : H' l3 with
      | none => rfl
      | some o =>
        rw [k4.at_ q (by simp only [List.mem_cons, List.not_mem_nil, or_false]; exact Ne.symm n23)] at hl3
        cases hl3
    obtain ⟨Stp, hStp⟩ : ∃ Stp : Hp → List V → Prop, Stp = fun Hc xs => Ks [l3, l2] H' Hc ∧ Hc l1 = some (.lst [.bl s1, .bl s2, .bl s3]) ∧ Hc l2 = some (.lst [.bl s1, .bl s2, .bl s3]) ∧ Hc l3 = some (.lst xs) ∧ Hc dd = some (.xd [(fld, v)]) := ⟨_, rfl⟩
    have st0 : Stp H5 [.bl t1] := by
      subst hStp
      exact ⟨(k4.mono fun a ha => List.mem_cons_of_mem _ ha).trans (.of e5), e5 _ _ a4, e5 _ _ b4, h5, e5 _ _ d4⟩
    have stE : ∀ {Hc Hd : Hp} {xs : List V}, Stp Hc xs → Ex Hc Hd → Stp Hd xs := by
      subst hStp
      intro Hc Hd xs ⟨q1, q2, q3, q4, q5⟩ e
      exact ⟨q1.trans (.of e), e _ _ q2, e _ _ q3, e _ _ q4, e _ _ q5⟩
    have stA : ∀ {Hc Hd : Hp} {xs : List V} {x : V}, Stp Hc xs → Ex Hc Hd → Stp (upd Hd l3 (.lst (xs ++ [x]))) (xs ++ [x]) := by
      intro Hc Hd xs x q e
      have q' := stE q e
      subst hStp
      obtain ⟨q1, q2, q3, q4, q5⟩ := q'
      exact ⟨q1.trans (.upd q4 (by simp)), (upd_ne n13).trans q2, (upd_ne n23).trans q3, upd_same, (upd_ne nd3).trans q5⟩
    have st3 : ∀ {Hc : Hp} {xs : List V}, Stp Hc xs → Hc l3 = some (.lst xs) := by
      subst hStp
      exact fun q => q.2.2.2.1
    have stD : ∀ {Hc : Hp} {xs : List V}, Stp Hc xs → Hc dd = some (.xd [(fld, v)]) := by
      subst hStp
      exact fun q => q.2.2.2.2
    refine q_appB rfl (st3 st0) (by simp) (ev_isG rfl (stD st0) ct.c ev_c rel_ref ct.c2) fun H6 e6 _ => ?_
    have st1 := stA (x := .bl t2) st0 e6
    generalize upd H6 l3 (.lst ([.bl t1] ++ [.bl t2])) = G1 at st1
    refine q_appB rfl (st3 st1) (by simp) (ev_isG rfl (stD st1) ct.c ev_c rel_ref ct.c3) fun H7 e7 _ => ?_
    have st2 := stA (x := .bl t3) st1 e7
    generalize upd H7 l3 (.lst (([.bl t1] ++ [.bl t2]) ++ [.bl t3])) = G2 at st2
    refine q_appB rfl (st3 st2) (by simp) (ev_isG rfl (stD st2) ct.c ev_c rel_ref ct.c4) fun H8 e8 _ => ?_
    have st4 := stA (x := .bl t4) st2 e8
    generalize upd H8 l3 (.lst ((([.bl t1] ++ [.bl t2]) ++ [.bl t3]) ++ [.bl t4])) = G3 at st4
    refine q_appB rfl (st3 st4) (by simp) (ev_isG rfl (stD st4) ct.c ev_c rel_ref ct.c5) fun H9 e9 _ => ?_
    have st5 := stA (x := .bl t5) st4 e9
    generalize upd H9 l3 (.lst (((([.bl t1] ++ [.bl t2]) ++ [.bl t3]) ++ [.bl t4]) ++ [.bl t5])) = G4 at st5
    have f3 := st3 st5
    have fd := stD st5
    obtain ⟨fk, f1, f2, _, _⟩ : Ks [l3, l2] H' G4 ∧ G4 l1 = some (.lst [.bl s1, .bl s2, .bl s3]) ∧ G4 l2 = some (.lst [.bl s1, .bl s2, .bl s3]) ∧ G4 l3 = some (.lst ([.bl t1] ++ [.bl t2] ++ [.bl t3] ++ [.bl t4] ++ [.bl t5])) ∧ G4 dd = some (.xd [(fld, v)]) := by
      rw [hStp] at st5
      exact st5
    clear st0 st1 st2 st4 st5 stA stE st3 stD
    have f1' : G4 l1 = some (.lst ([s1, s2, s3].map V.bl)) := f1
    have f3' : G4 l3 = some (.lst ([t1, t2, t3, t4, t5].map V.bl)) := f3
    have fe : Ex H' G4 := ((fk.drop hl3').drop hl2').ex0
    have sh3 : ∀ b1 b2 b3 : Bool, SeqAt.shaped (.list [.bool b1, .bool b2, .bool b3]) = true := by decide
    have q3 : ∀ {Hc : Hp} {l : Addr}, Hc l = some (.lst [.bl s1, .bl s2, .bl s3]) → Dp (Kw w) Hc (.ref l) (.list [.bool s1, .bool s2, .bool s3]) := fun h => .lst (sq_of h) (.cons (.bl _) (.cons (.bl _) (.cons (.bl _) .nil)))
    refine q_when (b := false) (et_is (et_or (et_test (ev_op (ev_cntB rfl f3' hc1) ev_c (rv_ne rfl))) fun _ => et_or (et_test (ev_neD (ed_var rfl (q3 f1)) (ed_var rfl (q3 f2)) (sh3 _ _ _) (sh3 _ _ _))) fun _ => et_test (ev_op (ev_cntB rfl f1' hc2) ev_c (rv_ne rfl))) ?_) (fun z => by cases z) fun _ H10 e10 => ?_
    · cases s1 <;> cases s2 <;> cases s3 <;> simp [PyData.eqv, PyData.eqvAll]
    refine q_asg (v := .int (at_ : Int)) (ev_idxB rfl (e10 _ _ f3') hat hat0) fun H11 e11 => ?_
    have e1011 := e10.trans e11
    have hlit : ([.int 0, .int 0, .int 2, .int 0, .int 0] : List V)[at_]? = some (.int (j : Int)) := by
      have : ([.int 0, .int 0, .int 2, .int 0, .int 0] : List V) = ([0, 0, 2, 0, 0] : List Nat).map fun n : Nat => V.int (n : Int) := rfl
      rw [this, List.getElem?_map, hjat] <;> rfl
    refine q_when (b := false) (et_is (et_test (ev_op (ev_idxB rfl (e1011 _ _ f1') hj hj0) (ev_ixNew (el_lst (ea_cons ev_c (ea_cons ev_c (ea_cons ev_c (ea_cons ev_c (ea_cons ev_c ea_nil))))) (by simp)) (ev_var rfl) hlit) (rv_ne rfl))) (by simp)) (fun z => by cases z) fun _ H12 e12 => ?_
    have eT := fe.trans (e1011.trans e12)
    have fin : ∀ {Hc : Hp} {te : TE} {f : Str} {σc : L2.St}, Ex H12 Hc → f = fld → σc[2]? = some (some (.ref a_)) → tRet (tLst (tCons (tC (.str nm)) (tCons (tCB (rReprD (Kw w)) (tCons (tXfG (Kw w) a_ (.ref C) (some dd) f (tVar 2)) tNil)) tNil))) D σc Hc := by
      intro Hc te f σc e hf hs
      subst hf
      refine s_retW (lstW (consW (cW (consW (cbW (consW ⟨C, ct.f, hno, varW hs ⟨rfl, rfl, dd, _, v, rfl, e _ _ (e1011.trans e12 _ _ fd), ?_, nilW ?_⟩⟩))))))
      · show ([(f, v)] : List (Str × V)).lookup f = some v
        rw [List.lookup_cons, beq_self_eq_true]
      have eC := eT.trans e
      obtain ⟨d, hd, sh1, sh2, hz, hr⟩ := hrp.ex
      subst hr
      exact ⟨v, d, rfl, hd.ex eC, sh1, sh2, hz, nilW ⟨sz_of (show (2 : Nat) ≤ 100000 by decide), fun l hl => k _ _ (eC.trans (Ex.new hl)) upd_same⟩⟩
    have ne : ∀ {x : Int} {n : Nat} {Hc : Hp}, x ≠ (n : Int) → EvT (tTest (tOp rEq (tVar 6) (tC (.int (n : Int))))) [x0, x1, some (.ref a_), some (.ref l1), some (.ref l2), some (.ref l3), some (.int x)] Hc false := fun h => et_is (et_test (ev_op (ev_var rfl) ev_c (rv_eq rfl))) (decide_eq_false fun z => h (V.int.inj z))
    have ye : ∀ {n : Nat} {Hc : Hp}, EvT (tTest (tOp rEq (tVar 6) (tC (.int (n : Int))))) [x0, x1, some (.ref a_), some (.ref l1), some (.ref l2), some (.ref l3), some (.int (n : Int))] Hc true := et_is (et_test (ev_op (ev_var rfl) ev_c (rv_eq rfl))) (decide_eq_true rfl)
    have hat5 : at_ < 5 := by
      have := (List.getElem?_eq_some_iff.mp hat).1
      simpa using this
    clear hat hat0 hjat hlit
    match at_, hat5, hfld with
    | 0, _, hf =>
      cases hf
      exact q_when (b := true) (ye (n := 0)) (fun _ H13 e13 => fin (te := tVar 2) e13 rfl rfl) fun z => by cases z
    | 1, _, hf =>
      cases hf
      refine q_when (b := false) (ne (n := 0) (by decide)) (fun z => by cases z) fun _ H13 e13 => ?_
      exact q_when (b := true) (ye (n := 1)) (fun _ H14 e14 => fin (te := tVar 2) (e13.trans e14) rfl rfl) fun z => by cases z
    | 2, _, hf =>
      cases hf
      refine q_when (b := false) (ne (n := 0) (by decide)) (fun z => by cases z) fun _ H13 e13 => ?_
      refine q_when (b := false) (ne (n := 1) (by decide)) (fun z => by cases z) fun _ H14 e14 => ?_
      exact q_when (b := true) (ye (n := 2)) (fun _ H15 e15 => fin (te := tVar 2) ((e13.trans e14).trans e15) rfl rfl) fun z => by cases z
    | 3, _, hf =>
      cases hf
      refine q_when (b := false) (ne (n := 0) (by decide)) (fun z => by cases z) fun _ H13 e13 => ?_
      refine q_when (b := false) (ne (n := 1) (by decide)) (fun z => by cases z) fun _ H14 e14 => ?_
      refine q_when (b := false) (ne (n := 2) (by decide)) (fun z => by cases z) fun _ H15 e15 => ?_
      exact q_when (b := true) (ye (n := 3)) (fun _ H16 e16 => fin (te := tVar 2) (((e13.trans e14).trans e15).trans e16) rfl rfl) fun z => by cases z
    | 4, _, hf =>
      cases hf
      refine q_when (b := false) (ne (n := 0) (by decide)) (fun z => by cases z) fun _ H13 e13 => ?_
      refine q_when (b := false) (ne (n := 1) (by decide)) (fun z => by cases z) fun _ H14 e14 => ?_
      refine q_when (b := false) (ne (n := 2) (by decide)) (fun z => by cases z) fun _ H15 e15 => ?_
      refine q_when (b := false) (ne (n := 3) (by decide)) (fun z => by cases z) fun _ H16 e16 => ?_
      exact s_when (b := true) (ye (n := 4)) (fun _ H17 e17 => fin (te := tVar 2) ((((e13.trans e14).trans e15).trans e16).trans e17) rfl rfl) fun z => by cases z
  subst hts
  refine q_asgW ⟨EchC (Kw w) Q, fun cls d σ' H' he hl => ⟨?_, fun a ha => ⟨by rw [List.length_set]; exact hl, by rw [List.getElem?_set_self (by omega)], he⟩⟩, rfl, hc, h _ fun v H' r hrp k => ?_⟩
  · obtain ⟨C, nm, fld, v, r, dd, rfl, rfl, hdd, hfive, _⟩ := he
    cases hfive with
    | book => exact (ct127 w.params).any
    | deed => exact (ct450 w.params).any
    | many => exact (ct664 w.params).any
    | unknown => exact (ct222 w.params).any
    | number => exact (ct298 w.params).any
  · obtain ⟨d, hd, sh1, sh2, hz, hr⟩ := hrp.ex
    subst hr
    exact s_retW (lstW (consW (cW (consW (cbW (consW (varW rfl (nilW ⟨v, d, rfl, hd, sh1, sh2, hz, nilW ⟨sz_of (show (2 : Nat) ≤ 100000 by decide), fun l hl => k _ l (Ex.new hl) upd_same⟩⟩))))))))
end
end K76
set_option maxHeartbeats 4000000
namespace K76
open PySem PySem.W PySem.Calls PyProof.Rows L2 Evl Ed LamX
section
variable {K : PySem.W.Frag} {σ : L2.St} {H : Hp} {te ta tb : TE} {tr tq : TA} {P : Hp → V → Prop} {n m : Nat}
/-- a value of which P holds -/
def EvW (te : TE) (σ : L2.St) (H : Hp) (P : Hp → V → Prop) : Prop := ∀ H1, Ex H H1 → ∀ Q : VK, (∀ v H2, Ex H1 H2 → P H2 v → Q v H2) → te σ H1 Q
def EvWs (tr : TA) (σ : L2.St) (H : Hp) (n : Nat) (P : Hp → V → Prop) : Prop := ∀ H1, Ex H H1 → ∀ Q : List V → Hp → Prop, (∀ vs H2, Ex H1 H2 → vs.length = n → (∀ v ∈ vs, P H2 v) → Q vs H2) → tr σ H1 Q
def EvLW (te : TE) (σ : L2.St) (H : Hp) (n : Nat) (P : Hp → V → Prop) : Prop := ∀ H1, Ex H H1 → ∀ Q : VK, (∀ l xs H2, Ex H1 H2 → H2 l = some (.lst xs) → xs.length = n → (∀ v ∈ xs, P H2 v) → Q (.ref l) H2) → te σ H1 Q
def StP (P : Hp → V → Prop) : Prop := ∀ v H H', Ex H H' → P H v → P H' v
theorem ew_nil : EvWs tNil σ H 0 P := fun H1 e Q q => q [] H1 (Ex.refl _) rfl (fun v h => by cases h)
theorem ew_cons (sp : StP P) (h : EvW te σ H P) (hr : EvWs tr σ H n P) : EvWs (tCons te tr) σ H (n + 1) P := fun H1 e Q q => h H1 e _ fun v H2 e2 p2 => hr H2 (e.trans e2) _ fun vs H3 e3 hl hp => q (v :: vs) H3 (e2.trans e3) (by rw [List.length_cons, hl]) fun x hx => by
  rcases List.mem_cons.mp hx with rfl | hx
  · exact sp _ _ _ e3 p2
  · exact hp x hx
theorem ew_lst (sp : StP P) (h : EvWs tr σ H n P) (hn : n ≤ 100000) : EvLW (tLst tr) σ H n P := fun H1 e Q q => h H1 e _ fun vs H2 e2 hl hp => ⟨sz_of (by omega), fun l hl' => q l vs _ (e2.trans (Ex.new hl')) upd_same hl fun v hv => sp _ _ _ (Ex.new hl') (hp v hv)⟩
theorem ew_cat (sp : StP P) (h1 : EvLW ta σ H n P) (h2 : EvLW tb σ H m P) (hn : n + m ≤ 100000) : EvLW (tOp rCat ta tb) σ H (n + m) P := fun H1 e Q q => h1 H1 e _ fun l xs H2 e2 hl hx hp => h2 H2 (e.trans e2) _ fun l' ys H3 e3 hl' hy hp' => ⟨l, l', xs, ys, rfl, rfl, e3 _ _ hl, hl', sz_of (by omega), fun r hr => q r (xs ++ ys) _ ((e2.trans e3).trans (Ex.new hr)) upd_same (by rw [List.length_append, hx, hy]) fun v hv => sp _ _ _ (Ex.new hr) (by
  rcases List.mem_append.mp hv with hv | hv
  · exact sp _ _ _ e3 (hp v hv)
  · exact hp' v hv)⟩
/-- anything -/
def PT : Hp → V → Prop := fun _ _ => True
theorem stPT : StP PT := fun _ _ _ _ _ => trivial
theorem ew_any {v : V} (h : Ev te σ H v) : EvW te σ H PT := fun H1 e Q q => h H1 e _ fun H2 e2 => q v H2 e2 trivial
theorem ew_tupA (h : EvWs tr σ H n PT) (hn : n ≤ 100000) : EvW (tTup tr) σ H PT := fun H1 e Q q => h H1 e _ fun vs H2 e2 hl _ => ⟨sz_of (by omega), fun l hl' => q _ _ (e2.trans (Ex.new hl')) trivial⟩
/-- of a type -/
def PTy (K : PySem.W.Frag) (A : String) : Hp → V → Prop := fun H v => TyX K H v (.type A)
theorem ew_tyN : EvW (tC .non) σ H (PTy K "NoneType") := fun H1 e Q q => q _ H1 (Ex.refl _) (.base .non)
theorem ew_tyB {b : Bool} : EvW (tC (.bl b)) σ H (PTy K "bool") := fun H1 e Q q => q _ H1 (Ex.refl _) (.base (.bl b))
theorem ew_tyI {i : Int} : EvW (tC (.int i)) σ H (PTy K "int") := fun H1 e Q q => q _ H1 (Ex.refl _) (.base (.int i))
theorem ew_tyS {x : Str} : EvW (tC (.str x)) σ H (PTy K "str") := fun H1 e Q q => q _ H1 (Ex.refl _) (.base (.str x))
theorem ew_tyT (h : EvWs tr σ H n PT) (hn : n ≤ 100000) : EvW (tTup tr) σ H (PTy K "tuple") := fun H1 e Q q => h H1 e _ fun vs H2 e2 hl _ => ⟨sz_of (by omega), fun l hl' => q _ _ (e2.trans (Ex.new hl')) (.base (.tup upd_same))⟩
theorem ew_tyL (h : EvWs tr σ H n PT) (hn : n ≤ 100000) : EvW (tLst tr) σ H (PTy K "list") := fun H1 e Q q => h H1 e _ fun vs H2 e2 hl _ => ⟨sz_of (by omega), fun l hl' => q _ _ (e2.trans (Ex.new hl')) (.base (.lst upd_same))⟩
theorem ew_tyD : EvW tDNewK σ H (PTy K "dict") := fun H1 e Q q l hl' => q _ _ (Ex.new hl') (.base (.dK upd_same))
theorem ew_varL {l : Addr} {xs : List V} {i : Nat} (hs : σ[i]? = some (some (.ref l))) (hl : H l = some (.lst xs)) (hn : xs.length = n) (sp : StP P) (hp : ∀ v ∈ xs, P H v) : EvLW (tVar i) σ H n P := fun H1 e Q q => ⟨_, hs, q l xs H1 (Ex.refl _) (e _ _ hl) hn fun v hv => sp _ _ _ e (hp v hv)⟩
theorem q_asgLW {D : Ends} {tz : TS} {i : Nat} (h : EvLW te σ H n P) (k : ∀ l xs H1, Ex H H1 → H1 l = some (.lst xs) → xs.length = n → (∀ v ∈ xs, P H1 v) → tz D (σ.set i (some (.ref l))) H1) : tSeq (tAsg te (gName i)) tz D σ H := h H (Ex.refl H) _ fun l xs H1 e h1 hl hp => k l xs H1 e h1 hl hp
theorem s_asgLW {D : Ends} {i : Nat} (h : EvLW te σ H n P) (k : ∀ l xs H1, Ex H H1 → H1 l = some (.lst xs) → xs.length = n → (∀ v ∈ xs, P H1 v) → D.nx (σ.set i (some (.ref l))) H1) : tAsg te (gName i) D σ H := h H (Ex.refl H) _ fun l xs H1 e h1 hl hp => k l xs H1 e h1 hl hp
/-! no deeds -/
def PJ (K : PySem.W.Frag) (f : Str → Nat → Bool) : Hp → V → Prop := fun H v => Jdg K H v f false
theorem stPJ {f : Str → Nat → Bool} : StP (PJ K f) := fun v H H' e j => Jdg.ex j e
theorem ej_nt {f : Str → Nat → Bool} {A : String} (h : EvW te σ H (PTy K A)) (hk : kitB A "tuple" = some false := by kernel_rfl) : EvW te σ H (PJ K f) := fun H1 e Q q => h H1 e _ fun v H2 e2 p => q v H2 e2 (.nt p hk)
theorem ej_em {f : Str → Nat → Bool} : EvW (tTup tNil) σ H (PJ K f) := fun H1 e Q q => ⟨sz_of (by decide), fun l hl' => q _ _ (Ex.new hl') (.em rfl (st_of upd_same))⟩
theorem ej_ns {f : Str → Nat → Bool} {A : String} (h : EvW te σ H (PTy K A)) (hr : EvWs tr σ H n PT) (hn : n ≤ 1000) (hk : kitB A "str" = some false := by kernel_rfl) : EvW (tTup (tCons te tr)) σ H (PJ K f) := fun H1 e Q q => h H1 e _ fun v H2 e2 p => hr H2 (e.trans e2) _ fun vs H3 e3 hl _ =>
  ⟨sz_of (by rw [List.length_cons]; omega), fun l hl' => q _ _ ((e2.trans e3).trans (Ex.new hl')) (.ns rfl (st_of upd_same) (tyX_ex p (e3.trans (Ex.new hl'))) hk)⟩
theorem ej_hd {f : Str → Nat → Bool} {x : Str} (hx : x ∈ heads) (hr : EvWs tr σ H n PT) (hn : n ≤ 1000) (hb : f x (n + 1) = false) : EvW (tTup (tCons (tC (.str x)) tr)) σ H (PJ K f) := fun H1 e Q q => hr H1 e _ fun vs H3 e3 hl _ =>
  ⟨sz_of (by rw [List.length_cons]; omega), fun l hl' => q _ _ (e3.trans (Ex.new hl')) (.hd rfl (st_of upd_same) hx (by rw [hl, hb]))⟩
end
section
variable {w : World} {mg : Str → Option Value} {base : Heap}
/-- objects keep their kind; all but lists, instances and tables stay -/
def Kd (H H' : Hp) : Prop := ∀ a o, H a = some o → (∀ ps, o ≠ .tbl ps) → ∃ o', H' a = some o' ∧ (o' = o ∨ (∃ xs ys, o = .lst xs ∧ o' = .lst ys) ∨ ∃ C dx f g, o = .ins C dx f ∧ o' = .ins C dx g)
theorem Kd.refl (H : Hp) : Kd H H := fun a o h _ => ⟨o, h, .inl rfl⟩
theorem Kd.trans {H H' H2 : Hp} (x : Kd H H') (y : Kd H' H2) : Kd H H2 := fun a o h n => by
  obtain ⟨o', h', c⟩ := x a o h n
  obtain ⟨o2, h2, c2⟩ := y a o' h' (by
    rcases c with rfl | ⟨_, _, _, rfl⟩ | ⟨_, _, _, _, _, rfl⟩
    · exact n
    · intro ps z; cases z
    · intro ps z; cases z)
  refine ⟨o2, h2, ?_⟩
  rcases c with rfl | ⟨xs, ys, rfl, rfl⟩ | ⟨C, dx, f, g, rfl, rfl⟩
  · exact c2
  · rcases c2 with rfl | ⟨_, zs, e, rfl⟩ | ⟨_, _, _, _, e, _⟩
    · exact .inr (.inl ⟨_, _, rfl, rfl⟩)
    · exact .inr (.inl ⟨_, _, rfl, rfl⟩)
    · cases e
  · rcases c2 with rfl | ⟨_, zs, e, _⟩ | ⟨C2, dx2, f2, g2, e, rfl⟩
    · exact .inr (.inr ⟨_, _, _, _, rfl, rfl⟩)
    · cases e
    · cases e
      exact .inr (.inr ⟨_, _, _, _, rfl, rfl⟩)
theorem Kd.of {H H' : Hp} (e : Ex H H') : Kd H H' := fun a o h _ => ⟨o, e a o h, .inl rfl⟩
theorem Kd.ofN {H H' : Hp} (e : ExtN H H') : Kd H H' := fun a o h n => ⟨o, e a o h n, .inl rfl⟩
theorem Kd.upl {H : Hp} {l : Addr} {xs ys : List V} (h : H l = some (.lst xs)) : Kd H (upd H l (.lst ys)) := fun a o ha _ => by
  by_cases z : a = l
  · subst z
    rw [h] at ha
    cases ha
    exact ⟨_, upd_same, .inr (.inl ⟨_, _, rfl, rfl⟩)⟩
  · exact ⟨o, (upd_ne z).trans ha, .inl rfl⟩
theorem Kd.kl {H H' : Hp} {p : Addr} {xs ys : List V} (k : Kl p H H') (h : H p = some (.lst xs)) (h' : H' p = some (.lst ys)) : Kd H H' := fun a o ha _ => by
  by_cases z : a = p
  · subst z
    rw [h] at ha
    cases ha
    exact ⟨_, h', .inr (.inl ⟨_, _, rfl, rfl⟩)⟩
  · exact ⟨o, k.at_ ha z, .inl rfl⟩
theorem Kd.kp {H H' : Hp} {x C dx : Addr} {fs : List (Str × V)} (k : Kp x H H') (h : H x = some (.ins C dx fs)) : Kd H H' := fun a o ha _ => by
  by_cases z : a = x
  · subst z
    obtain ⟨fs', h'⟩ := k.ins _ _ _ h
    rw [h] at ha
    cases ha
    exact ⟨_, h', .inr (.inr ⟨_, _, _, _, rfl, rfl⟩)⟩
  · exact ⟨o, k.at_ ha z, .inl rfl⟩
theorem Kd.tx {H H' : Hp} (k : Kd H H') : Tx H H' := fun a xs r => by
  rcases r with r | ⟨p, r⟩
  · obtain ⟨o', h', c⟩ := k a _ r (fun ps z => by cases z)
    rcases c with rfl | ⟨_, _, e, _⟩ | ⟨_, _, _, _, e, _⟩
    · exact .inl h'
    · cases e
    · cases e
  · obtain ⟨o', h', c⟩ := k a _ r (fun ps z => by cases z)
    rcases c with rfl | ⟨_, _, e, _⟩ | ⟨_, _, _, _, e, _⟩
    · exact .inr ⟨p, h'⟩
    · cases e
    · cases e
theorem Kd.at_ {H H' : Hp} (k : Kd H H') {a : Addr} {o : HO} (h : H a = some o) (h1 : ∀ ps, o ≠ .tbl ps) (h2 : ∀ xs, o ≠ .lst xs) (h3 : ∀ C dx fs, o ≠ .ins C dx fs) : H' a = some o := by
  obtain ⟨o', h', c⟩ := k a _ h h1
  rcases c with rfl | ⟨_, _, e, _⟩ | ⟨_, _, _, _, e, _⟩
  · exact h'
  · exact absurd e (h2 _)
  · exact absurd e (h3 _ _ _)
theorem tyX_kd {K : PySem.W.Frag} {H H' : Hp} {v : V} {t : Value} (h : TyX K H v t) (k : Kd H H') : TyX K H' v t := by
  cases h with
  | base b =>
    cases b with
    | non => exact .base .non
    | bl x => exact .base (.bl x)
    | int x => exact .base (.int x)
    | str x => exact .base (.str x)
    | flt x => exact .base (.flt x)
    | lst e =>
      obtain ⟨o', h', c⟩ := k _ _ e (fun ps z => by cases z)
      rcases c with rfl | ⟨_, _, _, rfl⟩ | ⟨_, _, _, _, z, _⟩
      · exact .base (.lst h')
      · exact .base (.lst h')
      · cases z
    | frz e => exact .base (.frz (k.at_ e (fun _ z => by cases z) (fun _ z => by cases z) (fun _ _ _ z => by cases z)))
    | tup e => exact .base (.tup (k.at_ e (fun _ z => by cases z) (fun _ z => by cases z) (fun _ _ _ z => by cases z)))
    | dK e => exact .base (.dK (k.at_ e (fun _ z => by cases z) (fun _ z => by cases z) (fun _ _ _ z => by cases z)))
    | dT e => exact .base (.dT (k.at_ e (fun _ z => by cases z) (fun _ z => by cases z) (fun _ _ _ z => by cases z)))
    | ins e cl ha hn htk hm =>
      obtain ⟨o', h', c⟩ := k _ _ e (fun ps z => by cases z)
      rcases c with rfl | ⟨_, _, z, _⟩ | ⟨_, _, _, _, z, rfl⟩
      · exact .base (.ins h' cl ha hn htk hm)
      · cases z
      · cases z
        exact .base (.ins h' cl ha hn htk hm)
  | byt b => exact .byt b
  | set e => exact .set (k.at_ e (fun _ z => by cases z) (fun _ z => by cases z) (fun _ _ _ z => by cases z))
  | kList e c => exact .kList e c
  | kTuple e c => exact .kTuple e c
  | kDict e c => exact .kDict e c
  | fTuple e => exact .fTuple (k.at_ e (fun _ z => by cases z) (fun _ z => by cases z) (fun _ _ _ z => by cases z))
  | fDict e => exact .fDict (k.at_ e (fun _ z => by cases z) (fun _ z => by cases z) (fun _ _ _ z => by cases z))
theorem Jdg.kd {K : PySem.W.Frag} {H H' : Hp} {v : V} {f : Str → Nat → Bool} {b : Bool} (j : Jdg K H v f b) (e : Kd H H') : Jdg K H' v f b := by
  cases j with
  | nt h hk => exact .nt (tyX_kd h e) hk
  | em e1 h => exact .em e1 (tx_t e.tx h)
  | ns e1 h hy hk => exact .ns e1 (tx_t e.tx h) (tyX_kd hy e) hk
  | hd e1 h hx hb => exact .hd e1 (tx_t e.tx h) hx hb
theorem PoolAt.lst {H : Hp} {p : Addr} {n : Nat} (h : PoolAt H p n) : ∃ xs, H p = some (.lst xs) := by
  obtain ⟨_, _, _, q, _⟩ := h
  exact ⟨_, q⟩
theorem Kd.pool {H H' : Hp} {p : Addr} {n m : Nat} (k : Kl p H H') (h : PoolAt H p n) (h' : PoolAt H' p m) : Kd H H' := by
  obtain ⟨_, q⟩ := h.lst
  obtain ⟨_, q'⟩ := h'.lst
  exact .kl k q q'
/-- all but the objects of L (and the tables) stands as it stood -/
structure Kz (L : List Addr) (H H' : Hp) : Prop where
  off : ∀ b o, H b = some o → b ∉ L → (∀ ps, o ≠ .tbl ps) → H' b = some o
  kd : Kd H H'
section
variable {L M : List Addr} {H H' H2 : Hp}
theorem Kz.refl (L : List Addr) (H : Hp) : Kz L H H := ⟨fun _ _ h _ _ => h, .refl _⟩
theorem Kz.trans (x : Kz L H H') (y : Kz L H' H2) : Kz L H H2 := ⟨fun b o h n t => y.off b o (x.off b o h n t) n t, x.kd.trans y.kd⟩
theorem Kz.of (e : Ex H H') : Kz L H H' := ⟨fun b o h _ _ => e b o h, .of e⟩
theorem Kz.ofN (e : ExtN H H') : Kz L H H' := ⟨fun b o h _ t => e b o h t, .ofN e⟩
theorem Kz.mono (x : Kz L H H') (h : ∀ a ∈ L, a ∈ M) : Kz M H H' := ⟨fun b o q n t => x.off b o q (fun z => n (h b z)) t, x.kd⟩
theorem Kz.upl {l : Addr} {xs ys : List V} (h : H l = some (.lst xs)) (hl : l ∈ L) : Kz L H (upd H l (.lst ys)) := ⟨fun b o q n _ => (upd_ne fun z => n (by rw [z]; exact hl)).trans q, .upl h⟩
theorem Kz.pool {p : Addr} {n m : Nat} (k : Kl p H H') (h : PoolAt H p n) (h' : PoolAt H' p m) (hp : p ∈ L) : Kz L H H' := ⟨fun b o q z _ => k.at_ q (fun e => z (by rw [e]; exact hp)), .pool k h h'⟩
theorem Kz.kp {x C dx : Addr} {fs : List (Str × V)} (k : Kp x H H') (h : H x = some (.ins C dx fs)) (hx : x ∈ L) : Kz L H H' := ⟨fun b o q z _ => k.at_ q (fun e => z (by rw [e]; exact hx)), .kp k h⟩
/-- what came later may change too -/
theorem Kz.drop {a : Addr} (k : Kz (a :: L) H H') (h : H a = none) : Kz L H H' := ⟨fun b o q n t => k.off b o q (fun z => by
  rcases List.mem_cons.mp z with z | z
  · rw [z, h] at q
    cases q
  · exact n z) t, k.kd⟩
end
/-! ### _law_odd -/
theorem sc__law_odd : FnScope ["_law_pool_here", "_law_plain", "_law_some"] ["_law_pool_here", "_law_plain"] (defScope s__law_odd) := ⟨rfl, rfl, rfl, by decide +kernel, rfl, by decide +kernel, by decide +kernel⟩
def spOdd (K : PySem.W.Frag) : Sp := fun vs H Q _ => ∃ (p : Addr) (n : Nat) (plain : Bool), vs = [.ref p, .bl plain] ∧ PoolAt H p n ∧ n ≤ 99000 ∧ ∀ v H', Kl p H H' → PoolAt H' p (n + 1) → Jdg K H' v (if plain = true then fW else fWS) false → Q v H'
theorem ok__law_odd (W : Wd w.params mg) : Ok w mg base CX0 2 a__law_odd fd__law_odd ["_law_pool_here", "_law_plain"] (spOdd (Kw w)) := by
  refine (F__law_odd w.params).ok sc__law_odd (fun vs H Q E h => ?_) (fun cdv A outer s H vs Q E hr h => ?_)
  · obtain ⟨p, n, pl, rfl, _⟩ := h
    rfl
  · obtain ⟨p, n, pl, rfl, po, hn, k⟩ := h
    refine ⟨_, (pss_cons (ps_set (i := 2) sc__law_odd.nd rfl (Or.inl rfl) (pe_lst (pa_cons pe_non (pa_cons (pe_tup pa_nil) (pa_cons (pe_lst pa_nil) (pa_cons pe_str (pa_cons pe_int (pa_cons (pe_tup (pa_cons pe_str pa_nil)) (pa_cons (pe_tup (pa_cons pe_str (pa_cons pe_int (pa_cons pe_int pa_nil)))) (pa_cons (pe_tup (pa_cons pe_str (pa_cons pe_int pa_nil))) (pa_cons (pe_tup (pa_cons pe_int (pa_cons pe_int pa_nil))) (pa_cons (pe_lst (pa_cons pe_str (pa_cons pe_str pa_nil))) (pa_cons (pe_tup (pa_cons pe_str pa_nil)) pa_nil)))))))))))))
    (pss_cons (ps_set (i := 2) sc__law_odd.nd rfl (Or.inl rfl) (pe_op op_cat (pv 2) (pe_lst (pa_cons (pe_tup (pa_cons pe_non (pa_cons pe_int pa_nil))) (pa_cons (pe_tup (pa_cons (pe_tup (pa_cons pe_str pa_nil)) (pa_cons pe_int pa_nil))) (pa_cons (pe_tup (pa_cons pe_str (pa_cons pe_str pa_nil))) (pa_cons (pe_tup (pa_cons pe_str (pa_cons pe_non (pa_cons pe_non pa_nil)))) (pa_cons (pe_tup (pa_cons pe_bl (pa_cons pe_str pa_nil))) (pa_cons (pe_tup (pa_cons pe_str (pa_cons pe_str pa_nil))) pa_nil)))))))))
    (pss_cons (ps_set (i := 2) sc__law_odd.nd rfl (Or.inl rfl) (pe_op op_cat (pv 2) (pe_lst (pa_cons (pe_tup (pa_cons pe_str pa_nil)) (pa_cons (pe_tup (pa_cons pe_str (pa_cons pe_str (pa_cons (pe_tup pa_nil) pa_nil)))) (pa_cons (pe_tup (pa_cons pe_str (pa_cons (pe_tup pa_nil) pa_nil))) (pa_cons (pe_tup (pa_cons pe_str (pa_cons pe_str (pa_cons pe_str pa_nil)))) (pa_cons (pe_tup (pa_cons pe_dnewK (pa_cons pe_int pa_nil))) (pa_cons (pe_tup (pa_cons (pe_lst pa_nil) (pa_cons pe_int pa_nil))) pa_nil)))))))))
    (pss_cons (ps_if (pt_val (pv 1)) (pss_one (ps_set (i := 2) sc__law_odd.nd rfl (Or.inl rfl) (pe_op op_cat (pv 2) (pe_lst (pa_cons (pe_tup (pa_cons pe_str (pa_cons pe_str (pa_cons pe_non pa_nil)))) (pa_cons (pe_tup (pa_cons pe_str (pa_cons pe_str pa_nil))) (pa_cons (pe_tup (pa_cons pe_str (pa_cons pe_str (pa_cons (pe_tup pa_nil) (pa_cons pe_non pa_nil))))) pa_nil))))))) pss_nil)
    (pss_one (ps_ret (pe_ix ix_list (pv 2) (pe_call (ok__law_draw W) (hr.mono (by decide)) rfl (g__law_draw W) (F__law_draw _).kp (b__law_draw _) .nil pass0 (pa_cons (pv 0) (pa_cons (pe_callB call_len_seq rfl (n_len W) boot_len (pa_cons (pv 2) pa_nil)) pa_nil))) (fun _ _ => rfl)))))))), ?_⟩
    obtain ⟨f, hf⟩ : ∃ f, f = if pl = true then fW else fWS := ⟨_, rfl⟩
    rw [← hf] at k
    have fb : ∀ x n, fW x n = false → fS x n = false → f x n = false := fun x n a b => by
      rw [hf]
      split
      · exact a
      · show (fW x n || fS x n) = false
        rw [a, b] <;> rfl
    refine q_asgLW (P := PJ (Kw w) f) (ew_lst stPJ (ew_cons stPJ (ej_nt ew_tyN) (ew_cons stPJ ej_em (ew_cons stPJ (ej_nt (ew_tyL ew_nil (by decide))) (ew_cons stPJ (ej_nt ew_tyS) (ew_cons stPJ (ej_nt ew_tyI) (ew_cons stPJ (ej_hd (by simp [heads]) ew_nil (by decide) (fb _ _ (by decide +kernel) (by decide +kernel))) (ew_cons stPJ (ej_hd (by simp [heads]) (ew_cons stPT (ew_any ev_c) (ew_cons stPT (ew_any ev_c) ew_nil)) (by decide) (fb _ _ (by decide +kernel) (by decide +kernel))) (ew_cons stPJ (ej_hd (by simp [heads]) (ew_cons stPT (ew_any ev_c) ew_nil) (by decide) (fb _ _ (by decide +kernel) (by decide +kernel))) (ew_cons stPJ (ej_ns ew_tyI (ew_cons stPT (ew_any ev_c) ew_nil) (by decide)) (ew_cons stPJ (ej_nt (ew_tyL (ew_cons stPT (ew_any ev_c) (ew_cons stPT (ew_any ev_c) ew_nil)) (by decide))) (ew_cons stPJ (ej_hd (by simp [heads]) ew_nil (by decide) (fb _ _ (by decide +kernel) (by decide +kernel))) ew_nil))))))))))) (by decide)) fun l1 xs1 H1 e1 h1 hl1 hp1 => ?_
    have v1 : EvLW (tVar 2) [some (.ref p), some (.bl pl), some (.ref l1)] H1 11 (PJ (Kw w) f) := ew_varL rfl h1 hl1 stPJ hp1
    refine q_asgLW (P := PJ (Kw w) f) (ew_cat stPJ v1 (ew_lst stPJ (ew_cons stPJ (ej_ns ew_tyN (ew_cons stPT (ew_any ev_c) ew_nil) (by decide)) (ew_cons stPJ (ej_ns (ew_tyT (ew_cons stPT (ew_any ev_c) ew_nil) (by decide)) (ew_cons stPT (ew_any ev_c) ew_nil) (by decide)) (ew_cons stPJ (ej_hd (by simp [heads]) (ew_cons stPT (ew_any ev_c) ew_nil) (by decide) (fb _ _ (by decide +kernel) (by decide +kernel))) (ew_cons stPJ (ej_hd (by simp [heads]) (ew_cons stPT (ew_any ev_c) (ew_cons stPT (ew_any ev_c) ew_nil)) (by decide) (fb _ _ (by decide +kernel) (by decide +kernel))) (ew_cons stPJ (ej_ns ew_tyB (ew_cons stPT (ew_any ev_c) ew_nil) (by decide)) (ew_cons stPJ (ej_hd (by simp [heads]) (ew_cons stPT (ew_any ev_c) ew_nil) (by decide) (fb _ _ (by decide +kernel) (by decide +kernel))) ew_nil)))))) (by decide)) (by decide)) fun l2 xs2 H2 e2 h2 hl2 hp2 => ?_
    have v2 : EvLW (tVar 2) [some (.ref p), some (.bl pl), some (.ref l2)] H2 17 (PJ (Kw w) f) := ew_varL rfl h2 hl2 stPJ hp2
    refine q_asgLW (P := PJ (Kw w) f) (ew_cat stPJ v2 (ew_lst stPJ (ew_cons stPJ (ej_hd (by simp [heads]) ew_nil (by decide) (fb _ _ (by decide +kernel) (by decide +kernel))) (ew_cons stPJ (ej_hd (by simp [heads]) (ew_cons stPT (ew_any ev_c) (ew_cons stPT (ew_tupA ew_nil (by decide)) ew_nil)) (by decide) (fb _ _ (by decide +kernel) (by decide +kernel))) (ew_cons stPJ (ej_hd (by simp [heads]) (ew_cons stPT (ew_tupA ew_nil (by decide)) ew_nil) (by decide) (fb _ _ (by decide +kernel) (by decide +kernel))) (ew_cons stPJ (ej_hd (by simp [heads]) (ew_cons stPT (ew_any ev_c) (ew_cons stPT (ew_any ev_c) ew_nil)) (by decide) (fb _ _ (by decide +kernel) (by decide +kernel))) (ew_cons stPJ (ej_ns ew_tyD (ew_cons stPT (ew_any ev_c) ew_nil) (by decide)) (ew_cons stPJ (ej_ns (ew_tyL ew_nil (by decide)) (ew_cons stPT (ew_any ev_c) ew_nil) (by decide)) ew_nil)))))) (by decide)) (by decide)) fun l3 xs3 H3 e3 h3 hl3 hp3 => ?_
    have fin : ∀ (l : Addr) (xs : List V) (Hc : Hp), Ex H Hc → Hc l = some (.lst xs) → 1 ≤ xs.length → xs.length ≤ 1000 → (∀ v ∈ xs, PJ (Kw w) f Hc v) → ∀ (r : Nat) H', (r : Int) < (xs.length : Int) → Kl p Hc H' → PoolAt H' p (n + 1) → Hc l ≠ none → l ≠ p → rIxL (Kw w) (.ref l) (.int (r : Int)) H' Q := by
      intro l xs Hc e hl h1 h2 hp r H' hr kl po' _ hlp
      have hl' := kl.at_ hl hlp
      obtain ⟨v, hv⟩ : ∃ v, xs[r]? = some v := ⟨_, List.getElem?_eq_getElem (by omega)⟩
      refine ⟨l, xs, _, v, rfl, rfl, sq_of hl', atI_nat hv, k v H' ((Kl.of e).trans kl) po' ((hp v (List.mem_of_getElem? hv)).kd (.pool kl (po.ex e) po'))⟩
    refine q_when (b := pl) (et_test (ev_var rfl)) (fun hpl H4 e4 => ?_) (fun hpl H4 e4 => ?_)
    · have fp : ∀ x n, fW x n = false → f x n = false := fun x n a => by
        rw [hf, if_pos hpl]
        exact a
      have v3 : EvLW (tVar 2) [some (.ref p), some (.bl pl), some (.ref l3)] H4 23 (PJ (Kw w) f) := ew_varL rfl (e4 _ _ h3) hl3 stPJ fun v hv => stPJ _ _ _ e4 (hp3 v hv)
      refine q_asgLW (P := PJ (Kw w) f) (ew_cat stPJ v3 (ew_lst stPJ (ew_cons stPJ (ej_hd (by simp [heads]) (ew_cons stPT (ew_any ev_c) (ew_cons stPT (ew_any ev_c) ew_nil)) (by decide) (fp _ _ (by decide +kernel))) (ew_cons stPJ (ej_hd (by simp [heads]) (ew_cons stPT (ew_any ev_c) ew_nil) (by decide) (fp _ _ (by decide +kernel))) (ew_cons stPJ (ej_hd (by simp [heads]) (ew_cons stPT (ew_any ev_c) (ew_cons stPT (ew_tupA ew_nil (by decide)) (ew_cons stPT (ew_any ev_c) ew_nil))) (by decide) (fp _ _ (by decide +kernel))) ew_nil))) (by decide)) (by decide)) fun l4 xs4 H5 e5 h5 hl5 hp5 => ?_
      refine s_retW (opW (varW rfl (draw_at (m := (xs4.length : Int)) (ev_var rfl) (ev_len (ev_var rfl) (sq_of h5)) (po.ex ((((e1.trans e2).trans e3).trans e4).trans e5)) (by omega) (by omega) (by omega) fun r H' hr kl po' => fin l4 xs4 _ ((((e1.trans e2).trans e3).trans e4).trans e5) h5 (by omega) (by omega) hp5 r H' hr kl po' (by rw [h5]; simp) fun z => ?_)))
      subst z
      obtain ⟨_, _, _, q, _⟩ := po.ex ((((e1.trans e2).trans e3).trans e4).trans e5)
      rw [h5] at q
      simp at q
      have := congrArg List.length q
      simp at this
      omega
    · have h34 := e4 _ _ h3
      refine s_retW (opW (varW rfl (draw_at (m := (xs3.length : Int)) (ev_var rfl) (ev_len (ev_var rfl) (sq_of h34)) (po.ex (((e1.trans e2).trans e3).trans e4)) (by omega) (by omega) (by omega) fun r H' hr kl po' => fin l3 xs3 _ (((e1.trans e2).trans e3).trans e4) h34 (by omega) (by omega) (fun v hv => stPJ _ _ _ e4 (hp3 v hv)) r H' hr kl po' (by rw [h34]; simp) fun z => ?_)))
      subst z
      obtain ⟨_, _, _, q, _⟩ := po.ex (((e1.trans e2).trans e3).trans e4)
      rw [h34] at q
      simp at q
      have := congrArg List.length q
      simp at this
      omega
end
end K76
set_option maxHeartbeats 4000000
namespace K76
open PySem PySem.W PySem.Calls PyProof.Rows L2 Evl Ed LamX
/-- the two kinds of shop -/
inductive ShopC : Addr → Str → (Str → Nat → Bool) → Prop where
  | w : ShopC 1440 "Workshop" fW
  | s : ShopC 1504 "SiteWorkshop" fWS
theorem ShopC.sc {P : Params} {C : Addr} {lab : Str} {f : Str → Nat → Bool} (h : ShopC C lab f) : Sc (K0 P) C := by
  cases h
  · exact scW
  · exact scS
theorem ShopC.con {P : Params} {C : Addr} {lab : Str} {f : Str → Nat → Bool} (h : ShopC C lab f) : ∃ u, Con (K0 P) C "LABEL" (.str lab) u := by
  cases h
  · exact ⟨_, con_Workshop_LABEL⟩
  · exact ⟨_, con_SiteWorkshop_LABEL⟩
theorem ShopC.len {C : Addr} {lab : Str} {f : Str → Nat → Bool} (h : ShopC C lab f) : lab.length ≤ 20 := by
  cases h <;> decide
def shownL (lab : Str) (ts : List Tmp) (d : PyData) (n : Nat) : List PyData := [tsD ts, .tuple [], .tuple (List.replicate n d), .int (n : Int), .bool false, .str (reprW lab ts.length)]
theorem imm_rep {d : PyData} (n : Nat) (hd : immD d = true) : immD (.tuple (List.replicate n d)) = true := immAll_iff.mpr fun y hy => by
  rw [(List.mem_replicate.mp hy).2]
  exact hd
section
variable {K : PySem.W.Frag} {σ : L2.St} {H : Hp} {te : TE} {E : XK} {x C dx : Addr} {fs : List (Str × V)} {v : V}
theorem ed_lstV {tr : TA} {ds : List PyData} (h : EvAD K tr σ H ds) (hz : ds.length ≤ 100000) : EvD K (tLst tr) σ H (.list ds) := fun H1 e Q q => h H1 e _ fun vs H2 e2 hd => ⟨sz_of (by rw [hd.len]; exact hz), fun l hl => q _ _ (e2.trans (Ex.new hl)) (.lst (sq_of upd_same) (hd.ex (Ex.new hl)))⟩
theorem ev_propHeld (h : Ev te σ H (.ref x)) (hx : H x = some (.ins C dx fs)) (sc : Sc K C) (hf : fs.lookup ("held" : Str) = some v) : Ev (tProp C (spHeld K) [] E te) σ H v := fun H1 e Q q =>
  h H1 e _ fun H2 e2 => ⟨x, dx, fs, rfl, (e.trans e2) _ _ hx, x, C, dx, fs, v, rfl, sc, (e.trans e2) _ _ hx, hf, fun H3 e3 => q H3 (e2.trans e3)⟩
theorem ev_lenShop {ds : List PyData} (h : Ev te σ H (.ref x)) (hx : H x = some (.ins C dx fs)) (sc : Sc K C) (hf : fs.lookup ("log" : Str) = some v) (hd : Dp K H v (.tuple ds)) (hi : immAll ds = true) (hl : ds.length < 1000) : Ev (tCB (rLenO C (spWLen K) E) (tCons te tNil)) σ H (.int (ds.length : Int)) := fun H1 e Q q =>
  h H1 e _ fun H2 e2 => ⟨x, dx, fs, rfl, (e.trans e2) _ _ hx, x, C, dx, fs, v, ds, rfl, sc, (e.trans e2) _ _ hx, hf, (hd.ex e).ex e2, fun H3 e3 => ⟨_, rfl, by omega, by omega, q H3 (e2.trans e3)⟩⟩
theorem ev_reprShop {b : Addr} {hv : V} {nm : Str} {u : Value} {ks : List (Str × Int)} {ts : List Tmp} (h : Ev te σ H (.ref x)) (hx : H x = some (.ins C dx fs)) (sc : Sc K C) (h1 : fs.lookup ("book" : Str) = some (.ref b)) (h2 : fs.lookup ("held" : Str) = some hv) (h3 : fs.lookup ("LABEL" : Str) = none) (hc : Con K C "LABEL" (.str nm) u) (hn : nm.length ≤ 20)
    (hb : BookAt K H b ks ts) (hts : ts.length ≤ 9) (hh : Dp K H hv (.tuple [])) : Ev (tCB (rReprO C (spRepr K) E) (tCons te tNil)) σ H (.str (reprW nm ts.length)) := fun H1 e Q q =>
  h H1 e _ fun H2 e2 => ⟨x, dx, fs, rfl, (e.trans e2) _ _ hx, x, C, dx, b, fs, hv, nm, u, ks, ts, rfl, sc, (e.trans e2) _ _ hx, h1, h2, h3, hc, hn, hb.ex (e.trans e2), hts, (hh.ex e).ex e2, fun H3 e3 => ⟨_, rfl, q H3 (e2.trans e3)⟩⟩
end
section
variable {w : World} {mg : Str → Option Value} {base : Heap}
/-! ### _law_shown -/
theorem sc__law_shown : FnScope ["_law_shop"] ["_law_shop"] (defScope s__law_shown) := ⟨rfl, rfl, rfl, by decide +kernel, rfl, by decide +kernel, by decide +kernel⟩
def spShown (K : PySem.W.Frag) : Sp := fun vs H Q _ => ∃ (x C : Addr) (lab : Str) (f : Str → Nat → Bool) (ks : List (Str × Int)) (ts : List Tmp) (d : PyData) (n : Nat), vs = [.ref x] ∧ ShopC C lab f ∧ ShopAt K C H x ks ts d false n ∧ OkB ks ts ∧ n ≤ 100 ∧ immD d = true ∧ ∀ a xs H', H a = none → Ex H H' → H' a = some (.lst xs) → DpAll K H' xs (shownL lab ts d n) → Q (.ref a) H'
theorem ok__law_shown (W : Wd w.params mg) : Ok w mg base CX0 5 a__law_shown fd__law_shown ["_law_shop"] (spShown (Kw w)) := by
  refine (F__law_shown w.params).ok sc__law_shown (fun vs H Q E h => ?_) (fun cdv A outer s H vs Q E hr h => ?_)
  · obtain ⟨x, C, lab, f, ks, ts, d, n, rfl, _⟩ := h
    rfl
  · obtain ⟨x, C, lab, f, ks, ts, d, n, rfl, hC, ⟨dx, b, l, hh, pp, s, hx, sh⟩, ok, hn, hd, k⟩ := h
    obtain ⟨u, con⟩ := hC.con (P := w.params)
    have hlab := hC.len
    have sc := hC.sc (P := w.params)
    have hb := sh.bk.1
    obtain ⟨bx, bu, bv, br, bn, bt, hbx, _, hbv, _⟩ := id hb
    have himm : immAll (List.replicate n d) = true := imm_rep n hd
    have fin : ∀ {E1 E2 E3 : XK} {D : Ends}, (∀ a xs H', H a = none → Ex H H' → H' a = some (.lst xs) → DpAll (Kw w) H' xs (shownL lab ts d n) → D.rt (.ref a) H') → tRet (tLst (tCons (tFld (Kw w) (tFld (Kw w) (tVar 0) "book") "templates") (tCons (tProp C (spHeld (Kw w)) [] E1 (tVar 0)) (tCons (tFld (Kw w) (tVar 0) "log") (tCons (tCB (rLenO C (spWLen (Kw w)) E2) (tCons (tVar 0) tNil)) (tCons (tFld (Kw w) (tVar 0) "busy") (tCons (tCB (rReprO C (spRepr (Kw w)) E3) (tCons (tVar 0) tNil)) tNil))))))) D [some (.ref x)] H := by
      intro E1 E2 E3 D kD
      have e4 := ev_lenShop (te := tVar 0) (σ := [some (.ref x)]) (E := E2) (ev_var rfl) hx sc rfl sh.log himm (by rw [List.length_replicate]; omega)
      rw [List.length_replicate] at e4
      refine s_retW (eld_lst (K := Kw w) (ds := shownL lab ts d n) (ea_consD (ed_fld (ev_fld (ev_var rfl) hx sc.cls sc.book rfl) hbx cls_Book na_Book_templates rfl hbv) (ea_consD (ed_ev (ev_propHeld (ev_var rfl) hx sc rfl) sh.held) (ea_consD (ed_fld (ev_var rfl) hx sc.cls sc.log rfl sh.log) (ea_consD (ed_int e4) (ea_consD (ed_ev (ev_fld (ev_var rfl) hx sc.cls sc.busy rfl) (.bl false))
        (ea_consD (ed_str (ev_reprShop (ev_var rfl) hx sc rfl rfl rfl con hlab hb (by have := ok.t.hi; omega) sh.held)) ea_nilD)))))) (show (6 : Nat) ≤ 100000 by decide) H (Ex.refl H) _ fun a xs H1 ha e1 h1 hv => kD a xs H1 ha e1 h1 hv)
    cases hC with
    | w =>
      refine ⟨_, (pss_one (ps_ret (pe_lst (pa_cons (pe_fld (pe_fld (pv 0) rfl) rfl) (pa_cons (pe_prop (pv 0) cls_Workshop pr_Workshop_guards (ok_Workshop_guards W) (hr.mono (by decide)) (b_Workshop_guards _) .nil pass0 rfl) (pa_cons (pe_fld (pv 0) rfl) (pa_cons (pe_callB (call_lenO spc_Workshop___len__ (ok_Workshop___len__ W) (hr.mono (by decide)) (b_Workshop___len__ _) pass0) rfl (n_len W) boot_len (pa_cons (pv 0) pa_nil)) (pa_cons (pe_fld (pv 0) rfl) (pa_cons (pe_callB (call_reprO spc_Workshop___repr__ (ok_Workshop___repr__ W) (hr.mono (by decide)) (b_Workshop___repr__ _) pass0) rfl (n_repr W) boot_repr (pa_cons (pv 0) pa_nil)) pa_nil))))))))), ?_⟩
      exact fin k
    | s =>
      refine ⟨_, (pss_one (ps_ret (pe_lst (pa_cons (pe_fld (pe_fld (pv 0) rfl) rfl) (pa_cons (pe_prop (pv 0) cls_SiteWorkshop pr_SiteWorkshop_guards (ok_Workshop_guards W) (hr.mono (by decide)) (b_Workshop_guards _) .nil pass0 rfl) (pa_cons (pe_fld (pv 0) rfl) (pa_cons (pe_callB (call_lenO spc_SiteWorkshop___len__ (ok_Workshop___len__ W) (hr.mono (by decide)) (b_Workshop___len__ _) pass0) rfl (n_len W) boot_len (pa_cons (pv 0) pa_nil)) (pa_cons (pe_fld (pv 0) rfl) (pa_cons (pe_callB (call_reprO spc_SiteWorkshop___repr__ (ok_Workshop___repr__ W) (hr.mono (by decide)) (b_Workshop___repr__ _) pass0) rfl (n_repr W) boot_repr (pa_cons (pv 0) pa_nil)) pa_nil))))))))), ?_⟩
      exact fin k
end
end K76
set_option maxHeartbeats 4000000
namespace L2
open PySem PySem.Spec PyProof.Rows
/-- a def called by place where no repr is under way -/
def FnRG (P : Program) (w : World) (K : PySem.W.Frag) (mg : Str → Option Value) (base : Heap) (CX : CXT) (k : Nat) (f : Addr) (sp : Sp) : Prop :=
  ∀ (A : Around) (outer : List Env) (s : Shared) (H : Hp) (us : List Value) (vs : List V) (Q : VK) (E : XK), A.guards = some [] → Room k A → Env0 P w K mg base A outer s H → Vals vs us → sp vs H Q E →
    codeAny (model P w) A (.call (.ref f) ⟨us, []⟩) (CR CX outer P w H s Q E) s
theorem FnRG.mono {P : Program} {w : World} {K : PySem.W.Frag} {mg : Str → Option Value} {base : Heap} {CX : CXT} {j k : Nat} {f : Addr} {sp : Sp} (F : FnRG P w K mg base CX j f sp) (h : j ≤ k) : FnRG P w K mg base CX k f sp := fun A outer s H us vs Q E hg hr => F A outer s H us vs Q E hg (hr.mono h)
theorem Fun.okG {P : Program} {w : World} {K : PySem.W.Frag} {mg : Str → Option Value} {base : Heap} {CX : CXT} {x qual : Str} {st : Stmt} {f c : Addr} {fd : FuncData} {N ps : List Str} {k : Nat} {sp : Sp} (F : Fun K x qual st f fd) (S : FnScope N ps (defScope st)) (hb : Binds K fd ps []) (hc : fd.code = .ref c) (len : ∀ vs H Q E, sp vs H Q E → vs.length = ps.length)
    (hbody : ∀ (A : Around) (outer : List Env) (s : Shared) (H : Hp) (vs : List V) (Q : VK) (E : XK), A.guards = some [] → Room k (A.deeper (envOfC qual (defScope st) s.heap.objs.size f (.ref c))) → sp vs H Q E →
      ∃ t, PSs (cxOf CX P w K mg base N qual (defScope st) f (.ref c) A outer s H E) (defBody st) t ∧ t { nx := fun _ H' => Q .non H', rt := Q } (start N vs) H) : FnRG P w K mg base CX (k + 1) f sp := by
  intro A outer s H us vs Q E hg hr e0 r h
  obtain ⟨oc, od, kV, doc, pm, an, cdv, ct, osl, rfl, lk, hcd⟩ := F.ex
  obtain rfl : cdv = .ref c := hc
  have hl := len _ _ _ _ h
  have hl2 : (us ++ []).length = ps.length := by rw [List.append_nil, ← r.length]; exact hl
  refine LamX.run_ofS (N := N) (ps := ps) (us := us) (vs := vs) lk hcd S hr e0 ?_ r hl fun hr' => hbody A outer s H vs Q E hg hr' h
  have := hb s us (e0.mod.kin.keeps fun b o e => (e0.bs b o e).1) hl2
  rw [List.append_nil] at this
  exact this
section
variable {X : Cx} {CX : CXT} {k : Nat} {f : Addr} {sp : Sp} {E : XK} {x : Str} {e : Expr} {es : List Expr} {t : TA} {p pos : Pos}
/-- f(e, ..) where no repr is under way -/
theorem pe_callG (F : FnRG X.prog X.w X.K X.mg X.base CX k f sp) (hgu : X.A.guards = some []) (hr : Room k X.A) (hg : Gl X x) (hm : X.mg x = some (.ref f)) (hk : PySem.W.keepIn X.K (.ref f) = true) (hx : Passes CX X E)
    (ha : PA X (e :: es) t) (hdb : (x == ("__debug__" : Str)) = false := by decide) (he : starEach (e :: es) X.env = (false, eval e X.env) :: starEach es X.env := by rfl) (hpl : (backTo pos (starEach es X.env)).any (·.1) = false := by rfl) :
    PE X (.Call (.Name x p) (e :: es) [] pos) (fun σ H Q => t σ H fun vs H1 => sp vs H1 Q E) := by
  refine ⟨fun pins s σ H Q I h => ?_⟩
  refine wpAny_Call_Name_kw (ld_glob I hg hm ?_ hdb)
  refine PySem.W.callWith_K (h₀ := X.base) I.ok.mod.kin hk (thn (ha.run pos pins s σ H _ I h) fun us s1 ⟨vs, H1, I1, r, q⟩ => ⟨I1.kIn, ?_⟩) he hpl
  refine wpAny_call (codeAny_mono (F X.A X.stack s1 H1 us vs Q E hgu hr I1.env0 r q) fun r s' hq => ?_)
  cases r with
  | error e => exact hx pins σ H1 s1 e s' I1 hq
  | ok fl =>
    cases fl with
    | ret u => exact I1.after hq
    | next => exact False.elim hq
    | brk => exact False.elim hq
    | cont => exact False.elim hq
end
end L2
namespace K76
open PySem PySem.W PySem.Calls PyProof.Rows L2 Evl Ed LamX
def cs76 : List (Addr × Addr) := [(1581, 1579), (1588, 1584), (1595, 1591)]
def T76 : List (Addr × Str) := [(1579, "_law_odd_right.<locals>.<lambda>"), (1584, "_law_full_right.<locals>.<lambda>"), (1591, "_law_right.<locals>.<lambda>")]
theorem bLaw_caught (P : Params) : Binds (K0 P) fd__law_caught ["_law_act"] [] := b__law_caught P
section
variable {w : World} {mg : Str → Option Value} {base : Heap}
/-- _law_caught(lambda: ..) -/
theorem pe_caught {X : Cx} {k : Nat} {c P : Addr} {params : Arguments} {body : Expr} {scope : Scope} {t : XK → TE} {p lpos pos : Pos} (W : Wd w.params mg) (e1 : PR = X.prog) (e2 : w = X.w) (e3 : Kw w = X.K) (e4 : mg = X.mg) (hgu : X.A.guards = some []) (hg : Gl X "_law_caught") (TB : TabB X.base X.mg c P) (hcode : X.env.code = .ref c)
    (hmT : (P, X.env.qual ++ "<lambda>") ∈ T76) (hu : ∀ p ∈ T76, p.1 = P → p.2 = X.env.qual ++ "<lambda>") (hr : Room (k + 2) X.A) (L : LamS X.env.scope scope) (hdef : defaultsOf params X.env = ([], []))
    (hbind : ∀ (q : Str) (cl : List (Str × Addr)) (pm cv ctv : Value), bindArgs (PySem.W.kla_fn "<lambda>" q params body scope cl pm cv ctv) ⟨[], []⟩ = pure [])
    (hbody : ∀ (A : Around) (outer : List Env) (s : Shared) (H : Hp) (E : XK) (f c' : Addr), Room k (A.deeper (lamEnv X scope s.heap.objs.size f c')) → PE (lamCx X A outer s H E scope f c') body (t E)) :
    PE X (.Call (.Name "_law_caught" p) [.Lambda params body scope lpos] [] pos) (tLam T76 (TCaught (Kw w)) t) := by
  obtain ⟨oc, od, kV, doc, pm, an, cdv, ct, osl, efd, lk, hcd⟩ := (F__law_caught w.params).ex
  have hb := b__law_caught w.params
  rw [efd] at hb lk
  refine pe_lamcall (g := a__law_caught) (sg := defScope s__law_caught) (bg := defBody s__law_caught) (Ng := NC) (a := "_law_act") hg (by rw [← e4]; exact g__law_caught W) (by rw [← e3]; exact (F__law_caught w.params).kp) (by rw [← e3]; exact lk) (by rw [← e3]; exact hcd) (by rw [← e3]; exact hb) sc__law_caught rfl (Or.inl rfl)
    (caught_gives W e1 e2 e3 e4 hgu hr) TB hcode hmT hu hr L hdef hbind hbody
end
end K76
set_option maxHeartbeats 4000000
namespace K76
open PySem PySem.W PySem.Calls PyProof.Rows L2 Evl Ed LamX
/-! ### tables and shops, kept -/
theorem Tabs.keep {T : List (Addr × Str)} {H H' : Hp} (t : Tabs T H) (e : ∀ b o, H b = some o → ((∃ ps, o = .tbl ps) ∨ ∃ c q, o = CodeO c q) → H' b = some o) : Tabs T H' := fun p hp => by
  obtain ⟨ps, h1, h2, h3⟩ := t p hp
  refine ⟨ps, e _ _ h1 (.inl ⟨_, rfl⟩), h2, fun pos cv hc => ?_⟩
  obtain ⟨c, e1, e2⟩ := h3 pos cv hc
  exact ⟨c, e1, e _ _ e2 (.inr ⟨_, _, rfl⟩)⟩
theorem code_lst {c : Addr} {q : Str} {xs : List V} : CodeO c q ≠ .lst xs := fun z => by
  unfold CodeO at z
  cases z
theorem code_ins {c C dx : Addr} {q : Str} {fs : List (Str × V)} : CodeO c q ≠ .ins C dx fs := fun z => by
  unfold CodeO at z
  cases z
theorem Tabs.upl {T : List (Addr × Str)} {H : Hp} {l : Addr} {xs : List V} {u : HO} (t : Tabs T H) (h : H l = some (.lst xs)) : Tabs T (upd H l u) := K76.Tabs.keep t fun b o hb c => (upd_ne fun z => by
  rw [z, h] at hb
  cases hb
  rcases c with ⟨_, c⟩ | ⟨_, _, c⟩
  · cases c
  · exact code_lst c.symm).trans hb
theorem Tabs.kl {T : List (Addr × Str)} {H H' : Hp} {p : Addr} {xs : List V} (t : Tabs T H) (h : H p = some (.lst xs)) (k : Kl p H H') : Tabs T H' := K76.Tabs.keep t fun b o hb c => k.at_ hb fun z => by
  rw [z, h] at hb
  cases hb
  rcases c with ⟨_, c⟩ | ⟨_, _, c⟩
  · cases c
  · exact code_lst c.symm
theorem Tabs.kp {T : List (Addr × Str)} {H H' : Hp} {x C dx : Addr} {fs : List (Str × V)} (t : Tabs T H) (h : H x = some (.ins C dx fs)) (k : Kp x H H') : Tabs T H' := K76.Tabs.keep t fun b o hb c => k.at_ hb fun z => by
  rw [z, h] at hb
  cases hb
  rcases c with ⟨_, c⟩ | ⟨_, _, c⟩
  · cases c
  · exact code_ins c.symm
section
variable {K : PySem.W.Frag} {H H' : Hp} {L : List Addr} {x b C : Addr} {ks : List (Str × Int)} {ts : List Tmp} {d : PyData} {z : Bool} {n : Nat}
/-- no instance among L -/
def NoIns (H : Hp) (L : List Addr) : Prop := ∀ a ∈ L, ∀ C dx fs, H a ≠ some (.ins C dx fs)
theorem Bk.kz (h : Bk K H x b ks ts) (k : Kz L H H') (hL : NoIns H L) : Bk K H' x b ks ts := by
  obtain ⟨h1, h2⟩ := h
  obtain ⟨dx, u, v, r, m, tt, hx, _⟩ := id h1
  refine ⟨h1.off (fun o ho => k.off b o ho (fun z => hL b z _ _ _ hx) fun ps z => ?_) k.kd.tx, h2⟩
  rw [hx] at ho
  cases ho
  cases z
theorem Before.kz {v : V} (h : Before K H x ks ts v) (k : Kz L H H') (hL : NoIns H L) : Before K H' x ks ts v := by
  obtain ⟨q, b, hh, s, e, h1, h2, h3, h4⟩ := h
  exact ⟨q, b, hh, s, e, tx_t k.kd.tx h1, h2.kz k hL, h3.tx rfl k.kd.tx, h4.tx rfl k.kd.tx⟩
theorem ShopAt.kz (q : ShopAt K C H x ks ts d z n) (hd : immD d = true) (k : Kz L H H') (hL : NoIns H L) : ShopAt K C H' x ks ts d z n := by
  obtain ⟨dx, b, l, h, p, s, hx, q⟩ := q
  refine ⟨dx, b, l, h, p, s, k.off x _ hx (fun z => hL x z _ _ _ hx) (fun ps z => by cases z), ?_⟩
  obtain ⟨a, xs, e, h1, h2, h3⟩ := q.past
  exact ⟨q.bk.kz k hL, q.log.tx (immAll_iff.mpr fun y hy => by rw [(List.mem_replicate.mp hy).2]; exact hd) k.kd.tx, q.held.tx rfl k.kd.tx, ⟨a, xs, e, tx_t k.kd.tx h1, h2, fun v hv => (h3 v hv).kz k hL⟩, q.sites.tx rfl k.kd.tx⟩
theorem noIns_nil : NoIns H [] := fun a h => by cases h
theorem noIns_lst {l : Addr} {xs : List V} (h : H l = some (.lst xs)) (r : NoIns H L) : NoIns H (l :: L) := fun a ha => by
  rcases List.mem_cons.mp ha with rfl | ha
  · intro C dx fs z
    rw [h] at z
    cases z
  · exact r a ha
end
theorem Kz.dropT {L : List Addr} {H H' : Hp} {a : Addr} (k : Kz (a :: L) H H') (h : ∀ o, H a = some o → ∃ ps, o = .tbl ps) : Kz L H H' := ⟨fun b o q n t => k.off b o q (fun z => by
  rcases List.mem_cons.mp z with z | z
  · rw [z] at q
    obtain ⟨ps, e⟩ := h o q
    exact t ps e
  · exact n z) t, k.kd⟩
/-! ### lists of tellings -/
def TD (H : Hp) (l0 : Addr) (its : List (Str × Str)) : Prop := ∃ ls : List Addr, H l0 = some (.lst (ls.map V.ref)) ∧ ls.length = its.length ∧ ∀ (i : Nat) (l : Addr) (it : Str × Str), ls[i]? = some l → its[i]? = some it → H l = some (.lst [.str it.1, .str it.2])
def tdD (its : List (Str × Str)) : PyData := .list (its.map fun it => .list [.str it.1, .str it.2])
section
variable {K : PySem.W.Frag} {H H' : Hp} {l0 l : Addr} {its : List (Str × Str)} {L : List Addr} {nm r : Str}
theorem TD.ne {ls : List Addr} (h0 : H l0 = some (.lst (ls.map V.ref))) {l : Addr} {a b : Str} (hm : ls ≠ []) (h : H l = some (.lst [.str a, .str b])) : l ≠ l0 := fun z => by
  rw [z, h0] at h
  cases ls with
  | nil => exact hm rfl
  | cons x xs =>
    have := HO.lst.inj (Option.some.inj h)
    simp at this
theorem TD.kz (t : TD H l0 its) (k : Kz L H H') (h0 : l0 ∉ L) (hL : ∀ a ∈ L, ∀ x y : Str, H a ≠ some (.lst [.str x, .str y])) : TD H' l0 its := by
  obtain ⟨ls, h1, h2, h3⟩ := t
  refine ⟨ls, k.off _ _ h1 h0 (fun ps z => by cases z), h2, fun i l it a b => k.off _ _ (h3 i l it a b) (fun z => hL l z _ _ (h3 i l it a b)) (fun ps z => by cases z)⟩
theorem TD.app {xs : List V} (t : TD H l0 its) (hx : H l0 = some (.lst xs)) (h : H l = some (.lst [.str nm, .str r])) (hl : l ≠ l0) : TD (upd H l0 (.lst (xs ++ [.ref l]))) l0 (its ++ [(nm, r)]) := by
  obtain ⟨ls, h1, h2, h3⟩ := t
  rw [h1] at hx
  cases hx
  refine ⟨ls ++ [l], by rw [upd_same, List.map_append] <;> rfl, by rw [List.length_append, List.length_append, h2] <;> rfl, fun i l' it a b => ?_⟩
  rcases Nat.lt_or_ge i ls.length with c | c
  · rw [List.getElem?_append_left c] at a
    rw [List.getElem?_append_left (by omega)] at b
    have := h3 i l' it a b
    refine (upd_ne (TD.ne h1 ?_ this)).trans this
    intro z
    rw [z] at c
    simp at c
  · rw [List.getElem?_append_right c] at a
    rw [List.getElem?_append_right (by omega)] at b
    have e0 : i - ls.length = 0 := by
      have := (List.getElem?_eq_some_iff.mp a).1
      simp at this
      omega
    rw [e0] at a
    rw [show i - its.length = 0 by omega] at b
    cases a
    cases b
    exact (upd_ne hl).trans h
theorem TD.dp (t : TD H l0 its) : Dp K H (.ref l0) (tdD its) := by
  obtain ⟨ls, h1, h2, h3⟩ := t
  refine .lst (sq_of h1) ?_
  clear h1
  induction ls generalizing its with
  | nil =>
    cases its with
    | nil => exact .nil
    | cons a b => simp at h2
  | cons l ls ih =>
    cases its with
    | nil => simp at h2
    | cons it its =>
      refine .cons (.lst (sq_of (h3 0 l it rfl rfl)) (.cons (.str _) (.cons (.str _) .nil))) (ih (by simpa using h2) fun i l' it' a b => h3 (i + 1) l' it' (by simpa using a) (by simpa using b))
end
/-! ### what _law_caught tells -/
section
variable {K : PySem.W.Frag} {σ : L2.St} {H : Hp} {te : TE} {tr : TA} {D : Ends} {tz : TS} {nm r fld : Str} {C x dx : Addr} {v : V} {lab : Str} {f : Str → Nat → Bool} {ks : List (Str × Int)} {ts : List Tmp} {d : PyData} {n : Nat} {E : XK} {Q : VK}
/-- te tells [nm, r]; nothing but tables changes -/
def EvC (te : TE) (σ : L2.St) (H : Hp) (nm r : Str) : Prop := ∀ Q : VK, (∀ l H', Kz [] H H' → Tabs T76 H' → H' l = some (.lst [.str nm, .str r]) → Q (.ref l) H') → te σ H Q
theorem Rp.int {i : Int} (h : i.natAbs.log2 < 1920 := by decide) (hz : (PyData.shown (.int i)).length ≤ sizeLine := by decide +kernel) : Rp K H (.int i) (PyData.shown (.int i)) := ⟨.int i, .int i, decide_eq_true h, (sh_int 0 i).shaped (by decide), hz, rfl⟩
theorem Rp.str {y : Str} (h : PyData.strOk y = true := by decide +kernel) (hz : (PyData.shown (.str y)).length ≤ sizeLine := by decide +kernel) : Rp K H (.str y) (PyData.shown (.str y)) := ⟨.str y, .str y, rfl, (sh_strOk (k := 0) h).shaped (by decide), hz, rfl⟩
theorem ec_call {t : XK → TE} (hT : Tabs T76 H) (five : Five C nm fld) (hr : ∀ H', Rp K H' v r) (h : ∀ H1 E Q, Kz [] H H1 → Tabs T76 H1 → Xc (Ex H1) C fld v E → t E σ H1 Q) : EvC (tLam T76 (TCaught K) t) σ H nm r := fun Q q =>
  ⟨hT, fun H1 eN T1 Qv _ => h H1 (EchC K Q) Qv (Kz.ofN eN) T1 fun dd H' e hdd => ⟨C, nm, fld, v, r, dd, rfl, rfl, hdd, five, hr H', fun H2 l e2 hl => q l H2 ((Kz.ofN eN).trans (.of (e.trans e2))) (T1.ext (e.trans e2)) hl⟩⟩
/-- told = [_law_caught(..)] -/
theorem q_told {i : Nat} (h : EvC te σ H nm r) (k : ∀ l0 H', Kz [] H H' → Tabs T76 H' → TD H' l0 [(nm, r)] → (∀ o, H l0 = some o → ∃ ps, o = .tbl ps) → tz D (σ.set i (some (.ref l0))) H') : tSeq (tAsg (tLst (tCons te tNil)) (gName i)) tz D σ H :=
  q_asgW (lstW (consW (h _ fun l H1 k1 T1 hl => nilW ⟨sz_of (by simp), fun l0 h0 => by
    have e2 := Ex.new (o := .lst [.ref l]) h0
    refine k l0 _ (k1.trans (.of e2)) (T1.ext e2) ⟨[l], upd_same, rfl, fun j l' it a b => ?_⟩ fun o ho => ?_
    · match j, a, b with
      | 0, a, b =>
        cases a
        cases b
        exact e2 _ _ hl
    · cases o with
      | tbl ps => exact ⟨ps, rfl⟩
      | _ =>
        have := k1.off _ _ ho (by simp) (fun ps z => by cases z)
        rw [h0] at this
        cases this⟩)))
/-- told.append(_law_caught(..)) -/
theorem q_toldA {i : Nat} {l0 : Addr} {its : List (Str × Str)} (hs : σ[i]? = some (some (.ref l0))) (td : TD H l0 its) (hne : its ≠ []) (hlen : its.length < 1000) (h : EvC te σ H nm r) (k : ∀ H', Kz [l0] H H' → Tabs T76 H' → TD H' l0 (its ++ [(nm, r)]) → tz D σ H') :
    tSeq (tDrop (tBM K "list" rAppend (tVar i) (tCons te tNil))) tz D σ H := by
  obtain ⟨ls, h1, h2, h3⟩ := id td
  refine s_appW (D := { D with nx := fun σ2 H2 => tz D σ2 H2 }) hs h1 (h _ fun l H1 k1 T1 hl => ?_)
  have h11 := k1.off _ _ h1 (by simp) (fun ps z => by cases z)
  have td1 := td.kz k1 (by simp) (by simp)
  have hl0 : l ≠ l0 := TD.ne h11 (fun z => by
    rw [z] at h2
    cases its with
    | nil => exact hne rfl
    | cons a b => simp at h2) hl
  exact appE h11 (by rw [List.length_map]; omega) (k _ ((k1.mono (by simp)).trans (.upl h11 (by simp))) (Tabs.upl T1 h11) (td1.app h11 hl hl0))
/-! deeds -/
theorem ShopC.hd (hC : ShopC C lab f) {y : Str} {m : Nat} (h : fW y m = true) : f y m = true := by
  cases hC
  · exact h
  · show (fW y m || fS y m) = true
    rw [h] <;> rfl
theorem jdg_put (hC : ShopC C lab f) {t : Tmp} (h : Dp K H v (putD t)) : Jdg K H v f true := by
  obtain ⟨a, xs, rfl, hs, hx⟩ := dp_tup h
  cases hx with
  | cons h1 hx =>
    cases h1
    cases hx with
    | cons h2 hx =>
      cases hx
      exact .hd rfl hs (by simp [heads]) (hC.hd (y := "put") (m := 2) (by decide +kernel)).symm
/-- shop.do(v), v no deed -/
theorem lam_do {i : Nat} (hs : σ[i]? = some (some (.ref x))) (hS : ShopAt K C H x ks ts d false n) (ok : OkB ks ts) (hno : NoS ts) (hd : immD d = true) (ha : EvA tr σ H [v]) (j : Jdg K H v f false) (xc : Xc (Ex H) 450 "index" (.int 0) E) : tMeth C "do" (spDo K C f) [] E (tVar i) tr σ H Q := by
  obtain ⟨dx, b, l, hh, p, s, hx, _⟩ := id hS
  exact ⟨.ref x, hs, x, dx, _, rfl, hx, rfl, ha H (Ex.refl H) _ fun H1 e1 => ⟨x, v, ks, ts, d, n, rfl, hS.ex hd e1, ok, hno, hd, .inl ⟨j.ex e1, xc.ex e1⟩⟩⟩
theorem lam_doK {i : Nat} (hs : σ[i]? = some (some (.ref x))) (hS : ShopAt K C H x ks ts d false n) (ok : OkB ks ts) (hno : NoS ts) (hd : immD d = true) (ha : EvA tr σ H [v]) (j : Jdg K H v f false) (xc : Xc (Ex H) 450 "index" (.int 0) E) : tMethKw C "do" 1 (spDo K C f) (fun vs zs => vs ++ zs) E (tVar i) tr σ H Q := by
  obtain ⟨dx, b, l, hh, p, s, hx, _⟩ := id hS
  exact ⟨.ref x, hs, x, dx, _, rfl, hx, rfl, ha H (Ex.refl H) _ fun H1 e1 => ⟨rfl, x, v, ks, ts, d, n, rfl, hS.ex hd e1, ok, hno, hd, .inl ⟨j.ex e1, xc.ex e1⟩⟩⟩
def spAllV (K : PySem.W.Frag) (C : Addr) (f : Str → Nat → Bool) : Sp := fun vs H Q E => ∃ ws rest, vs = ws ++ rest ∧ ws.length = (["self"] : List Str).length ∧ rest.length ≤ sizeLine ∧ ∀ p, H p = Option.none → spAll K C f (ws ++ [.non, V.ref p]) (upd H p (.tup rest)) Q E
/-- shop.do_all(.., v, ..), v no deed -/
theorem lam_all {i : Nat} {j : Nat} (hs : σ[i]? = some (some (.ref x))) (hS : ShopAt K C H x ks ts d false n) (ok : OkB ks ts) (hno : NoS ts) (hd : immD d = true)
    (ha : ∀ QA : List V → Hp → Prop, (∀ rest H1, Ex H H1 → rest.length ≤ 1000 → (∀ i y, i < j → rest[i]? = some y → Jdg K H1 y f true) → (∃ y, rest[j]? = some y ∧ Jdg K H1 y f false) → QA rest H1) → tr σ H QA) (xc : Xc (Ex H) 450 "index" (.int (j : Nat)) E) : tMethR C "do_all" (spAllV K C f) E (tVar i) tr σ H Q := by
  obtain ⟨dx, b, l, hh, p, s, hx, _⟩ := id hS
  refine ⟨.ref x, hs, x, dx, _, rfl, hx, rfl, ha _ fun rest H1 e1 hl h1 ⟨y, hy, h2⟩ => ?_⟩
  refine ⟨[.ref x], rest, rfl, rfl, sz_of (by omega), fun p hp => ?_⟩
  have e2 := Ex.new (o := .tup rest) hp
  exact ⟨x, p, rest, ks, ts, d, n, rfl, st_of upd_same, (hS.ex hd e1).ex hd e2, ok, hno, hd, .inl ⟨j, fun i y hi hy => (h1 i y hi hy).ex e2, ⟨y, hy, h2.ex e2⟩, (xc.ex e1).ex e2⟩⟩
end
/-! ### what the rights keep -/
structure OI (K : PySem.W.Frag) (C x p lb : Addr) (f : Str → Nat → Bool) (m n : Nat) (ks : List (Str × Int)) (ts : List Tmp) (t : Tmp) (sl : List PyData) (sx : List V) (v bad more : V) (H : Hp) : Prop where
  tabs : Tabs T76 H
  pool : PoolAt H p m
  shop : ShopAt K C H x ks ts (putD t) false n
  dv : Dp K H v (putD t)
  jb : Jdg K H bad f false
  jm : Jdg K H more f false
  bef : H lb = some (.lst sx)
  db : DpAll K H sx sl
section
variable {K : PySem.W.Frag} {C x p lb : Addr} {f : Str → Nat → Bool} {m n : Nat} {ks : List (Str × Int)} {ts : List Tmp} {t : Tmp} {sl : List PyData} {sx : List V} {v bad more : V} {H H' : Hp} {L : List Addr} {lab : Str} {d : PyData}
theorem OI.kz (o : OI K C x p lb f m n ks ts t sl sx v bad more H) (hi : immAll sl = true) (k : Kz L H H') (T : Tabs T76 H') (hL : NoIns H L) (h1 : p ∉ L) (h2 : lb ∉ L) : OI K C x p lb f m n ks ts t sl sx v bad more H' := by
  obtain ⟨a, b, c, hp, q⟩ := o.pool
  exact ⟨T, ⟨a, b, c, k.off _ _ hp h1 (fun ps z => by cases z), q⟩, o.shop.kz (imm_putD t) k hL, o.dv.tx (imm_putD t) k.kd.tx, o.jb.kd k.kd, o.jm.kd k.kd, k.off _ _ o.bef h2 (fun ps z => by cases z), o.db.tx hi k.kd.tx⟩
theorem imm_shown (hd : immD d = true) : immAll (shownL lab ts d n) = true := immAll_iff.mpr fun y hy => by
  simp only [shownL, List.mem_cons, List.not_mem_nil, or_false] at hy
  rcases hy with rfl | rfl | rfl | rfl | rfl | rfl
  · exact imm_tsD ts
  · rfl
  · exact imm_rep n hd
  · rfl
  · rfl
  · rfl
theorem ok_reprW : ∀ k, k < 10 → PyData.strOk (reprW "Workshop" k) = true ∧ PyData.strOk (reprW "SiteWorkshop" k) = true := by decide +kernel
theorem sh_putD {ks : List (Str × Int)} (okk : OkK ks) {t : Tmp} (ok : OkT ks t) : Sh 5 (putD t) := sh_tup (k := 4) (sh_c1 (sh_strOk (by decide +kernel)) (sh_c1 (sh_tD okk ok) sh_c0))
theorem sh_shown (hC : ShopC C lab f) (ok : OkB ks ts) (ht : t ∈ ts) : Sh 7 (.list (shownL lab ts (putD t) n)) := by
  have h9 : ts.length < 10 := by have := ok.t.hi; omega
  refine sh_lst (k := 6) (sh_c1 (Sh.up (sh_tup (k := 4) (sh_map fun t ht => sh_tD ok.k (ok.t.ok t ht))) (by decide)) (sh_c1 (Sh.up (sh_tup (k := 0) sh_c0) (by decide)) (sh_c1 (sh_tup (k := 5) fun y hy => ?_) (sh_c1 (sh_int _ _) (sh_c1 (sh_bool _ _) (sh_c1 (sh_strOk ?_) sh_c0))))))
  · rw [(List.mem_replicate.mp hy).2]
    exact sh_putD ok.k (ok.t.ok t ht)
  · cases hC
    · exact (ok_reprW _ h9).1
    · exact (ok_reprW _ h9).2
end
section
variable {K : PySem.W.Frag} {σ : L2.St} {H : Hp} {te tl : TE} {vs : List Nat} {j : Nat} {Q : VK}
/-- [[.., ..] for k in [..]], texts -/
theorem lc_tell {xs : List V} (its : List (Str × Str)) (hlen : its.length = xs.length) (h : EvL tl σ H xs) (hz : xs.length ≤ 1000) (hw : ∀ x, wipe ((wipe σ vs).set j (some x)) vs = wipe σ vs)
    (he : ∀ (i : Nat) (x : V) (it : Str × Str) H1, Ex H H1 → xs[i]? = some x → its[i]? = some it → EvL te ((wipe σ vs).set j (some x)) H1 [.str it.1, .str it.2])
    (k : ∀ l H', Ex H H' → H l = none → TD H' l its → Q (.ref l) H') : tLc (iList K tl) (gName j) tYes te vs σ H Q :=
  h H (Ex.refl H) _ fun a H1 ha e1 h1 => ⟨a, rfl, ⟨xs, sq_of h1⟩, fun D hD => by
    refine lc_list (a := a) (xs := xs) (fun i H' => Ex H1 H' ∧ TD H' D (its.take i)) ⟨Ex.new hD, [], upd_same, by simp, fun i l it a b => by simp at a⟩ (fun i H' _ p => ex_l p.1 (sq_of h1)) (fun i x H' hi p => ?_) fun H' p => ?_
    · refine ⟨hw x, ?_⟩
      obtain ⟨it, hit⟩ : ∃ it, its[i]? = some it := ⟨_, List.getElem?_eq_getElem (by have := (List.getElem?_eq_some_iff.mp hi).1; omega)⟩
      show te _ H' _
      refine he i x it H' (e1.trans p.1) hi hit H' (Ex.refl _) _ fun l H4 hl e4 h4 => ?_
      obtain ⟨ls, q1, q2, q3⟩ := id p.2
      have td4 : TD H4 D (its.take i) := ⟨ls, e4 _ _ q1, q2, fun i l it a b => e4 _ _ (q3 i l it a b)⟩
      have hlD : l ≠ D := fun z => by
        rw [z, q1] at hl
        cases hl
      have hlt := (List.getElem?_eq_some_iff.mp hi).1
      have hl2 : ls.length ≤ 1000 := by
        rw [q2, List.length_take]
        omega
      refine ⟨ls.map V.ref, e4 _ _ q1, sz_lt (by rw [List.length_map]; omega), Ex.mut (p.1.trans e4) hD, ?_⟩
      have := td4.app (e4 _ _ q1) h4 hlD
      rw [List.take_succ, hit]
      exact this
    · have p2 := p.2
      rw [← hlen, List.take_length] at p2
      exact k D H' (e1.trans p.1) (fresh_back e1 hD) p2⟩
end
theorem ev_strI {σ : L2.St} {H : Hp} {te : TE} {i : Int} (h : Ev te σ H (.int i)) (hi : i.natAbs.log2 < 1920) : Ev (tCB (fun xs H Q => ∃ i : Int, xs = [.int i] ∧ i.natAbs.log2 < 1920 ∧ Q (.str (toString i)) H) (tCons te tNil)) σ H (.str (PyData.shown (.int i))) := fun H1 e Q q => h H1 e _ fun H2 e2 => ⟨i, rfl, hi, by
  have : (toString i : Str) = PyData.shown (.int i) := by simp [PyData.shown]
  rw [this]
  exact q H2 e2⟩
theorem sh_tdD {its : List (Str × Str)} (h : ∀ it ∈ its, PyData.strOk it.1 = true ∧ PyData.strOk it.2 = true) : Sh 2 (tdD its) := sh_lst (k := 1) (sh_map fun it hi => sh_lst (k := 0) (sh_c1 (sh_strOk (h it hi).1) (sh_c1 (sh_strOk (h it hi).2) sh_c0)))
section
variable {K : PySem.W.Frag} {σ : L2.St} {H : Hp} {E : XK} {i j : Nat} {x lb C : Addr} {lab : Str} {f : Str → Nat → Bool} {ks : List (Str × Int)} {ts : List Tmp} {t : Tmp} {n : Nat} {sx : List V}
/-- _law_shown(shop) == before -/
theorem ev_shownEq (hs : σ[i]? = some (some (.ref x))) (hb : σ[j]? = some (some (.ref lb))) (hC : ShopC C lab f) (hS : ShopAt K C H x ks ts (putD t) false n) (ok : OkB ks ts) (hn : n ≤ 100) (ht : t ∈ ts) (hl : H lb = some (.lst sx)) (hd : DpAll K H sx (shownL lab ts (putD t) n)) :
    Ev (tOp (rEqD K) (tCall (spShown K) [] E (tCons (tVar i) tNil)) (tVar j)) σ H (.bl true) := fun H1 e Q q =>
  callW (consW (varW hs (nilW ⟨x, C, lab, f, ks, ts, putD t, n, rfl, hC, hS.ex (imm_putD t) e, ok, hn, imm_putD t, fun a xs H2 _ e2 h2 d2 => varW hb ⟨_, _, .lst (sq_of h2) d2, .lst (sq_of ((e.trans e2) _ _ hl)) ((hd.ex e).ex e2), (sh_shown hC ok ht).shaped (by decide), (sh_shown hC ok ht).shaped (by decide), by
    rw [(sh_shown hC ok ht).refl]
    exact q _ e2⟩⟩)))
/-- told == due -/
theorem ev_tdEq {l m : Addr} {is js : List (Str × Str)} (hs : σ[i]? = some (some (.ref l))) (hb : σ[j]? = some (some (.ref m))) (t1 : TD H l is) (t2 : TD H m js) (e : is = js) (h : ∀ it ∈ js, PyData.strOk it.1 = true ∧ PyData.strOk it.2 = true) : Ev (tOp (rEqD K) (tVar i) (tVar j)) σ H (.bl true) := by
  subst e
  have := ev_eqD (K := K) (σ := σ) (H := H) (ed_var hs t1.dp) (ed_var hb t2.dp) ((sh_tdD h).shaped (by decide)) ((sh_tdD h).shaped (by decide))
  rw [(sh_tdD h).refl] at this
  exact this
end
end K76
set_option maxHeartbeats 4000000
namespace K76
open PySem PySem.W PySem.Calls PyProof.Rows L2 Evl Ed LamX
/-- do(deed=v) -/
theorem kb_do {P : Params} : KBn (K0 P) fd_Workshop_do ["self", "deed"] 1 ["deed"] (fun us ws => us ++ ws) (fun vs zs => vs ++ zs) := by
  obtain ⟨oc, od, kV, doc, pm, an, cdv, ct, osl, efd, lk, hcd⟩ := (F_Workshop_do P).ex
  rw [efd]
  refine ⟨fun s us ws _ h1 h2 => ?_, fun r1 r2 => r1.append r2⟩
  match us, ws, h1, h2 with
  | [u], [v], _, _ => exact BindsTo.of_looks fun M => Looks.of_pure rfl
section
variable {w : World} {mg : Str → Option Value} {base : Heap}
/-! ### _law_odd_right -/
theorem sc__law_odd_right : FnScope ["_law_pool_here", "_law_shop", "_law_plain", "_law_deed_here", "_law_bad", "_law_more", "_law_before", "_law_told", "_law_k", "_law_due"] ["_law_pool_here", "_law_shop", "_law_plain", "_law_deed_here"] (defScope s__law_odd_right) := ⟨rfl, rfl, rfl, by decide +kernel, rfl, by decide +kernel, by decide +kernel⟩
def spOddR (K : PySem.W.Frag) : Sp := fun vs H Q _ => ∃ (p x C : Addr) (lab : Str) (f : Str → Nat → Bool) (m : Nat) (ks : List (Str × Int)) (ts : List Tmp) (t : Tmp) (n : Nat) (v : V), vs = [.ref p, .ref x, .bl (decide (C = 1440)), v] ∧ ShopC C lab f ∧ PoolAt H p m ∧ m ≤ 90000 ∧ Tabs T76 H ∧ x ≠ p ∧
  ShopAt K C H x ks ts (putD t) false n ∧ OkB ks ts ∧ NoS ts ∧ n ≤ 98 ∧ t ∈ ts ∧ Dp K H v (putD t) ∧ ∀ H', Kz [p] H H' → Tabs T76 H' → PoolAt H' p (m + 2) → Q (.bl true) H'
theorem tm1 : ((1579 : Addr), (("_law_odd_right" : Str) ++ ".<locals>.") ++ "<lambda>") ∈ T76 := by decide +kernel
theorem tu1 : ∀ p ∈ T76, p.1 = 1579 → p.2 = (("_law_odd_right" : Str) ++ ".<locals>.") ++ "<lambda>" := by decide +kernel
theorem ok__law_odd_right (W : Wd w.params mg) (TB : ∀ p ∈ cs76, TabB base mg p.1 p.2) : FnRG PR w (Kw w) mg base CX0 16 a__law_odd_right (spOddR (Kw w)) := by
  refine (F__law_odd_right w.params).okG sc__law_odd_right (b__law_odd_right _) rfl (fun vs H Q E h => ?_) (fun A outer s H vs Q E hgu hr h => ?_)
  · obtain ⟨p, x, C, lab, f, m, ks, ts, t, n, v, rfl, _⟩ := h
    rfl
  · obtain ⟨p, x, C, lab, f, m, ks, ts, t, n, v, rfl, hC, po, hm, hT, hxp, hS, ok, hno, hn, ht, hv, k⟩ := h
    have TB_ : TabB base mg 1581 1579 := TB (1581, 1579) (by simp [cs76])
    have hgu_ : (A.deeper (envOfC "_law_odd_right" (defScope s__law_odd_right) s.heap.objs.size a__law_odd_right (.ref 1581))).guards = some [] := hgu
    have tm_ := tm1
    have tu_ := tu1
    cases hC with
    | w =>
      refine ⟨_, (pss_cons (ps_asg (pe_tup (pa_cons (pe_call (ok__law_odd W) (hr.mono (by decide)) rfl (g__law_odd W) (F__law_odd _).kp (b__law_odd _) .nil pass0 (pa_cons (pv 0) (pa_cons (pv 2) pa_nil))) (pa_cons (pe_call (ok__law_odd W) (hr.mono (by decide)) rfl (g__law_odd W) (F__law_odd _).kp (b__law_odd _) .nil pass0 (pa_cons (pv 0) (pa_cons (pv 2) pa_nil))) (pa_cons (pe_call (ok__law_shown W) (hr.mono (by decide)) rfl (g__law_shown W) (F__law_shown _).kp (b__law_shown _) .nil pass0 (pa_cons (pv 1) pa_nil)) pa_nil)))) (pg_tup rfl (pgs_cons (pg_name (i := 4) sc__law_odd_right.nd rfl (Or.inr rfl)) (pgs_cons (pg_name (i := 5) sc__law_odd_right.nd rfl (Or.inr rfl)) (pgs_cons (pg_name (i := 6) sc__law_odd_right.nd rfl (Or.inl rfl)) pgs_nil)))))
    (pss_cons (ps_set (i := 7) sc__law_odd_right.nd rfl (Or.inl rfl) (pe_lst (pa_cons (pe_caught (k := 13) (c := 1581) (P := 1579) W rfl rfl rfl rfl hgu_ rfl TB_ rfl tm_ tu_ (hr.mono (by decide)) (lamS_by (by kernel_rfl)) rfl (fun _ _ _ _ _ => rfl) (fun A_ outer_ s_ H_ E_ f_ c_ hrl_ => (pe_meth (pv 1) cls_Workshop mt_Workshop_do (ok_Workshop_do W) (hrl_.mono (by decide)) (b_Workshop_do _) .nil (passX (takesN_of (takes_of rfl rfl rfl rfl)) (fun _ _ _ _ h => h)) (pa_cons (pv 4) pa_nil)))) pa_nil)))
    (pss_cons (ps_expr (pe_bm PySem.F.plainAttrs_list PySem.F.slot_list_append PySem.F.type_list_append mt_append (pv 7) (pa_cons (pe_caught (k := 13) (c := 1581) (P := 1579) W rfl rfl rfl rfl hgu_ rfl TB_ rfl tm_ tu_ (hr.mono (by decide)) (lamS_by (by kernel_rfl)) rfl (fun _ _ _ _ _ => rfl) (fun A_ outer_ s_ H_ E_ f_ c_ hrl_ => (pe_methKw (pv 1) cls_Workshop mt_Workshop_do (ok_Workshop_do W) (hrl_.mono (by decide)) kb_do (passX (takesN_of (takes_of rfl rfl rfl rfl)) (fun _ _ _ _ h => h)) (pk_cons (pv 5) pk_nil)))) pa_nil)))
    (pss_cons (ps_expr (pe_bm PySem.F.plainAttrs_list PySem.F.slot_list_append PySem.F.type_list_append mt_append (pv 7) (pa_cons (pe_caught (k := 13) (c := 1581) (P := 1579) W rfl rfl rfl rfl hgu_ rfl TB_ rfl tm_ tu_ (hr.mono (by decide)) (lamS_by (by kernel_rfl)) rfl (fun _ _ _ _ _ => rfl) (fun A_ outer_ s_ H_ E_ f_ c_ hrl_ => (pe_methR (pv 1) cls_Workshop mt_Workshop_do_all (ok_Workshop_do_all W) (hrl_.mono (by decide)) (passX (takesN_of (takes_of rfl rfl rfl rfl)) (fun _ _ _ _ h => h)) (pa_cons (pv 4) (pa_cons (pv 5) pa_nil))))) pa_nil)))
    (pss_cons (ps_expr (pe_bm PySem.F.plainAttrs_list PySem.F.slot_list_append PySem.F.type_list_append mt_append (pv 7) (pa_cons (pe_caught (k := 13) (c := 1581) (P := 1579) W rfl rfl rfl rfl hgu_ rfl TB_ rfl tm_ tu_ (hr.mono (by decide)) (lamS_by (by kernel_rfl)) rfl (fun _ _ _ _ _ => rfl) (fun A_ outer_ s_ H_ E_ f_ c_ hrl_ => (pe_methR (pv 1) cls_Workshop mt_Workshop_do_all (ok_Workshop_do_all W) (hrl_.mono (by decide)) (passX (takesN_of (takes_of rfl rfl rfl rfl)) (fun _ _ _ _ h => h)) (pa_cons (pv 3) (pa_cons (pv 4) (pa_cons (pv 3) pa_nil)))))) pa_nil)))
    (pss_cons (ps_expr (pe_bm PySem.F.plainAttrs_list PySem.F.slot_list_append PySem.F.type_list_append mt_append (pv 7) (pa_cons (pe_caught (k := 13) (c := 1581) (P := 1579) W rfl rfl rfl rfl hgu_ rfl TB_ rfl tm_ tu_ (hr.mono (by decide)) (lamS_by (by kernel_rfl)) rfl (fun _ _ _ _ _ => rfl) (fun A_ outer_ s_ H_ E_ f_ c_ hrl_ => (pe_methR (pv 1) cls_Workshop mt_Workshop_do_all (ok_Workshop_do_all W) (hrl_.mono (by decide)) (passX (takesN_of (takes_of rfl rfl rfl rfl)) (fun _ _ _ _ h => h)) (pa_cons (pv 3) (pa_cons (pv 3) (pa_cons (pv 5) pa_nil)))))) pa_nil)))
    (pss_cons (ps_expr (pe_bm PySem.F.plainAttrs_list PySem.F.slot_list_append PySem.F.type_list_append mt_append (pv 7) (pa_cons (pe_caught (k := 13) (c := 1581) (P := 1579) W rfl rfl rfl rfl hgu_ rfl TB_ rfl tm_ tu_ (hr.mono (by decide)) (lamS_by (by kernel_rfl)) rfl (fun _ _ _ _ _ => rfl) (fun A_ outer_ s_ H_ E_ f_ c_ hrl_ => (pe_methR (pv 1) cls_Workshop mt_Workshop_do_all (ok_Workshop_do_all W) (hrl_.mono (by decide)) (passX (takesN_of (takes_of rfl rfl rfl rfl)) (fun _ _ _ _ h => h)) (pa_cons (pe_tup (pa_cons pe_str (pa_cons pe_str pa_nil))) (pa_cons (pv 4) pa_nil))))) pa_nil)))
    (pss_cons (ps_setLc (i := 9) (own := [("_law_k", 8)]) (g := gName 8) (tt := tYes) rfl sc__law_odd_right.nd rfl rfl (sw_true rfl rfl rfl (by decide +kernel)) (pi_list (pe_lst (pa_cons pe_int (pa_cons pe_int (pa_cons pe_int (pa_cons pe_int (pa_cons pe_int (pa_cons pe_int pa_nil)))))))) (blkOk_by (own := [("_law_k", 8)]) (N := ["_law_pool_here", "_law_shop", "_law_plain", "_law_deed_here", "_law_bad", "_law_more", "_law_before", "_law_told", "_law_k", "_law_due"]) (sc := defScope s__law_odd_right) (by decide +kernel)) (fun _ _ _ _ _ => (pg_name (i := 8) sc__law_odd_right.nd rfl (Or.inl rfl))) (fun _ _ _ _ _ => pts_nil) (fun _ _ _ _ _ => (pe_lst (pa_cons pe_str (pa_cons (pe_callTy call_str_int rfl (n_str W) boot_str (pa_cons (pv 8) pa_nil)) pa_nil)))))
    (pss_one (ps_ret (pe_and (pe_cmpR (op_eqD hr.units) (pv 7) (pv 9) (nomark _)) (pe_one (pe_cmpR (op_eqD hr.units) (pe_call (ok__law_shown W) (hr.mono (by decide)) rfl (g__law_shown W) (F__law_shown _).kp (b__law_shown _) .nil pass0 (pa_cons (pv 1) pa_nil)) (pv 6) (nomark _)))))))))))))), ?_⟩
      have hC : ShopC 1440 "Workshop" fW := .w
      have hd := imm_putD t
      obtain ⟨px, hpx⟩ := po.lst
      refine q_asgG (tupW (consW (callW (consW (varW rfl (consW (varW rfl (nilW ⟨p, m, true, rfl, po, by omega, fun bad H1 k1 po1 jb => ?_⟩))))))))
      refine consW (callW (consW (varW rfl (consW (varW rfl (nilW ⟨p, m + 1, true, rfl, po1, by omega, fun more H2 k2 po2 jm => ?_⟩))))))
      have jb : Jdg (Kw w) H1 bad fW false := jb
      have jm : Jdg (Kw w) H2 more fW false := jm
      have kd12 := Kd.pool k2 po1 po2
      have kd02 := Kd.pool (k1.trans k2) po po2
      have kz02 : Kz [p] H H2 := .pool (k1.trans k2) po po2 (by simp)
      have hS2 := hS.kz hd kz02 (noIns_lst hpx noIns_nil)
      refine consW (callW (consW (varW rfl (nilW ⟨x, 1440, _, _, ks, ts, putD t, n, rfl, hC, hS2, ok, by omega, hd, fun lb sx H3 _ e3 h3 d3 => ?_⟩))))
      refine nilW ⟨sz_of (show (3 : Nat) ≤ 100000 by decide), fun tt htt => ?_⟩
      refine ⟨tt, _, rfl, SqT.of upd_same, rfl, _, _, rfl, _, _, rfl, _, _, rfl, rfl, ?_⟩
      have e4 := e3.trans (Ex.new (o := .tup [bad, more, .ref lb]) htt)
      have o4 : OI (Kw w) 1440 x p lb fW (m + 2) n ks ts t (shownL "Workshop" ts (putD t) n) sx v bad more (upd H3 tt (.tup [bad, more, .ref lb])) :=
        ⟨(Tabs.kl hT hpx (k1.trans k2)).ext e4, po2.ex e4, hS2.ex hd e4, (hv.tx hd kd02.tx).ex e4, (jb.kd kd12).ex e4, jm.ex e4, (Ex.new htt) _ _ h3, d3.ex (Ex.new htt)⟩
      have kz4 := kz02.trans (.of e4)
      generalize (upd H3 tt (.tup [bad, more, .ref lb])) = H4 at o4 kz4
      have hi : immAll (shownL "Workshop" ts (putD t) n) = true := imm_shown hd
      clear e4 htt e3 h3 d3 hS2 kz02 kd02 kd12 jb jm k1 k2 po1 po2
      have one : ∀ {H' Hd : Hp}, OI (Kw w) 1440 x p lb fW (m + 2) n ks ts t (shownL "Workshop" ts (putD t) n) sx v bad more H' → Kz [] H' Hd → Tabs T76 Hd → OI (Kw w) 1440 x p lb fW (m + 2) n ks ts t (shownL "Workshop" ts (putD t) n) sx v bad more Hd := fun o k T => o.kz hi k T noIns_nil (by simp) (by simp)
      refine q_told (ec_call o4.tabs .deed (fun H' => Rp.int (i := 0)) fun H1 E Q kk T1 xc => ?_) fun l0 H5 k5 T5 td5 hl0 => ?_
      · have o := one o4 kk T1
        exact lam_do rfl o.shop ok hno hd (ea_cons (ev_var rfl) ea_nil) o.jb xc
      have o5 := one o4 k5 T5
      have hlb0 : lb ≠ l0 := fun z => by
        obtain ⟨ps, e⟩ := hl0 _ (by rw [← z]; exact o4.bef)
        cases e
      have hp0 : p ≠ l0 := fun z => by
        obtain ⟨_, q⟩ := o4.pool.lst
        obtain ⟨ps, e⟩ := hl0 _ (by rw [← z]; exact q)
        cases e
      have kz5 : Kz [l0, p] H4 H5 := k5.mono (by simp)
      have two : ∀ {H' Hd : Hp} {its : List (Str × Str)}, OI (Kw w) 1440 x p lb fW (m + 2) n ks ts t (shownL "Workshop" ts (putD t) n) sx v bad more H' → TD H' l0 its → Kz [l0] H' Hd → Tabs T76 Hd → OI (Kw w) 1440 x p lb fW (m + 2) n ks ts t (shownL "Workshop" ts (putD t) n) sx v bad more Hd := fun o td k T => by
        obtain ⟨ls, q, _⟩ := td
        exact o.kz hi k T (noIns_lst q noIns_nil) (by simpa using hp0) (by simpa using hlb0)
      refine q_toldA rfl td5 (by simp) (by decide) (ec_call o5.tabs .deed (fun H' => Rp.int (i := 0)) fun H1 E Q kk T1 xc => ?_) fun H6 k6 T6 td6 => ?_
      · have o := one o5 kk T1
        exact lam_doK rfl o.shop ok hno hd (ea_cons (ev_var rfl) ea_nil) o.jm xc
      have o6 := two o5 td5 k6 T6
      refine q_toldA rfl td6 (by simp) (by decide) (ec_call o6.tabs .deed (fun H' => Rp.int (i := 0)) fun H1 E Q kk T1 xc => ?_) fun H7 k7 T7 td7 => ?_
      · have o := one o6 kk T1
        refine lam_all (j := 0) rfl o.shop ok hno hd (fun QA q => consW (varW rfl (consW (varW rfl (nilW (q _ _ (Ex.refl _) (by simp) (fun i y hi => by omega) ⟨_, rfl, o.jb⟩)))))) xc
      have o7 := two o6 td6 k7 T7
      refine q_toldA rfl td7 (by simp) (by decide) (ec_call o7.tabs .deed (fun H' => Rp.int (i := 1)) fun H1 E Q kk T1 xc => ?_) fun H8 k8 T8 td8 => ?_
      · have o := one o7 kk T1
        refine lam_all (j := 1) rfl o.shop ok hno hd (fun QA q => consW (varW rfl (consW (varW rfl (consW (varW rfl (nilW (q _ _ (Ex.refl _) (by simp) (fun i y hi hy => ?_) ⟨_, rfl, o.jb⟩)))))))) xc
        match i, hi, hy with
        | 0, _, hy =>
          cases hy
          exact jdg_put hC o.dv
      have o8 := two o7 td7 k8 T8
      refine q_toldA rfl td8 (by simp) (by decide) (ec_call o8.tabs .deed (fun H' => Rp.int (i := 2)) fun H1 E Q kk T1 xc => ?_) fun H9 k9 T9 td9 => ?_
      · have o := one o8 kk T1
        refine lam_all (j := 2) rfl o.shop ok hno hd (fun QA q => consW (varW rfl (consW (varW rfl (consW (varW rfl (nilW (q _ _ (Ex.refl _) (by simp) (fun i y hi hy => ?_) ⟨_, rfl, o.jm⟩)))))))) xc
        match i, hi, hy with
        | 0, _, hy =>
          cases hy
          exact jdg_put hC o.dv
        | 1, _, hy =>
          cases hy
          exact jdg_put hC o.dv
      have o9 := two o8 td8 k9 T9
      refine q_toldA rfl td9 (by simp) (by decide) (ec_call o9.tabs .deed (fun H' => Rp.int (i := 1)) fun H1 E Q kk T1 xc => ?_) fun H10 k10 T10 td10 => ?_
      · have o := one o9 kk T1
        refine lam_all (j := 1) rfl o.shop ok hno hd (fun QA q => consW (tupW (consW (cW (consW (cW (nilW ⟨sz_of (show (2 : Nat) ≤ 100000 by decide), fun a ha => consW (varW rfl (nilW (q _ _ (Ex.new ha) (by simp) (fun i y hi hy => ?_) ⟨_, rfl, o.jb.ex (Ex.new ha)⟩)))⟩)))))) ) xc
        match i, hi, hy with
        | 0, _, hy =>
          cases hy
          exact .hd rfl (st_of upd_same) (by simp [heads]) (hC.hd (y := "drop") (m := 2) (by decide +kernel)).symm
      have o10 := two o9 td9 k10 T10
      have kz10 : Kz [l0, p] H4 H10 := ((((kz5.trans (k6.mono (by simp))).trans (k7.mono (by simp))).trans (k8.mono (by simp))).trans (k9.mono (by simp))).trans (k10.mono (by simp))
      clear td5 td6 td7 td8 td9 o5 o6 o7 o8 o9 k5 k6 k7 k8 k9 k10 T5 T6 T7 T8 T9
      refine q_asgW (lc_tell (xs := [.int 0, .int 0, .int 0, .int 1, .int 2, .int 1]) [("InvalidDeed", PyData.shown (.int 0)), ("InvalidDeed", PyData.shown (.int 0)), ("InvalidDeed", PyData.shown (.int 0)), ("InvalidDeed", PyData.shown (.int 1)), ("InvalidDeed", PyData.shown (.int 2)), ("InvalidDeed", PyData.shown (.int 1))] rfl (el_lst (ea_cons ev_c (ea_cons ev_c (ea_cons ev_c (ea_cons ev_c (ea_cons ev_c (ea_cons ev_c ea_nil)))))) (by simp)) (by simp) (by exact fun _ => rfl) (fun i y it H1 e1 hy hit => ?_) fun l2 H11 e11 hl2 td2 => ?_)
      · have due : ∀ (i : Int) (H1 : Hp), i.natAbs.log2 < 1920 → EvL (tLst (tCons (tC (.str "InvalidDeed")) (tCons (tCB (fun xs H Q => ∃ i : Int, xs = [.int i] ∧ i.natAbs.log2 < 1920 ∧ Q (.str (toString i)) H) (tCons (tVar 8) tNil)) tNil))) [some (.ref p), some (.ref x), some (.bl (decide (1440 = 1440))), some v, some bad, some more, some (.ref lb), some (.ref l0), some (.int i), none] H1 [.str "InvalidDeed", .str (PyData.shown (.int i))] := fun i H1 hi => el_lst (ea_cons ev_c (ea_cons (ev_strI (ev_var rfl) hi) ea_nil)) (by simp)
        match i, hy, hit with
        | 0, hy, hit => cases hy; cases hit; exact due 0 H1 (by decide)
        | 1, hy, hit => cases hy; cases hit; exact due 0 H1 (by decide)
        | 2, hy, hit => cases hy; cases hit; exact due 0 H1 (by decide)
        | 3, hy, hit => cases hy; cases hit; exact due 1 H1 (by decide)
        | 4, hy, hit => cases hy; cases hit; exact due 2 H1 (by decide)
        | 5, hy, hit => cases hy; cases hit; exact due 1 H1 (by decide)
        | i + 6, hy, hit => cases hy
      have o11 := one o10 (.of e11) (T10.ext e11)
      have td11 := td10.kz (Kz.of (L := []) e11) (by simp) (by simp)
      have kz11 := kz10.trans (.of e11)
      have fin : ∀ v H', (v = .bl true ∧ Ex H11 H') → Q v H' := by
        rintro v H' ⟨rfl, e⟩
        refine k H' (kz4.trans ((kz11.trans (.of e)).dropT hl0)) (o11.tabs.ext e) (o11.pool.ex e)
      exact s_retW (ev_andV (a := true) (b := true) (ev_tdEq rfl rfl td11 td2 rfl (by decide +kernel)) (fun _ => ev_shownEq rfl rfl hC o11.shop ok (by omega) ht o11.bef o11.db) H11 (Ex.refl _) Q fun H12 e12 => fin _ H12 ⟨rfl, e12⟩)
    | s =>
      refine ⟨_, (pss_cons (ps_asg (pe_tup (pa_cons (pe_call (ok__law_odd W) (hr.mono (by decide)) rfl (g__law_odd W) (F__law_odd _).kp (b__law_odd _) .nil pass0 (pa_cons (pv 0) (pa_cons (pv 2) pa_nil))) (pa_cons (pe_call (ok__law_odd W) (hr.mono (by decide)) rfl (g__law_odd W) (F__law_odd _).kp (b__law_odd _) .nil pass0 (pa_cons (pv 0) (pa_cons (pv 2) pa_nil))) (pa_cons (pe_call (ok__law_shown W) (hr.mono (by decide)) rfl (g__law_shown W) (F__law_shown _).kp (b__law_shown _) .nil pass0 (pa_cons (pv 1) pa_nil)) pa_nil)))) (pg_tup rfl (pgs_cons (pg_name (i := 4) sc__law_odd_right.nd rfl (Or.inr rfl)) (pgs_cons (pg_name (i := 5) sc__law_odd_right.nd rfl (Or.inr rfl)) (pgs_cons (pg_name (i := 6) sc__law_odd_right.nd rfl (Or.inl rfl)) pgs_nil)))))
    (pss_cons (ps_set (i := 7) sc__law_odd_right.nd rfl (Or.inl rfl) (pe_lst (pa_cons (pe_caught (k := 13) (c := 1581) (P := 1579) W rfl rfl rfl rfl hgu_ rfl TB_ rfl tm_ tu_ (hr.mono (by decide)) (lamS_by (by kernel_rfl)) rfl (fun _ _ _ _ _ => rfl) (fun A_ outer_ s_ H_ E_ f_ c_ hrl_ => (pe_meth (pv 1) cls_SiteWorkshop mt_SiteWorkshop_do (ok_SiteWorkshop_do W) (hrl_.mono (by decide)) (b_SiteWorkshop_do _) .nil (passX (takesN_of (takes_of rfl rfl rfl rfl)) (fun _ _ _ _ h => h)) (pa_cons (pv 4) pa_nil)))) pa_nil)))
    (pss_cons (ps_expr (pe_bm PySem.F.plainAttrs_list PySem.F.slot_list_append PySem.F.type_list_append mt_append (pv 7) (pa_cons (pe_caught (k := 13) (c := 1581) (P := 1579) W rfl rfl rfl rfl hgu_ rfl TB_ rfl tm_ tu_ (hr.mono (by decide)) (lamS_by (by kernel_rfl)) rfl (fun _ _ _ _ _ => rfl) (fun A_ outer_ s_ H_ E_ f_ c_ hrl_ => (pe_methKw (pv 1) cls_SiteWorkshop mt_SiteWorkshop_do (ok_SiteWorkshop_do W) (hrl_.mono (by decide)) kb_do (passX (takesN_of (takes_of rfl rfl rfl rfl)) (fun _ _ _ _ h => h)) (pk_cons (pv 5) pk_nil)))) pa_nil)))
    (pss_cons (ps_expr (pe_bm PySem.F.plainAttrs_list PySem.F.slot_list_append PySem.F.type_list_append mt_append (pv 7) (pa_cons (pe_caught (k := 13) (c := 1581) (P := 1579) W rfl rfl rfl rfl hgu_ rfl TB_ rfl tm_ tu_ (hr.mono (by decide)) (lamS_by (by kernel_rfl)) rfl (fun _ _ _ _ _ => rfl) (fun A_ outer_ s_ H_ E_ f_ c_ hrl_ => (pe_methR (pv 1) cls_SiteWorkshop mt_SiteWorkshop_do_all (ok_SiteWorkshop_do_all W) (hrl_.mono (by decide)) (passX (takesN_of (takes_of rfl rfl rfl rfl)) (fun _ _ _ _ h => h)) (pa_cons (pv 4) (pa_cons (pv 5) pa_nil))))) pa_nil)))
    (pss_cons (ps_expr (pe_bm PySem.F.plainAttrs_list PySem.F.slot_list_append PySem.F.type_list_append mt_append (pv 7) (pa_cons (pe_caught (k := 13) (c := 1581) (P := 1579) W rfl rfl rfl rfl hgu_ rfl TB_ rfl tm_ tu_ (hr.mono (by decide)) (lamS_by (by kernel_rfl)) rfl (fun _ _ _ _ _ => rfl) (fun A_ outer_ s_ H_ E_ f_ c_ hrl_ => (pe_methR (pv 1) cls_SiteWorkshop mt_SiteWorkshop_do_all (ok_SiteWorkshop_do_all W) (hrl_.mono (by decide)) (passX (takesN_of (takes_of rfl rfl rfl rfl)) (fun _ _ _ _ h => h)) (pa_cons (pv 3) (pa_cons (pv 4) (pa_cons (pv 3) pa_nil)))))) pa_nil)))
    (pss_cons (ps_expr (pe_bm PySem.F.plainAttrs_list PySem.F.slot_list_append PySem.F.type_list_append mt_append (pv 7) (pa_cons (pe_caught (k := 13) (c := 1581) (P := 1579) W rfl rfl rfl rfl hgu_ rfl TB_ rfl tm_ tu_ (hr.mono (by decide)) (lamS_by (by kernel_rfl)) rfl (fun _ _ _ _ _ => rfl) (fun A_ outer_ s_ H_ E_ f_ c_ hrl_ => (pe_methR (pv 1) cls_SiteWorkshop mt_SiteWorkshop_do_all (ok_SiteWorkshop_do_all W) (hrl_.mono (by decide)) (passX (takesN_of (takes_of rfl rfl rfl rfl)) (fun _ _ _ _ h => h)) (pa_cons (pv 3) (pa_cons (pv 3) (pa_cons (pv 5) pa_nil)))))) pa_nil)))
    (pss_cons (ps_expr (pe_bm PySem.F.plainAttrs_list PySem.F.slot_list_append PySem.F.type_list_append mt_append (pv 7) (pa_cons (pe_caught (k := 13) (c := 1581) (P := 1579) W rfl rfl rfl rfl hgu_ rfl TB_ rfl tm_ tu_ (hr.mono (by decide)) (lamS_by (by kernel_rfl)) rfl (fun _ _ _ _ _ => rfl) (fun A_ outer_ s_ H_ E_ f_ c_ hrl_ => (pe_methR (pv 1) cls_SiteWorkshop mt_SiteWorkshop_do_all (ok_SiteWorkshop_do_all W) (hrl_.mono (by decide)) (passX (takesN_of (takes_of rfl rfl rfl rfl)) (fun _ _ _ _ h => h)) (pa_cons (pe_tup (pa_cons pe_str (pa_cons pe_str pa_nil))) (pa_cons (pv 4) pa_nil))))) pa_nil)))
    (pss_cons (ps_setLc (i := 9) (own := [("_law_k", 8)]) (g := gName 8) (tt := tYes) rfl sc__law_odd_right.nd rfl rfl (sw_true rfl rfl rfl (by decide +kernel)) (pi_list (pe_lst (pa_cons pe_int (pa_cons pe_int (pa_cons pe_int (pa_cons pe_int (pa_cons pe_int (pa_cons pe_int pa_nil)))))))) (blkOk_by (own := [("_law_k", 8)]) (N := ["_law_pool_here", "_law_shop", "_law_plain", "_law_deed_here", "_law_bad", "_law_more", "_law_before", "_law_told", "_law_k", "_law_due"]) (sc := defScope s__law_odd_right) (by decide +kernel)) (fun _ _ _ _ _ => (pg_name (i := 8) sc__law_odd_right.nd rfl (Or.inl rfl))) (fun _ _ _ _ _ => pts_nil) (fun _ _ _ _ _ => (pe_lst (pa_cons pe_str (pa_cons (pe_callTy call_str_int rfl (n_str W) boot_str (pa_cons (pv 8) pa_nil)) pa_nil)))))
    (pss_one (ps_ret (pe_and (pe_cmpR (op_eqD hr.units) (pv 7) (pv 9) (nomark _)) (pe_one (pe_cmpR (op_eqD hr.units) (pe_call (ok__law_shown W) (hr.mono (by decide)) rfl (g__law_shown W) (F__law_shown _).kp (b__law_shown _) .nil pass0 (pa_cons (pv 1) pa_nil)) (pv 6) (nomark _)))))))))))))), ?_⟩
      have hC : ShopC 1504 "SiteWorkshop" fWS := .s
      have hd := imm_putD t
      obtain ⟨px, hpx⟩ := po.lst
      refine q_asgG (tupW (consW (callW (consW (varW rfl (consW (varW rfl (nilW ⟨p, m, false, rfl, po, by omega, fun bad H1 k1 po1 jb => ?_⟩))))))))
      refine consW (callW (consW (varW rfl (consW (varW rfl (nilW ⟨p, m + 1, false, rfl, po1, by omega, fun more H2 k2 po2 jm => ?_⟩))))))
      have jb : Jdg (Kw w) H1 bad fWS false := jb
      have jm : Jdg (Kw w) H2 more fWS false := jm
      have kd12 := Kd.pool k2 po1 po2
      have kd02 := Kd.pool (k1.trans k2) po po2
      have kz02 : Kz [p] H H2 := .pool (k1.trans k2) po po2 (by simp)
      have hS2 := hS.kz hd kz02 (noIns_lst hpx noIns_nil)
      refine consW (callW (consW (varW rfl (nilW ⟨x, 1504, _, _, ks, ts, putD t, n, rfl, hC, hS2, ok, by omega, hd, fun lb sx H3 _ e3 h3 d3 => ?_⟩))))
      refine nilW ⟨sz_of (show (3 : Nat) ≤ 100000 by decide), fun tt htt => ?_⟩
      refine ⟨tt, _, rfl, SqT.of upd_same, rfl, _, _, rfl, _, _, rfl, _, _, rfl, rfl, ?_⟩
      have e4 := e3.trans (Ex.new (o := .tup [bad, more, .ref lb]) htt)
      have o4 : OI (Kw w) 1504 x p lb fWS (m + 2) n ks ts t (shownL "SiteWorkshop" ts (putD t) n) sx v bad more (upd H3 tt (.tup [bad, more, .ref lb])) :=
        ⟨(Tabs.kl hT hpx (k1.trans k2)).ext e4, po2.ex e4, hS2.ex hd e4, (hv.tx hd kd02.tx).ex e4, (jb.kd kd12).ex e4, jm.ex e4, (Ex.new htt) _ _ h3, d3.ex (Ex.new htt)⟩
      have kz4 := kz02.trans (.of e4)
      generalize (upd H3 tt (.tup [bad, more, .ref lb])) = H4 at o4 kz4
      have hi : immAll (shownL "SiteWorkshop" ts (putD t) n) = true := imm_shown hd
      clear e4 htt e3 h3 d3 hS2 kz02 kd02 kd12 jb jm k1 k2 po1 po2
      have one : ∀ {H' Hd : Hp}, OI (Kw w) 1504 x p lb fWS (m + 2) n ks ts t (shownL "SiteWorkshop" ts (putD t) n) sx v bad more H' → Kz [] H' Hd → Tabs T76 Hd → OI (Kw w) 1504 x p lb fWS (m + 2) n ks ts t (shownL "SiteWorkshop" ts (putD t) n) sx v bad more Hd := fun o k T => o.kz hi k T noIns_nil (by simp) (by simp)
      refine q_told (ec_call o4.tabs .deed (fun H' => Rp.int (i := 0)) fun H1 E Q kk T1 xc => ?_) fun l0 H5 k5 T5 td5 hl0 => ?_
      · have o := one o4 kk T1
        exact lam_do rfl o.shop ok hno hd (ea_cons (ev_var rfl) ea_nil) o.jb xc
      have o5 := one o4 k5 T5
      have hlb0 : lb ≠ l0 := fun z => by
        obtain ⟨ps, e⟩ := hl0 _ (by rw [← z]; exact o4.bef)
        cases e
      have hp0 : p ≠ l0 := fun z => by
        obtain ⟨_, q⟩ := o4.pool.lst
        obtain ⟨ps, e⟩ := hl0 _ (by rw [← z]; exact q)
        cases e
      have kz5 : Kz [l0, p] H4 H5 := k5.mono (by simp)
      have two : ∀ {H' Hd : Hp} {its : List (Str × Str)}, OI (Kw w) 1504 x p lb fWS (m + 2) n ks ts t (shownL "SiteWorkshop" ts (putD t) n) sx v bad more H' → TD H' l0 its → Kz [l0] H' Hd → Tabs T76 Hd → OI (Kw w) 1504 x p lb fWS (m + 2) n ks ts t (shownL "SiteWorkshop" ts (putD t) n) sx v bad more Hd := fun o td k T => by
        obtain ⟨ls, q, _⟩ := td
        exact o.kz hi k T (noIns_lst q noIns_nil) (by simpa using hp0) (by simpa using hlb0)
      refine q_toldA rfl td5 (by simp) (by decide) (ec_call o5.tabs .deed (fun H' => Rp.int (i := 0)) fun H1 E Q kk T1 xc => ?_) fun H6 k6 T6 td6 => ?_
      · have o := one o5 kk T1
        exact lam_doK rfl o.shop ok hno hd (ea_cons (ev_var rfl) ea_nil) o.jm xc
      have o6 := two o5 td5 k6 T6
      refine q_toldA rfl td6 (by simp) (by decide) (ec_call o6.tabs .deed (fun H' => Rp.int (i := 0)) fun H1 E Q kk T1 xc => ?_) fun H7 k7 T7 td7 => ?_
      · have o := one o6 kk T1
        refine lam_all (j := 0) rfl o.shop ok hno hd (fun QA q => consW (varW rfl (consW (varW rfl (nilW (q _ _ (Ex.refl _) (by simp) (fun i y hi => by omega) ⟨_, rfl, o.jb⟩)))))) xc
      have o7 := two o6 td6 k7 T7
      refine q_toldA rfl td7 (by simp) (by decide) (ec_call o7.tabs .deed (fun H' => Rp.int (i := 1)) fun H1 E Q kk T1 xc => ?_) fun H8 k8 T8 td8 => ?_
      · have o := one o7 kk T1
        refine lam_all (j := 1) rfl o.shop ok hno hd (fun QA q => consW (varW rfl (consW (varW rfl (consW (varW rfl (nilW (q _ _ (Ex.refl _) (by simp) (fun i y hi hy => ?_) ⟨_, rfl, o.jb⟩)))))))) xc
        match i, hi, hy with
        | 0, _, hy =>
          cases hy
          exact jdg_put hC o.dv
      have o8 := two o7 td7 k8 T8
      refine q_toldA rfl td8 (by simp) (by decide) (ec_call o8.tabs .deed (fun H' => Rp.int (i := 2)) fun H1 E Q kk T1 xc => ?_) fun H9 k9 T9 td9 => ?_
      · have o := one o8 kk T1
        refine lam_all (j := 2) rfl o.shop ok hno hd (fun QA q => consW (varW rfl (consW (varW rfl (consW (varW rfl (nilW (q _ _ (Ex.refl _) (by simp) (fun i y hi hy => ?_) ⟨_, rfl, o.jm⟩)))))))) xc
        match i, hi, hy with
        | 0, _, hy =>
          cases hy
          exact jdg_put hC o.dv
        | 1, _, hy =>
          cases hy
          exact jdg_put hC o.dv
      have o9 := two o8 td8 k9 T9
      refine q_toldA rfl td9 (by simp) (by decide) (ec_call o9.tabs .deed (fun H' => Rp.int (i := 1)) fun H1 E Q kk T1 xc => ?_) fun H10 k10 T10 td10 => ?_
      · have o := one o9 kk T1
        refine lam_all (j := 1) rfl o.shop ok hno hd (fun QA q => consW (tupW (consW (cW (consW (cW (nilW ⟨sz_of (show (2 : Nat) ≤ 100000 by decide), fun a ha => consW (varW rfl (nilW (q _ _ (Ex.new ha) (by simp) (fun i y hi hy => ?_) ⟨_, rfl, o.jb.ex (Ex.new ha)⟩)))⟩)))))) ) xc
        match i, hi, hy with
        | 0, _, hy =>
          cases hy
          exact .hd rfl (st_of upd_same) (by simp [heads]) (hC.hd (y := "drop") (m := 2) (by decide +kernel)).symm
      have o10 := two o9 td9 k10 T10
      have kz10 : Kz [l0, p] H4 H10 := ((((kz5.trans (k6.mono (by simp))).trans (k7.mono (by simp))).trans (k8.mono (by simp))).trans (k9.mono (by simp))).trans (k10.mono (by simp))
      clear td5 td6 td7 td8 td9 o5 o6 o7 o8 o9 k5 k6 k7 k8 k9 k10 T5 T6 T7 T8 T9
      refine q_asgW (lc_tell (xs := [.int 0, .int 0, .int 0, .int 1, .int 2, .int 1]) [("InvalidDeed", PyData.shown (.int 0)), ("InvalidDeed", PyData.shown (.int 0)), ("InvalidDeed", PyData.shown (.int 0)), ("InvalidDeed", PyData.shown (.int 1)), ("InvalidDeed", PyData.shown (.int 2)), ("InvalidDeed", PyData.shown (.int 1))] rfl (el_lst (ea_cons ev_c (ea_cons ev_c (ea_cons ev_c (ea_cons ev_c (ea_cons ev_c (ea_cons ev_c ea_nil)))))) (by simp)) (by simp) (by exact fun _ => rfl) (fun i y it H1 e1 hy hit => ?_) fun l2 H11 e11 hl2 td2 => ?_)
      · have due : ∀ (i : Int) (H1 : Hp), i.natAbs.log2 < 1920 → EvL (tLst (tCons (tC (.str "InvalidDeed")) (tCons (tCB (fun xs H Q => ∃ i : Int, xs = [.int i] ∧ i.natAbs.log2 < 1920 ∧ Q (.str (toString i)) H) (tCons (tVar 8) tNil)) tNil))) [some (.ref p), some (.ref x), some (.bl (decide (1504 = 1440))), some v, some bad, some more, some (.ref lb), some (.ref l0), some (.int i), none] H1 [.str "InvalidDeed", .str (PyData.shown (.int i))] := fun i H1 hi => el_lst (ea_cons ev_c (ea_cons (ev_strI (ev_var rfl) hi) ea_nil)) (by simp)
        match i, hy, hit with
        | 0, hy, hit => cases hy; cases hit; exact due 0 H1 (by decide)
        | 1, hy, hit => cases hy; cases hit; exact due 0 H1 (by decide)
        | 2, hy, hit => cases hy; cases hit; exact due 0 H1 (by decide)
        | 3, hy, hit => cases hy; cases hit; exact due 1 H1 (by decide)
        | 4, hy, hit => cases hy; cases hit; exact due 2 H1 (by decide)
        | 5, hy, hit => cases hy; cases hit; exact due 1 H1 (by decide)
        | i + 6, hy, hit => cases hy
      have o11 := one o10 (.of e11) (T10.ext e11)
      have td11 := td10.kz (Kz.of (L := []) e11) (by simp) (by simp)
      have kz11 := kz10.trans (.of e11)
      have fin : ∀ v H', (v = .bl true ∧ Ex H11 H') → Q v H' := by
        rintro v H' ⟨rfl, e⟩
        refine k H' (kz4.trans ((kz11.trans (.of e)).dropT hl0)) (o11.tabs.ext e) (o11.pool.ex e)
      exact s_retW (ev_andV (a := true) (b := true) (ev_tdEq rfl rfl td11 td2 rfl (by decide +kernel)) (fun _ => ev_shownEq rfl rfl hC o11.shop ok (by omega) ht o11.bef o11.db) H11 (Ex.refl _) Q fun H12 e12 => fin _ H12 ⟨rfl, e12⟩)
end
end K76
set_option maxHeartbeats 4000000
namespace K76
open PySem PySem.W PySem.Calls PyProof.Rows L2 Evl Ed LamX
section
variable {K : PySem.W.Frag} {σ : L2.St} {H H' : Hp} {te : TE} {tr : TA} {D : Ends} {tz : TS} {nm r fld : Str} {C x dx p lb : Addr} {v bad more : V} {lab : Str} {f : Str → Nat → Bool} {ks : List (Str × Int)} {ts : List Tmp} {d : PyData} {m n n' : Nat} {E : XK} {Q : VK} {L : List Addr} {sl : List PyData} {sx : List V} {t : Tmp} {z : Bool}
theorem ShopAt.ins (hS : ShopAt K C H x ks ts d z n) : ∃ dx fs, H x = some (.ins C dx fs) := by
  obtain ⟨dx, b, l, hh, p, s, hx, _⟩ := hS
  exact ⟨dx, _, hx⟩
theorem OI.kzX (o : OI K C x p lb f m n ks ts t sl sx v bad more H) (hi : immAll sl = true) (k : Kz L H H') (T : Tabs T76 H') (h1 : p ∉ L) (h2 : lb ∉ L) (hS : ShopAt K C H' x ks ts (putD t) false n') : OI K C x p lb f m n' ks ts t sl sx v bad more H' := by
  obtain ⟨a, b, c, hp, q⟩ := o.pool
  exact ⟨T, ⟨a, b, c, k.off _ _ hp h1 (fun ps z => by cases z), q⟩, hS, o.dv.tx (imm_putD t) k.kd.tx, o.jb.kd k.kd, o.jm.kd k.kd, k.off _ _ o.bef h2 (fun ps z => by cases z), o.db.tx hi k.kd.tx⟩
theorem OI.exX (o : OI K C x p lb f m n ks ts t sl sx v bad more H) (hi : immAll sl = true) (e : Ex H H') : OI K C x p lb f m n ks ts t sl sx v bad more H' := o.kz hi (Kz.of (L := []) e) (o.tabs.ext e) noIns_nil (by simp) (by simp)
/-- shop.do(v) -/
theorem lam_doX {i : Nat} {P : V → Hp → Prop} (hs : σ[i]? = some (some (.ref x))) (hS : ShopAt K C H x ks ts d false n) (ok : OkB ks ts) (hno : NoS ts) (hd : immD d = true) (ha : ∀ QA : List V → Hp → Prop, (∀ v H1, Ex H H1 → P v H1 → QA [v] H1) → tr σ H QA)
    (hp : ∀ v H1, Ex H H1 → P v H1 → (Jdg K H1 v f false ∧ Xc (Ex H1) 450 "index" (.int 0) E) ∨ (Jdg K H1 v f true ∧ DoneC K C H1 x ks ts d false n v Q E)) : tMeth C "do" (spDo K C f) [] E (tVar i) tr σ H Q := by
  obtain ⟨dx, b, l, hh, p, s, hx, _⟩ := id hS
  exact ⟨.ref x, hs, x, dx, _, rfl, hx, rfl, ha _ fun v H1 e1 pv => ⟨x, v, ks, ts, d, n, rfl, hS.ex hd e1, ok, hno, hd, hp v H1 e1 pv⟩⟩
theorem ha_pair {a b : V} {ta tb : TE} (h1 : Ev ta σ H a) (h2 : Ev tb σ H b) : ∀ QA : List V → Hp → Prop, (∀ v H1, Ex H H1 → (∃ q, v = .ref q ∧ H1 q = some (.tup [a, b])) → QA [v] H1) → tCons (tTup (tCons ta (tCons tb tNil))) tNil σ H QA := fun QA q =>
  consW (tupW (consW (evW h1 fun H1 e1 => consW (h2 H1 e1 _ fun H2 e2 => nilW ⟨sz_of (show (2 : Nat) ≤ 100000 by decide), fun a ha => nilW (q _ _ ((e1.trans e2).trans (Ex.new ha)) ⟨a, rfl, upd_same⟩)⟩))))
theorem jdg_drop (hC : ShopC C lab f) {q : Addr} (h : H q = some (.tup [.str "drop", .str "nosuch"])) : Jdg K H (.ref q) f true ∧ Dp K H (.ref q) dropD := ⟨.hd rfl (st_of h) (by simp [heads]) (hC.hd (y := "drop") (m := 2) (by decide +kernel)).symm, .tup (st_of h) (.cons (.str _) (.cons (.str _) .nil))⟩
theorem jdg_ung (hC : ShopC C lab f) {q : Addr} (h : H q = some (.tup [.str "unguard", .int 5])) : Jdg K H (.ref q) f true ∧ Dp K H (.ref q) unguardD := ⟨.hd rfl (st_of h) (by simp [heads]) (hC.hd (y := "unguard") (m := 2) (by decide +kernel)).symm, .tup (st_of h) (.cons (.str _) (.cons (.int _) .nil))⟩
/-- shop.do_all(..), all deeds -/
theorem lam_allD {i : Nat} {rest : List V} (hs : σ[i]? = some (some (.ref x))) (hC : ShopC C lab f) (hS : ShopAt K C H x ks ts (putD t) false n) (ok : OkB ks ts) (hno : NoS ts) (ht : t ∈ ts) (ha : EvA tr σ H rest) (hr : ∀ y ∈ rest, Dp K H y (putD t)) (hl : rest.length ≤ 100) (hn : n ≤ 100)
    (hk : (n + rest.length ≤ 100 ∧ ∀ H', Kp x H H' → ShopAt K C H' x ks ts (putD t) false (n + rest.length) → Q .non H') ∨ (100 < n + rest.length ∧ Xc (Ex H) 664 "limit" (.int 100) E)) : tMethR C "do_all" (spAllV K C f) E (tVar i) tr σ H Q := by
  obtain ⟨dx, b, l, hh, p, s, hx, _⟩ := id hS
  refine ⟨.ref x, hs, x, dx, _, rfl, hx, rfl, ha H (Ex.refl H) _ fun H1 e1 => ?_⟩
  refine ⟨[.ref x], rest, rfl, rfl, sz_of (by omega), fun p hp => ?_⟩
  have e2 := Ex.new (o := .tup rest) hp
  have e12 := e1.trans e2
  refine ⟨x, p, rest, ks, ts, putD t, n, rfl, st_of upd_same, hS.ex (imm_putD t) e12, ok, hno, imm_putD t, .inr ⟨fun y hy => ⟨jdg_put hC ((hr y hy).ex e12), t, ht, rfl, (hr y hy).ex e12⟩, hn, ?_⟩⟩
  rcases hk with ⟨h1, h2⟩ | ⟨h1, h2⟩
  · exact .inl ⟨h1, fun H' kp q => h2 H' ((Kp.of e12).trans kp) q⟩
  · exact .inr ⟨h1, h2.ex e12⟩
/-- te tells [nm, r]; the shop changes -/
def EvM (te : TE) (σ : L2.St) (H : Hp) (x : Addr) (P : Hp → Prop) (nm r : Str) : Prop := ∀ Q : VK, (∀ l H', Kz [x] H H' → Tabs T76 H' → P H' → H' l = some (.lst [.str nm, .str r]) → Q (.ref l) H') → te σ H Q
theorem ec_told {t : XK → TE} {P : Hp → Prop} (hT : Tabs T76 H) (hx : ∃ dx fs, H x = some (.ins C dx fs)) (hP : ∀ H1 H2, Ex H1 H2 → P H1 → P H2) (h : ∀ H1 E Q, Kz [] H H1 → Tabs T76 H1 → (∀ H', Kp x H1 H' → P H' → Q .non H') → t E σ H1 Q) : EvM (tLam T76 (TCaught K) t) σ H x P "told" "None" := fun Q q =>
  ⟨hT, fun H1 eN T1 Qv hQ => h H1 (EchC K Q) Qv (Kz.ofN eN) T1 fun H' kp pp => by
    obtain ⟨dx, fs, hx⟩ := hx
    have hx1 := eN _ _ hx (fun ps z => by cases z)
    refine hQ .non H' "None" ⟨.none, .non, rfl, (sh_none 0).shaped (by decide), by decide +kernel, by decide +kernel⟩ fun H2 l e2 hl => q l H2 ((Kz.ofN eN).trans ((Kz.kp kp hx1 (by simp)).trans (.of e2))) ((Tabs.kp T1 hx1 kp).ext e2) (hP _ _ e2 pp) hl⟩
theorem q_toldM {i : Nat} {l0 : Addr} {its : List (Str × Str)} {P : Hp → Prop} (hs : σ[i]? = some (some (.ref l0))) (td : TD H l0 its) (hne : its ≠ []) (hlen : its.length < 1000) (hx : ∃ dx fs, H x = some (.ins C dx fs)) (hP : ∀ H1 l xs ys, H1 l = some (.lst xs) → P H1 → P (upd H1 l (.lst ys))) (h : EvM te σ H x P nm r) (k : ∀ H', Kz [l0, x] H H' → Tabs T76 H' → TD H' l0 (its ++ [(nm, r)]) → P H' → tz D σ H') :
    tSeq (tDrop (tBM K "list" rAppend (tVar i) (tCons te tNil))) tz D σ H := by
  obtain ⟨ls, h1, h2, h3⟩ := id td
  obtain ⟨dx, fs, hx⟩ := hx
  have hlx : l0 ≠ x := fun z => by
    rw [z, hx] at h1
    cases h1
  refine s_appW (D := { D with nx := fun σ2 H2 => tz D σ2 H2 }) hs h1 (h _ fun l H1 k1 T1 pp hl => ?_)
  have h11 := k1.off _ _ h1 (by simpa using hlx) (fun ps z => by cases z)
  have td1 := td.kz k1 (by simpa using hlx) (fun a ha x' y' z => by
    rw [List.mem_singleton.mp ha, hx] at z
    cases z)
  have hl0 : l ≠ l0 := TD.ne h11 (fun z => by
    rw [z] at h2
    cases its with
    | nil => exact hne rfl
    | cons a b => simp at h2) hl
  exact appE h11 (by rw [List.length_map]; omega) (k _ ((k1.mono (by simp)).trans (.upl h11 (by simp))) (Tabs.upl T1 h11) (td1.app h11 hl hl0) (hP _ _ _ _ h11 pp))
theorem ev_lenS {i : Nat} (hs : σ[i]? = some (some (.ref x))) (sc : Sc K C) (hS : ShopAt K C H x ks ts d z n) (hd : immD d = true) (hn : n < 1000) : Ev (tCB (rLenO C (spWLen K) E) (tCons (tVar i) tNil)) σ H (.int (n : Int)) := by
  obtain ⟨dx, b, l, hh, p, s, hx, sh⟩ := hS
  have := ev_lenShop (te := tVar i) (σ := σ) (E := E) (ev_var hs) hx sc rfl sh.log (imm_rep n hd) (by rw [List.length_replicate]; exact hn)
  rw [List.length_replicate] at this
  exact this
theorem ShopAt.upl {l : Addr} {xs ys : List V} (hS : ShopAt K C H x ks ts d z n) (hd : immD d = true) (h : H l = some (.lst xs)) : ShopAt K C (upd H l (.lst ys)) x ks ts d z n := hS.kz hd (Kz.upl (L := [l]) h (by simp)) (noIns_lst h noIns_nil)
end
/-! ### lists of pairs, written -/
def PL (H : Hp) (ls : List Addr) (its : List (Str × Str)) : Prop := ls.length = its.length ∧ ∀ (i : Nat) (l : Addr) (it : Str × Str), ls[i]? = some l → its[i]? = some it → H l = some (.lst [.str it.1, .str it.2])
section
variable {K : PySem.W.Frag} {σ : L2.St} {H H' : Hp} {te ta tb : TE} {tr : TA} {ls ms : List Addr} {its js : List (Str × Str)} {a b : Str} {l : Addr} {D : Ends} {tz : TS}
theorem PL.ex (h : PL H ls its) (e : Ex H H') : PL H' ls its := ⟨h.1, fun i l it a b => e _ _ (h.2 i l it a b)⟩
theorem PL.cons (h : PL H ls its) (hl : H l = some (.lst [.str a, .str b])) : PL H (l :: ls) ((a, b) :: its) := ⟨by rw [List.length_cons, List.length_cons, h.1], fun i l' it q r => by
  cases i with
  | zero =>
    cases q
    cases r
    exact hl
  | succ i => exact h.2 i l' it (by simpa using q) (by simpa using r)⟩
theorem PL.app (h : PL H ls its) (g : PL H ms js) : PL H (ls ++ ms) (its ++ js) := ⟨by rw [List.length_append, List.length_append, h.1, g.1], fun i l it q r => by
  rcases Nat.lt_or_ge i ls.length with c | c
  · rw [List.getElem?_append_left c] at q
    rw [List.getElem?_append_left (by rw [← h.1]; exact c)] at r
    exact h.2 i l it q r
  · rw [List.getElem?_append_right c] at q
    rw [List.getElem?_append_right (by rw [← h.1]; exact c), ← h.1] at r
    exact g.2 _ l it q r⟩
def EvTA (tr : TA) (σ : L2.St) (H : Hp) (its : List (Str × Str)) : Prop := ∀ H1, Ex H H1 → ∀ QA : List V → Hp → Prop, (∀ ls H2, Ex H1 H2 → PL H2 ls its → QA (ls.map V.ref) H2) → tr σ H1 QA
def EvTL (te : TE) (σ : L2.St) (H : Hp) (its : List (Str × Str)) : Prop := ∀ H1, Ex H H1 → ∀ Q : VK, (∀ l ls H2, H1 l = none → Ex H1 H2 → H2 l = some (.lst (ls.map V.ref)) → PL H2 ls its → Q (.ref l) H2) → te σ H1 Q
theorem eta_nil : EvTA tNil σ H [] := fun H1 e QA q => q [] H1 (Ex.refl _) ⟨rfl, fun i l it a => by simp at a⟩
theorem eta_cons (hr : EvTA tr σ H its) : EvTA (tCons (tLst (tCons (tC (.str a)) (tCons (tC (.str b)) tNil))) tr) σ H ((a, b) :: its) := fun H1 e QA q =>
  (el_lst (σ := σ) (H := H) (vs := [.str a, .str b]) (ea_cons ev_c (ea_cons ev_c ea_nil)) (by simp)) H1 e _ fun l H2 _ e2 h2 => hr H2 (e.trans e2) _ fun ls H3 e3 p => q (l :: ls) H3 (e2.trans e3) (p.cons (e3 _ _ h2))
theorem etl_lst (h : EvTA tr σ H its) (hl : its.length ≤ 1000) : EvTL (tLst tr) σ H its := fun H1 e Q q => h H1 e _ fun ls H2 e2 p => ⟨sz_of (by rw [List.length_map, p.1]; omega), fun l hl' => q l ls _ (fresh_back e2 hl') (e2.trans (Ex.new hl')) upd_same (p.ex (Ex.new hl'))⟩
theorem etl_rep3 (h : EvTL te σ H [(a, b)]) : EvTL (tOp rRep te (tC (.int 3))) σ H [(a, b), (a, b), (a, b)] := fun H1 e Q q => h H1 e _ fun l ls H2 _ e2 h2 p => by
  match ls, p.1, p, h2 with
  | [l1], _, p, h2 =>
    have hl1 : H2 l1 = some (.lst [.str a, .str b]) := p.2 0 l1 (a, b) rfl rfl
    refine ⟨l, 3, _, rfl, rfl, h2, by decide, by decide, sz_of (by simp), fun m hm => ?_⟩
    have e3 := Ex.new (o := .lst [.ref l1, .ref l1, .ref l1]) hm
    exact q m [l1, l1, l1] _ (fresh_back e2 hm) (e2.trans e3) upd_same ((((PL.cons (⟨rfl, fun i l it a => by simp at a⟩ : PL H2 [] []) hl1).cons hl1).cons hl1).ex e3)
theorem etl_cat (h1 : EvTL ta σ H its) (h2 : EvTL tb σ H js) (hz : its.length + js.length ≤ 1000) : EvTL (tOp rCat ta tb) σ H (its ++ js) := fun H1 e Q q => h1 H1 e _ fun l ls H2 hl e2 hx p => h2 H2 (e.trans e2) _ fun m ms H3 hm e3 hy p' =>
  ⟨l, m, _, _, rfl, rfl, e3 _ _ hx, hy, sz_of (by rw [List.length_map, List.length_map, p.1, p'.1]; omega), fun r hr => by
    have e4 := Ex.new (o := .lst (ls.map V.ref ++ ms.map V.ref)) hr
    exact q r (ls ++ ms) _ (fresh_back (e2.trans e3) hr) ((e2.trans e3).trans e4) (by rw [upd_same, List.map_append]) (((p.ex e3).app p').ex e4)⟩
theorem q_due {i : Nat} (h : EvTL te σ H its) (k : ∀ l H', H l = none → Ex H H' → TD H' l its → tz D (σ.set i (some (.ref l))) H') : tSeq (tAsg te (gName i)) tz D σ H := h H (Ex.refl H) _ fun l ls H' hl e h' p => k l H' hl e ⟨ls, h', p.1, p.2⟩
end
section
variable {K : PySem.W.Frag} {σ : L2.St} {H : Hp} {E : XK} {i j : Nat} {x lb C : Addr} {lab : Str} {f : Str → Nat → Bool} {ks : List (Str × Int)} {ts : List Tmp} {t : Tmp} {n : Nat} {sx : List V}
theorem ev_shownNe (hs : σ[i]? = some (some (.ref x))) (hb : σ[j]? = some (some (.ref lb))) (hC : ShopC C lab f) (hS : ShopAt K C H x ks ts (putD t) false n) (ok : OkB ks ts) (hn : n ≤ 100) (ht : t ∈ ts) (hl : H lb = some (.lst sx)) (hd : DpAll K H sx (shownL lab ts (putD t) n)) :
    Ev (tOp (rNeD K) (tCall (spShown K) [] E (tCons (tVar i) tNil)) (tVar j)) σ H (.bl false) := fun H1 e Q q =>
  callW (consW (varW hs (nilW ⟨x, C, lab, f, ks, ts, putD t, n, rfl, hC, hS.ex (imm_putD t) e, ok, hn, imm_putD t, fun a xs H2 _ e2 h2 d2 => varW hb ⟨_, _, .lst (sq_of h2) d2, .lst (sq_of ((e.trans e2) _ _ hl)) ((hd.ex e).ex e2), (sh_shown hC ok ht).shaped (by decide), (sh_shown hC ok ht).shaped (by decide), by
    rw [(sh_shown hC ok ht).refl]
    exact q _ e2⟩⟩)))
theorem ev_tdNe {l m : Addr} {is js : List (Str × Str)} (hs : σ[i]? = some (some (.ref l))) (hb : σ[j]? = some (some (.ref m))) (t1 : TD H l is) (t2 : TD H m js) (e : is = js) (h : ∀ it ∈ js, PyData.strOk it.1 = true ∧ PyData.strOk it.2 = true) : Ev (tOp (rNeD K) (tVar i) (tVar j)) σ H (.bl false) := by
  subst e
  have := ev_neD (K := K) (σ := σ) (H := H) (ed_var hs t1.dp) (ed_var hb t2.dp) ((sh_tdD h).shaped (by decide)) ((sh_tdD h).shaped (by decide))
  rw [(sh_tdD h).refl] at this
  exact this
end
section
variable {K : PySem.W.Frag} {σ : L2.St} {H : Hp} {te : TE} {u : TT} {tu tz : TS} {D : Ends} {nm r r' : Str}
/-- if _law_caught(..) != [.., ..] or u: -/
theorem q_ifTell (h : EvC te σ H nm r) (hr : r = r') (s1 : PyData.strOk nm = true) (s2 : PyData.strOk r' = true) (k : ∀ H', Kz [] H H' → Tabs T76 H' → u σ H' fun b H1 => if b = true then tu { D with nx := fun σ2 H2 => tz D σ2 H2 } σ H1 else tz D σ H1) :
    tSeq (tIfS (tOr (tTest (tOp (rNeD K) te (tLst (tCons (tC (.str nm)) (tCons (tC (.str r')) tNil))))) u) tu tNext) tz D σ H := by
  subst hr
  refine q_ifW (testW (opW (h _ fun l H1 k1 T1 hl => lstW (consW (cW (consW (cW (nilW ⟨sz_of (by simp), fun m hm => ?_⟩)))))))) 
  have e := Ex.new (o := .lst [.str nm, .str r]) hm
  have sh : Sh 1 (.list [.str nm, .str r]) := sh_lst (k := 0) (sh_c1 (sh_strOk s1) (sh_c1 (sh_strOk s2) sh_c0))
  refine ⟨.list [.str nm, .str r], .list [.str nm, .str r], .lst (sq_of (e _ _ hl)) (.cons (.str _) (.cons (.str _) .nil)), .lst (sq_of upd_same) (.cons (.str _) (.cons (.str _) .nil)), sh.shaped (by decide), sh.shaped (by decide), false, by rw [sh.refl] <;> rfl, ?_⟩
  rw [if_neg Bool.false_ne_true]
  exact k _ (k1.trans (.of e)) (T1.ext e)
end
end K76
set_option maxHeartbeats 4000000
namespace K76
open PySem PySem.W PySem.Calls PyProof.Rows L2 Evl Ed LamX
section
variable {w : World} {mg : Str → Option Value} {base : Heap}
/-! ### _law_full_right -/
theorem sc__law_full_right : FnScope ["_law_pool_here", "_law_shop", "_law_plain", "_law_deed_here", "_law_turn", "_law_before", "_law_bad", "_law_told", "_law_due"] ["_law_pool_here", "_law_shop", "_law_plain", "_law_deed_here"] (defScope s__law_full_right) := ⟨rfl, rfl, rfl, by decide +kernel, rfl, by decide +kernel, by decide +kernel⟩
def spFullR (K : PySem.W.Frag) : Sp := fun vs H Q _ => ∃ (p x C : Addr) (lab : Str) (f : Str → Nat → Bool) (m : Nat) (ks : List (Str × Int)) (ts : List Tmp) (t : Tmp) (n : Nat) (v : V), vs = [.ref p, .ref x, .bl (decide (C = 1440)), v] ∧ ShopC C lab f ∧ PoolAt H p m ∧ m ≤ 90000 ∧ Tabs T76 H ∧ x ≠ p ∧
  ShopAt K C H x ks ts (putD t) false n ∧ OkB ks ts ∧ NoS ts ∧ n ≤ 100 ∧ t ∈ ts ∧ Dp K H v (putD t) ∧ ∀ H', Kz [p, x] H H' → Tabs T76 H' → PoolAt H' p (m + 1) → ShopAt K C H' x ks ts (putD t) false 100 → Q (.bl true) H'
theorem tm2 : ((1584 : Addr), (("_law_full_right" : Str) ++ ".<locals>.") ++ "<lambda>") ∈ T76 := by decide +kernel
theorem tu2 : ∀ p ∈ T76, p.1 = 1584 → p.2 = (("_law_full_right" : Str) ++ ".<locals>.") ++ "<lambda>" := by decide +kernel
theorem ok__law_full_right (W : Wd w.params mg) (TB : ∀ p ∈ cs76, TabB base mg p.1 p.2) : FnRG PR w (Kw w) mg base CX0 16 a__law_full_right (spFullR (Kw w)) := by
  refine (F__law_full_right w.params).okG sc__law_full_right (b__law_full_right _) rfl (fun vs H Q E h => ?_) (fun A outer s H vs Q E hgu hr h => ?_)
  · obtain ⟨p, x, C, lab, f, m, ks, ts, t, n, v, rfl, _⟩ := h
    rfl
  · obtain ⟨p, x, C, lab, f, m, ks, ts, t, n, v, rfl, hC, po, hm, hT, hxp, hS, ok, hno, hn, ht, hv, k⟩ := h
    have TB_ : TabB base mg 1588 1584 := TB (1588, 1584) (by simp [cs76])
    have hgu_ : (A.deeper (envOfC "_law_full_right" (defScope s__law_full_right) s.heap.objs.size a__law_full_right (.ref 1588))).guards = some [] := hgu
    have tm_ := tm2
    have tu_ := tu2
    cases hC with
    | w =>
      refine ⟨_, (pss_cons (ps_for (passes_of rfl) rfl (pi_range1 rfl (n_range W) (pa_cons (pe_op op_sub pe_int (pe_callB (call_lenO spc_Workshop___len__ (ok_Workshop___len__ W) (hr.mono (by decide)) (b_Workshop___len__ _) pass0) rfl (n_len W) boot_len (pa_cons (pv 1) pa_nil))) pa_nil)) (pg_name (i := 4) sc__law_full_right.nd rfl (Or.inl rfl))
    (pss_one (ps_if (pt_cmp (pc_notN (pe_meth (pv 1) cls_Workshop mt_Workshop_do (ok_Workshop_do W) (hr.mono (by decide)) (b_Workshop_do _) .nil passF (pa_cons (pv 3) pa_nil)))) (pss_one (ps_ret pe_bl)) pss_nil)))
    (pss_cons (ps_asg (pe_tup (pa_cons (pe_call (ok__law_shown W) (hr.mono (by decide)) rfl (g__law_shown W) (F__law_shown _).kp (b__law_shown _) .nil pass0 (pa_cons (pv 1) pa_nil)) (pa_cons (pe_call (ok__law_odd W) (hr.mono (by decide)) rfl (g__law_odd W) (F__law_odd _).kp (b__law_odd _) .nil pass0 (pa_cons (pv 0) (pa_cons (pv 2) pa_nil))) pa_nil))) (pg_tup rfl (pgs_cons (pg_name (i := 5) sc__law_full_right.nd rfl (Or.inl rfl)) (pgs_cons (pg_name (i := 6) sc__law_full_right.nd rfl (Or.inr rfl)) pgs_nil))))
    (pss_cons (ps_set (i := 7) sc__law_full_right.nd rfl (Or.inl rfl) (pe_lst (pa_cons (pe_caught (k := 13) (c := 1588) (P := 1584) W rfl rfl rfl rfl hgu_ rfl TB_ rfl tm_ tu_ (hr.mono (by decide)) (lamS_by (by kernel_rfl)) rfl (fun _ _ _ _ _ => rfl) (fun A_ outer_ s_ H_ E_ f_ c_ hrl_ => (pe_meth (pv 1) cls_Workshop mt_Workshop_do (ok_Workshop_do W) (hrl_.mono (by decide)) (b_Workshop_do _) .nil (passX (takesN_of (takes_of rfl rfl rfl rfl)) (fun _ _ _ _ h => h)) (pa_cons (pv 3) pa_nil)))) pa_nil)))
    (pss_cons (ps_expr (pe_bm PySem.F.plainAttrs_list PySem.F.slot_list_append PySem.F.type_list_append mt_append (pv 7) (pa_cons (pe_caught (k := 13) (c := 1588) (P := 1584) W rfl rfl rfl rfl hgu_ rfl TB_ rfl tm_ tu_ (hr.mono (by decide)) (lamS_by (by kernel_rfl)) rfl (fun _ _ _ _ _ => rfl) (fun A_ outer_ s_ H_ E_ f_ c_ hrl_ => (pe_meth (pv 1) cls_Workshop mt_Workshop_do (ok_Workshop_do W) (hrl_.mono (by decide)) (b_Workshop_do _) .nil (passX (takesN_of (takes_of rfl rfl rfl rfl)) (fun _ _ _ _ h => h)) (pa_cons (pe_tup (pa_cons pe_str (pa_cons pe_str pa_nil))) pa_nil)))) pa_nil)))
    (pss_cons (ps_expr (pe_bm PySem.F.plainAttrs_list PySem.F.slot_list_append PySem.F.type_list_append mt_append (pv 7) (pa_cons (pe_caught (k := 13) (c := 1588) (P := 1584) W rfl rfl rfl rfl hgu_ rfl TB_ rfl tm_ tu_ (hr.mono (by decide)) (lamS_by (by kernel_rfl)) rfl (fun _ _ _ _ _ => rfl) (fun A_ outer_ s_ H_ E_ f_ c_ hrl_ => (pe_meth (pv 1) cls_Workshop mt_Workshop_do (ok_Workshop_do W) (hrl_.mono (by decide)) (b_Workshop_do _) .nil (passX (takesN_of (takes_of rfl rfl rfl rfl)) (fun _ _ _ _ h => h)) (pa_cons (pe_tup (pa_cons pe_str (pa_cons pe_int pa_nil))) pa_nil)))) pa_nil)))
    (pss_cons (ps_expr (pe_bm PySem.F.plainAttrs_list PySem.F.slot_list_append PySem.F.type_list_append mt_append (pv 7) (pa_cons (pe_caught (k := 13) (c := 1588) (P := 1584) W rfl rfl rfl rfl hgu_ rfl TB_ rfl tm_ tu_ (hr.mono (by decide)) (lamS_by (by kernel_rfl)) rfl (fun _ _ _ _ _ => rfl) (fun A_ outer_ s_ H_ E_ f_ c_ hrl_ => (pe_meth (pv 1) cls_Workshop mt_Workshop_do (ok_Workshop_do W) (hrl_.mono (by decide)) (b_Workshop_do _) .nil (passX (takesN_of (takes_of rfl rfl rfl rfl)) (fun _ _ _ _ h => h)) (pa_cons (pv 6) pa_nil)))) pa_nil)))
    (pss_cons (ps_expr (pe_bm PySem.F.plainAttrs_list PySem.F.slot_list_append PySem.F.type_list_append mt_append (pv 7) (pa_cons (pe_caught (k := 13) (c := 1588) (P := 1584) W rfl rfl rfl rfl hgu_ rfl TB_ rfl tm_ tu_ (hr.mono (by decide)) (lamS_by (by kernel_rfl)) rfl (fun _ _ _ _ _ => rfl) (fun A_ outer_ s_ H_ E_ f_ c_ hrl_ => (pe_methR (pv 1) cls_Workshop mt_Workshop_do_all (ok_Workshop_do_all W) (hrl_.mono (by decide)) (passX (takesN_of (takes_of rfl rfl rfl rfl)) (fun _ _ _ _ h => h)) (pa_cons (pv 3) pa_nil)))) pa_nil)))
    (pss_cons (ps_expr (pe_bm PySem.F.plainAttrs_list PySem.F.slot_list_append PySem.F.type_list_append mt_append (pv 7) (pa_cons (pe_caught (k := 13) (c := 1588) (P := 1584) W rfl rfl rfl rfl hgu_ rfl TB_ rfl tm_ tu_ (hr.mono (by decide)) (lamS_by (by kernel_rfl)) rfl (fun _ _ _ _ _ => rfl) (fun A_ outer_ s_ H_ E_ f_ c_ hrl_ => (pe_methR0 (pv 1) cls_Workshop mt_Workshop_do_all (ok_Workshop_do_all W) (hrl_.mono (by decide)) (passX (takesN_of (takes_of rfl rfl rfl rfl)) (fun _ _ _ _ h => h)) ))) pa_nil)))
    (pss_cons (ps_set (i := 8) sc__law_full_right.nd rfl (Or.inl rfl) (pe_op op_cat (pe_op op_rep (pe_lst (pa_cons (pe_lst (pa_cons pe_str (pa_cons pe_str pa_nil))) pa_nil)) pe_int) (pe_lst (pa_cons (pe_lst (pa_cons pe_str (pa_cons pe_str pa_nil))) (pa_cons (pe_lst (pa_cons pe_str (pa_cons pe_str pa_nil))) (pa_cons (pe_lst (pa_cons pe_str (pa_cons pe_str pa_nil))) pa_nil))))))
    (pss_cons (ps_if (PW.pt (pw_or (pt_cmpR (op_neD hr.units) (pv 7) (pv 8) (nomark _)) (pw_or (pt_cmpR (op_neD hr.units) (pe_call (ok__law_shown W) (hr.mono (by decide)) rfl (g__law_shown W) (F__law_shown _).kp (b__law_shown _) .nil pass0 (pa_cons (pv 1) pa_nil)) (pv 5) (nomark _)) (pw_or1 (pt_cmpR op_ne (pe_callB (call_lenO spc_Workshop___len__ (ok_Workshop___len__ W) (hr.mono (by decide)) (b_Workshop___len__ _) pass0) rfl (n_len W) boot_len (pa_cons (pv 1) pa_nil)) pe_int (nomark _)))))) (pss_one (ps_ret pe_bl)) pss_nil)
    (pss_cons (ps_expr (pe_meth0 (pv 1) cls_Workshop mt_Workshop_undo (ok_Workshop_undo W) (hr.mono (by decide)) (b_Workshop_undo _) .nil pass0 ))
    (pss_cons (ps_if (PW.pt (pw_or (pt_cmpR (op_neD hr.units) (pe_caught (k := 13) (c := 1588) (P := 1584) W rfl rfl rfl rfl hgu_ rfl TB_ rfl tm_ tu_ (hr.mono (by decide)) (lamS_by (by kernel_rfl)) rfl (fun _ _ _ _ _ => rfl) (fun A_ outer_ s_ H_ E_ f_ c_ hrl_ => (pe_methR (pv 1) cls_Workshop mt_Workshop_do_all (ok_Workshop_do_all W) (hrl_.mono (by decide)) (passX (takesN_of (takes_of rfl rfl rfl rfl)) (fun _ _ _ _ h => h)) (pa_cons (pv 3) (pa_cons (pv 3) pa_nil))))) (pe_lst (pa_cons pe_str (pa_cons pe_str pa_nil))) (nomark _)) (pw_or1 (pt_cmpR op_ne (pe_callB (call_lenO spc_Workshop___len__ (ok_Workshop___len__ W) (hr.mono (by decide)) (b_Workshop___len__ _) pass0) rfl (n_len W) boot_len (pa_cons (pv 1) pa_nil)) pe_int (nomark _))))) (pss_one (ps_ret pe_bl)) pss_nil)
    (pss_cons (ps_set (i := 7) sc__law_full_right.nd rfl (Or.inl rfl) (pe_lst (pa_cons (pe_caught (k := 13) (c := 1588) (P := 1584) W rfl rfl rfl rfl hgu_ rfl TB_ rfl tm_ tu_ (hr.mono (by decide)) (lamS_by (by kernel_rfl)) rfl (fun _ _ _ _ _ => rfl) (fun A_ outer_ s_ H_ E_ f_ c_ hrl_ => (pe_meth (pv 1) cls_Workshop mt_Workshop_do (ok_Workshop_do W) (hrl_.mono (by decide)) (b_Workshop_do _) .nil (passX (takesN_of (takes_of rfl rfl rfl rfl)) (fun _ _ _ _ h => h)) (pa_cons (pe_tup (pa_cons pe_str (pa_cons pe_str pa_nil))) pa_nil)))) pa_nil)))
    (pss_cons (ps_expr (pe_bm PySem.F.plainAttrs_list PySem.F.slot_list_append PySem.F.type_list_append mt_append (pv 7) (pa_cons (pe_caught (k := 13) (c := 1588) (P := 1584) W rfl rfl rfl rfl hgu_ rfl TB_ rfl tm_ tu_ (hr.mono (by decide)) (lamS_by (by kernel_rfl)) rfl (fun _ _ _ _ _ => rfl) (fun A_ outer_ s_ H_ E_ f_ c_ hrl_ => (pe_meth (pv 1) cls_Workshop mt_Workshop_do (ok_Workshop_do W) (hrl_.mono (by decide)) (b_Workshop_do _) .nil (passX (takesN_of (takes_of rfl rfl rfl rfl)) (fun _ _ _ _ h => h)) (pa_cons (pe_tup (pa_cons pe_str (pa_cons pe_int pa_nil))) pa_nil)))) pa_nil)))
    (pss_cons (ps_expr (pe_bm PySem.F.plainAttrs_list PySem.F.slot_list_append PySem.F.type_list_append mt_append (pv 7) (pa_cons (pe_caught (k := 13) (c := 1588) (P := 1584) W rfl rfl rfl rfl hgu_ rfl TB_ rfl tm_ tu_ (hr.mono (by decide)) (lamS_by (by kernel_rfl)) rfl (fun _ _ _ _ _ => rfl) (fun A_ outer_ s_ H_ E_ f_ c_ hrl_ => (pe_methR (pv 1) cls_Workshop mt_Workshop_do_all (ok_Workshop_do_all W) (hrl_.mono (by decide)) (passX (takesN_of (takes_of rfl rfl rfl rfl)) (fun _ _ _ _ h => h)) (pa_cons (pv 3) pa_nil)))) pa_nil)))
    (pss_cons (ps_set (i := 8) sc__law_full_right.nd rfl (Or.inl rfl) (pe_lst (pa_cons (pe_lst (pa_cons pe_str (pa_cons pe_str pa_nil))) (pa_cons (pe_lst (pa_cons pe_str (pa_cons pe_str pa_nil))) (pa_cons (pe_lst (pa_cons pe_str (pa_cons pe_str pa_nil))) pa_nil)))))
    (pss_one (ps_ret (pe_and (pe_cmpR (op_eqD hr.units) (pv 7) (pv 8) (nomark _)) (pe_one (pe_cmpR (op_eqD hr.units) (pe_call (ok__law_shown W) (hr.mono (by decide)) rfl (g__law_shown W) (F__law_shown _).kp (b__law_shown _) .nil pass0 (pa_cons (pv 1) pa_nil)) (pv 5) (nomark _)))))))))))))))))))))), ?_⟩
      have hC : ShopC 1440 "Workshop" fW := .w
      have sc : Sc (Kw w) 1440 := hC.sc
      have hd := imm_putD t
      obtain ⟨px, hpx⟩ := po.lst
      refine q_forR1 (n := 100 - (n : Int)) (ea_cons (ev_subI ev_c (ev_lenS rfl sc hS hd (by omega))) ea_nil) (by omega) (fun i σ' H' => Kz [x] H H' ∧ Tabs T76 H' ∧ ShopAt (Kw w) 1440 H' x ks ts (putD t) false (n + i) ∧ ∃ q, σ' = [some (.ref p), some (.ref x), some (.bl (decide (1440 = 1440))), some v, q, none, none, none, none])
        (fun H1 e1 => ⟨.of e1, hT.ext e1, hS.ex hd e1, _, rfl⟩) (fun i σ' H' hi pv => ?_) (fun σ' H' pv => ?_)
      · obtain ⟨kz, T1, hS1, q, rfl⟩ := pv
        refine lam_doX (P := fun v' _ => v' = v) rfl hS1 ok hno hd (fun QA q => consW (varW rfl (nilW (q _ _ (Ex.refl _) rfl)))) fun v' H1 e1 hv' => ?_
        subst hv'
        have dv1 := (hv.tx hd kz.kd.tx).ex e1
        refine .inr ⟨jdg_put hC dv1, .inr (.inl ⟨by omega, t, ht, rfl, dv1, fun H2 kp hS2 => ⟨false, rfl, ?_⟩⟩)⟩
        obtain ⟨dx, fs, hx⟩ := hS1.ins
        rw [if_neg Bool.false_ne_true]
        exact ⟨kz.trans ((Kz.of e1).trans (.kp kp (e1 _ _ hx) (by simp))), Tabs.kp (T1.ext e1) (e1 _ _ hx) kp, hS2, _, rfl⟩
      obtain ⟨kz1, T1, hS1, q, rfl⟩ := pv
      rw [show n + (100 - (n : Int)).toNat = 100 by omega] at hS1
      obtain ⟨dx0, fs0, hx0⟩ := hS.ins
      have hpx1 := kz1.off _ _ hpx (by simpa using Ne.symm hxp) (fun ps z => by cases z)
      have po1 : PoolAt H'  p m := by
        obtain ⟨a, b, c, hp, q⟩ := po
        exact ⟨a, b, c, kz1.off _ _ hp (by simpa using Ne.symm hxp) (fun ps z => by cases z), q⟩
      refine q_asgG (tupW (consW (callW (consW (varW rfl (nilW ⟨x, 1440, _, _, ks, ts, putD t, 100, rfl, hC, hS1, ok, by omega, hd, fun lb sx H3 hlb e3 h3 d3 => ?_⟩))))))
      refine consW (callW (consW (varW rfl (consW (varW rfl (nilW ⟨p, m, true, rfl, po1.ex e3, by omega, fun bad H4 k4 po4 jb => ?_⟩))))))
      have jb : Jdg (Kw w) H4 bad fW false := jb
      refine nilW ⟨sz_of (show (2 : Nat) ≤ 100000 by decide), fun tt htt => ?_⟩
      refine ⟨tt, _, rfl, SqT.of upd_same, rfl, _, _, rfl, _, _, rfl, rfl, ?_⟩
      have e5 := Ex.new (o := .tup [.ref lb, bad]) htt
      have hlbp : lb ≠ p := fun z => by
        rw [z, hpx1] at hlb
        cases hlb
      have kz4 : Kz [p] H' H4 := (Kz.of e3).trans (.pool k4 (po1.ex e3) po4 (by simp))
      have o5 : OI (Kw w) 1440 x p lb fW (m + 1) 100 ks ts t (shownL "Workshop" ts (putD t) 100) sx v bad bad (upd H4 tt (.tup [.ref lb, bad])) :=
        ⟨(Tabs.kl (T1.ext e3) (e3 _ _ hpx1) k4).ext e5, po4.ex e5, (hS1.kz hd kz4 (noIns_lst hpx1 noIns_nil)).ex hd e5, ((hv.tx hd kz1.kd.tx).tx hd kz4.kd.tx).ex e5, jb.ex e5, jb.ex e5, e5 _ _ (k4.at_ h3 hlbp), (d3.tx (imm_shown hd) k4.tx).ex e5⟩
      have kz5 : Kz [p, x] H (upd H4 tt (.tup [.ref lb, bad])) := ((kz1.mono (by simp)).trans (kz4.mono (by simp))).trans (.of e5)
      have hi : immAll (shownL "Workshop" ts (putD t) 100) = true := imm_shown hd
      have hlbx : lb ≠ x := fun z => by
        obtain ⟨_, _, q⟩ := o5.shop.ins
        rw [← z, o5.bef] at q
        cases q
      generalize (upd H4 tt (.tup [.ref lb, bad])) = H5 at o5 kz5
      clear e5 htt e3 h3 d3 kz4 k4 po4 jb hS1 kz1 T1 po1 hpx1 hlb
      have one : ∀ {H' Hd : Hp} {n : Nat}, OI (Kw w) 1440 x p lb fW (m + 1) n ks ts t (shownL "Workshop" ts (putD t) 100) sx v bad bad H' → Kz [] H' Hd → Tabs T76 Hd → OI (Kw w) 1440 x p lb fW (m + 1) n ks ts t (shownL "Workshop" ts (putD t) 100) sx v bad bad Hd := fun o k T => o.kz hi k T noIns_nil (by simp) (by simp)
      have hP : ∀ {n : Nat} (H1 H2 : Hp), Ex H1 H2 → ShopAt (Kw w) 1440 H1 x ks ts (putD t) false n → ShopAt (Kw w) 1440 H2 x ks ts (putD t) false n := fun _ _ e q => q.ex hd e
      have hPl : ∀ {n : Nat} (H1 : Hp) (l : Addr) (xs ys : List V), H1 l = some (.lst xs) → ShopAt (Kw w) 1440 H1 x ks ts (putD t) false n → ShopAt (Kw w) 1440 (upd H1 l (.lst ys)) x ks ts (putD t) false n := fun _ _ _ _ h q => q.upl hd h
      refine q_told (ec_call o5.tabs .many (fun H' => Rp.int (i := 100)) fun H1 E Q kk T1 xc => ?_) fun l0 H6 k6 T6 td6 hl0 => ?_
      · have o := one o5 kk T1
        exact lam_doX (P := fun v' _ => v' = v) rfl o.shop ok hno hd (fun QA q => consW (varW rfl (nilW (q _ _ (Ex.refl _) rfl)))) fun v' H1 e1 hv' => by
          subst hv'
          exact .inr ⟨jdg_put hC (o.dv.ex e1), .inl ⟨rfl, xc.ex e1⟩⟩
      have o6 := one o5 k6 T6
      have hlb0 : lb ≠ l0 := fun z => by
        obtain ⟨ps, e⟩ := hl0 _ (by rw [← z]; exact o5.bef)
        cases e
      have hp0 : p ≠ l0 := fun z => by
        obtain ⟨_, q⟩ := o5.pool.lst
        obtain ⟨ps, e⟩ := hl0 _ (by rw [← z]; exact q)
        cases e
      have hpx' : p ≠ x := Ne.symm hxp
      have kz6 : Kz [l0, p, x] H5 H6 := k6.mono (by simp)
      have two : ∀ {H' Hd : Hp} {its : List (Str × Str)} {n : Nat}, OI (Kw w) 1440 x p lb fW (m + 1) n ks ts t (shownL "Workshop" ts (putD t) 100) sx v bad bad H' → TD H' l0 its → Kz [l0] H' Hd → Tabs T76 Hd → OI (Kw w) 1440 x p lb fW (m + 1) n ks ts t (shownL "Workshop" ts (putD t) 100) sx v bad bad Hd := fun o td k T => by
        obtain ⟨ls, q, _⟩ := td
        exact o.kz hi k T (noIns_lst q noIns_nil) (by simpa using hp0) (by simpa using hlb0)
      have thr : ∀ {H' Hd : Hp} {n n' : Nat}, OI (Kw w) 1440 x p lb fW (m + 1) n ks ts t (shownL "Workshop" ts (putD t) 100) sx v bad bad H' → Kz [l0, x] H' Hd → Tabs T76 Hd → ShopAt (Kw w) 1440 Hd x ks ts (putD t) false n' → OI (Kw w) 1440 x p lb fW (m + 1) n' ks ts t (shownL "Workshop" ts (putD t) 100) sx v bad bad Hd := fun o k T hS => o.kzX hi k T (by simp only [List.mem_cons, List.not_mem_nil, or_false, not_or]; exact ⟨hp0, hpx'⟩) (by simp only [List.mem_cons, List.not_mem_nil, or_false, not_or]; exact ⟨hlb0, hlbx⟩) hS
      refine q_toldA rfl td6 (by simp) (by decide) (ec_call o6.tabs .many (fun H' => Rp.int (i := 100)) fun H1 E Q kk T1 xc => ?_) fun H7 k7 T7 td7 => ?_
      · have o := one o6 kk T1
        exact lam_doX (P := fun v' H => ∃ q, v' = .ref q ∧ H q = some (.tup [.str "drop", .str "nosuch"])) rfl o.shop ok hno hd (ha_pair ev_c ev_c) fun v' H1 e1 hv' => by
          obtain ⟨q, rfl, h⟩ := hv'
          exact .inr ⟨(jdg_drop hC h).1, .inl ⟨rfl, xc.ex e1⟩⟩
      have o7 := two o6 td6 k7 T7
      refine q_toldA rfl td7 (by simp) (by decide) (ec_call o7.tabs .many (fun H' => Rp.int (i := 100)) fun H1 E Q kk T1 xc => ?_) fun H8 k8 T8 td8 => ?_
      · have o := one o7 kk T1
        exact lam_doX (P := fun v' H => ∃ q, v' = .ref q ∧ H q = some (.tup [.str "unguard", .int 5])) rfl o.shop ok hno hd (ha_pair ev_c ev_c) fun v' H1 e1 hv' => by
          obtain ⟨q, rfl, h⟩ := hv'
          exact .inr ⟨(jdg_ung hC h).1, .inl ⟨rfl, xc.ex e1⟩⟩
      have o8 := two o7 td7 k8 T8
      refine q_toldA rfl td8 (by simp) (by decide) (ec_call o8.tabs .deed (fun H' => Rp.int (i := 0)) fun H1 E Q kk T1 xc => ?_) fun H9 k9 T9 td9 => ?_
      · have o := one o8 kk T1
        exact lam_do rfl o.shop ok hno hd (ea_cons (ev_var rfl) ea_nil) o.jb xc
      have o9 := two o8 td8 k9 T9
      refine q_toldA rfl td9 (by simp) (by decide) (ec_call o9.tabs .many (fun H' => Rp.int (i := 100)) fun H1 E Q kk T1 xc => ?_) fun H10 k10 T10 td10 => ?_
      · have o := one o9 kk T1
        exact lam_allD rfl hC o.shop ok hno ht (ea_cons (ev_var rfl) ea_nil) (fun y hy => by rw [List.mem_singleton.mp hy]; exact o.dv) (by simp) (by omega) (.inr ⟨by simp, xc⟩)
      have o10 := two o9 td9 k10 T10
      refine q_toldM rfl td10 (by simp) (by decide) o10.shop.ins hPl (ec_told (P := fun H => ShopAt (Kw w) 1440 H x ks ts (putD t) false 100) o10.tabs o10.shop.ins hP fun H1 E Q kk T1 hk => ?_) fun H11 k11 T11 td11 pp11 => ?_
      · have o := one o10 kk T1
        exact lam_allD rfl hC o.shop ok hno ht ea_nil (fun y hy => by cases hy) (by simp) (by omega) (.inl ⟨by simp, fun H' kp q => hk H' kp q⟩)
      have o11 := thr o10 k11 T11 pp11
      have kz11 : Kz [l0, p, x] H5 H11 := (((((kz6.trans (k7.mono (by simp))).trans (k8.mono (by simp))).trans (k9.mono (by simp))).trans (k10.mono (by simp)))).trans (k11.mono (by simp))
      clear td6 td7 td8 td9 td10 o6 o7 o8 o9 o10 k6 k7 k8 k9 k10 k11 T6 T7 T8 T9 T10 T11 pp11 kz6
      refine q_due (etl_cat (etl_rep3 (etl_lst (eta_cons eta_nil) (by decide))) (etl_lst (eta_cons (eta_cons (eta_cons eta_nil))) (by decide)) (by decide)) fun l2 H12 _ e12 td12 => ?_
      have o12 := o11.exX hi e12
      have td11' := td11.kz (Kz.of (L := []) e12) (by simp) (by simp)
      refine q_when (b := false) (et_is (et_or (et_test (ev_tdNe rfl rfl td11' td12 (by decide +kernel) (by decide +kernel))) fun _ => et_or (et_test (ev_shownNe rfl rfl hC o12.shop ok (by omega) ht o12.bef o12.db)) fun _ => et_test (ev_op (ev_lenS rfl sc o12.shop hd (by omega)) ev_c (rv_ne rfl))) (by simp)) (fun z => by cases z) fun _ H13 e13 => ?_
      have o13 := o12.exX hi e13
      have kz13 : Kz [p, x] H H13 := kz5.trans (((kz11.trans (.of (e12.trans e13))).dropT hl0))
      obtain ⟨dx, b, l, hh, pp, s, hx13, _⟩ := id o13.shop
      refine q_dropW ⟨.ref x, rfl, x, dx, _, rfl, hx13, rfl, nilW ⟨x, ks, ts, putD t, 99, rfl, o13.shop, by decide, hd, fun H14 kp hS14 => ?_⟩⟩
      have T14 := Tabs.kp o13.tabs hx13 kp
      have o14 := thr o13 (.kp kp hx13 (by simp)) T14 hS14
      have kz14 : Kz [p, x] H H14 := kz13.trans (.kp kp hx13 (by simp))
      refine q_ifTell (ec_call o14.tabs .many (fun H' => Rp.int (i := 100)) fun H1 E Q kk T1 xc => ?_) (by decide +kernel) (by decide +kernel) (by decide +kernel) fun H15 k15 T15 => ?_
      · have o := one o14 kk T1
        exact lam_allD rfl hC o.shop ok hno ht (ea_cons (ev_var rfl) (ea_cons (ev_var rfl) ea_nil)) (fun y hy => by
          simp only [List.mem_cons, List.not_mem_nil, or_false, or_self] at hy
          rw [hy]
          exact o.dv) (by simp) (by omega) (.inr ⟨by simp, xc⟩)
      have o15 := one o14 k15 T15
      refine etW (b := false) (et_is (et_test (ev_op (ev_lenS rfl sc o15.shop hd (by omega)) ev_c (rv_ne rfl))) (by simp)) fun H16 e16 => ?_
      rw [if_neg Bool.false_ne_true]
      have o16 := o15.exX hi e16
      have kz16 : Kz [p, x] H H16 := (kz14.trans (k15.mono (by simp))).trans (.of e16)
      clear o13 o14 o15 k15 T14 T15 e16 e12 e13 o11 o12 td11 td11' td12 kz11 kz13 kz14 hS14 hx13 two thr hp0 hlb0 hl0
      refine q_told (ec_call o16.tabs .unknown (fun H' => Rp.str (y := "nosuch")) fun H1 E Q kk T1 xc => ?_) fun l0 H6 k6 T6 td6 hl0 => ?_
      · have o := one o16 kk T1
        exact lam_doX (P := fun v' H => ∃ q, v' = .ref q ∧ H q = some (.tup [.str "drop", .str "nosuch"])) rfl o.shop ok hno hd (ha_pair ev_c ev_c) fun v' H1 e1 hv' => by
          obtain ⟨q, rfl, h⟩ := hv'
          exact .inr ⟨(jdg_drop hC h).1, .inr (.inr (.inl ⟨by decide, (jdg_drop hC h).2, xc.ex e1⟩))⟩
      have o6 := one o16 k6 T6
      have hlb0 : lb ≠ l0 := fun z => by
        obtain ⟨ps, e⟩ := hl0 _ (by rw [← z]; exact o16.bef)
        cases e
      have hp0 : p ≠ l0 := fun z => by
        obtain ⟨_, q⟩ := o16.pool.lst
        obtain ⟨ps, e⟩ := hl0 _ (by rw [← z]; exact q)
        cases e
      have kz6 : Kz [l0, p, x] H16 H6 := k6.mono (by simp)
      have two : ∀ {H' Hd : Hp} {its : List (Str × Str)} {n : Nat}, OI (Kw w) 1440 x p lb fW (m + 1) n ks ts t (shownL "Workshop" ts (putD t) 100) sx v bad bad H' → TD H' l0 its → Kz [l0] H' Hd → Tabs T76 Hd → OI (Kw w) 1440 x p lb fW (m + 1) n ks ts t (shownL "Workshop" ts (putD t) 100) sx v bad bad Hd := fun o td k T => by
        obtain ⟨ls, q, _⟩ := td
        exact o.kz hi k T (noIns_lst q noIns_nil) (by simpa using hp0) (by simpa using hlb0)
      have thr : ∀ {H' Hd : Hp} {n n' : Nat}, OI (Kw w) 1440 x p lb fW (m + 1) n ks ts t (shownL "Workshop" ts (putD t) 100) sx v bad bad H' → Kz [l0, x] H' Hd → Tabs T76 Hd → ShopAt (Kw w) 1440 Hd x ks ts (putD t) false n' → OI (Kw w) 1440 x p lb fW (m + 1) n' ks ts t (shownL "Workshop" ts (putD t) 100) sx v bad bad Hd := fun o k T hS => o.kzX hi k T (by simp only [List.mem_cons, List.not_mem_nil, or_false, not_or]; exact ⟨hp0, hpx'⟩) (by simp only [List.mem_cons, List.not_mem_nil, or_false, not_or]; exact ⟨hlb0, hlbx⟩) hS
      refine q_toldA rfl td6 (by simp) (by decide) (ec_call o6.tabs .number (fun H' => Rp.int (i := 5)) fun H1 E Q kk T1 xc => ?_) fun H7 k7 T7 td7 => ?_
      · have o := one o6 kk T1
        exact lam_doX (P := fun v' H => ∃ q, v' = .ref q ∧ H q = some (.tup [.str "unguard", .int 5])) rfl o.shop ok hno hd (ha_pair ev_c ev_c) fun v' H1 e1 hv' => by
          obtain ⟨q, rfl, h⟩ := hv'
          exact .inr ⟨(jdg_ung hC h).1, .inr (.inr (.inr ⟨by decide, (jdg_ung hC h).2, xc.ex e1⟩))⟩
      have o7 := two o6 td6 k7 T7
      refine q_toldM rfl td7 (by simp) (by decide) o7.shop.ins hPl (ec_told (P := fun H => ShopAt (Kw w) 1440 H x ks ts (putD t) false 100) o7.tabs o7.shop.ins hP fun H1 E Q kk T1 hk => ?_) fun H8 k8 T8 td8 pp8 => ?_
      · have o := one o7 kk T1
        exact lam_allD rfl hC o.shop ok hno ht (ea_cons (ev_var rfl) ea_nil) (fun y hy => by rw [List.mem_singleton.mp hy]; exact o.dv) (by simp) (by omega) (.inl ⟨by simp, fun H' kp q => hk H' kp q⟩)
      have o8 := thr o7 k8 T8 pp8
      refine q_due (etl_lst (eta_cons (eta_cons (eta_cons eta_nil))) (by decide)) fun l2 H9 _ e9 td9 => ?_
      have o9 := o8.exX hi e9
      have td8' := td8.kz (Kz.of (L := []) e9) (by simp) (by simp)
      have kz9 : Kz [p, x] H H9 := kz16.trans ((((kz6.trans (k7.mono (by simp))).trans (k8.mono (by simp))).trans (.of e9)).dropT hl0)
      have fin : ∀ v H', (v = .bl true ∧ Ex H9 H') → Q v H' := by
        rintro v H' ⟨rfl, e⟩
        exact k H' (kz9.trans (.of e)) (o9.tabs.ext e) (o9.pool.ex e) (o9.shop.ex hd e)
      exact s_retW (ev_andV (a := true) (b := true) (ev_tdEq rfl rfl td8' td9 (by decide +kernel) (by decide +kernel)) (fun _ => ev_shownEq rfl rfl hC o9.shop ok (by omega) ht o9.bef o9.db) H9 (Ex.refl _) Q fun H12 e12 => fin _ H12 ⟨rfl, e12⟩)
    | s =>
      refine ⟨_, (pss_cons (ps_for (passes_of rfl) rfl (pi_range1 rfl (n_range W) (pa_cons (pe_op op_sub pe_int (pe_callB (call_lenO spc_SiteWorkshop___len__ (ok_Workshop___len__ W) (hr.mono (by decide)) (b_Workshop___len__ _) pass0) rfl (n_len W) boot_len (pa_cons (pv 1) pa_nil))) pa_nil)) (pg_name (i := 4) sc__law_full_right.nd rfl (Or.inl rfl))
    (pss_one (ps_if (pt_cmp (pc_notN (pe_meth (pv 1) cls_SiteWorkshop mt_SiteWorkshop_do (ok_SiteWorkshop_do W) (hr.mono (by decide)) (b_SiteWorkshop_do _) .nil passF (pa_cons (pv 3) pa_nil)))) (pss_one (ps_ret pe_bl)) pss_nil)))
    (pss_cons (ps_asg (pe_tup (pa_cons (pe_call (ok__law_shown W) (hr.mono (by decide)) rfl (g__law_shown W) (F__law_shown _).kp (b__law_shown _) .nil pass0 (pa_cons (pv 1) pa_nil)) (pa_cons (pe_call (ok__law_odd W) (hr.mono (by decide)) rfl (g__law_odd W) (F__law_odd _).kp (b__law_odd _) .nil pass0 (pa_cons (pv 0) (pa_cons (pv 2) pa_nil))) pa_nil))) (pg_tup rfl (pgs_cons (pg_name (i := 5) sc__law_full_right.nd rfl (Or.inl rfl)) (pgs_cons (pg_name (i := 6) sc__law_full_right.nd rfl (Or.inr rfl)) pgs_nil))))
    (pss_cons (ps_set (i := 7) sc__law_full_right.nd rfl (Or.inl rfl) (pe_lst (pa_cons (pe_caught (k := 13) (c := 1588) (P := 1584) W rfl rfl rfl rfl hgu_ rfl TB_ rfl tm_ tu_ (hr.mono (by decide)) (lamS_by (by kernel_rfl)) rfl (fun _ _ _ _ _ => rfl) (fun A_ outer_ s_ H_ E_ f_ c_ hrl_ => (pe_meth (pv 1) cls_SiteWorkshop mt_SiteWorkshop_do (ok_SiteWorkshop_do W) (hrl_.mono (by decide)) (b_SiteWorkshop_do _) .nil (passX (takesN_of (takes_of rfl rfl rfl rfl)) (fun _ _ _ _ h => h)) (pa_cons (pv 3) pa_nil)))) pa_nil)))
    (pss_cons (ps_expr (pe_bm PySem.F.plainAttrs_list PySem.F.slot_list_append PySem.F.type_list_append mt_append (pv 7) (pa_cons (pe_caught (k := 13) (c := 1588) (P := 1584) W rfl rfl rfl rfl hgu_ rfl TB_ rfl tm_ tu_ (hr.mono (by decide)) (lamS_by (by kernel_rfl)) rfl (fun _ _ _ _ _ => rfl) (fun A_ outer_ s_ H_ E_ f_ c_ hrl_ => (pe_meth (pv 1) cls_SiteWorkshop mt_SiteWorkshop_do (ok_SiteWorkshop_do W) (hrl_.mono (by decide)) (b_SiteWorkshop_do _) .nil (passX (takesN_of (takes_of rfl rfl rfl rfl)) (fun _ _ _ _ h => h)) (pa_cons (pe_tup (pa_cons pe_str (pa_cons pe_str pa_nil))) pa_nil)))) pa_nil)))
    (pss_cons (ps_expr (pe_bm PySem.F.plainAttrs_list PySem.F.slot_list_append PySem.F.type_list_append mt_append (pv 7) (pa_cons (pe_caught (k := 13) (c := 1588) (P := 1584) W rfl rfl rfl rfl hgu_ rfl TB_ rfl tm_ tu_ (hr.mono (by decide)) (lamS_by (by kernel_rfl)) rfl (fun _ _ _ _ _ => rfl) (fun A_ outer_ s_ H_ E_ f_ c_ hrl_ => (pe_meth (pv 1) cls_SiteWorkshop mt_SiteWorkshop_do (ok_SiteWorkshop_do W) (hrl_.mono (by decide)) (b_SiteWorkshop_do _) .nil (passX (takesN_of (takes_of rfl rfl rfl rfl)) (fun _ _ _ _ h => h)) (pa_cons (pe_tup (pa_cons pe_str (pa_cons pe_int pa_nil))) pa_nil)))) pa_nil)))
    (pss_cons (ps_expr (pe_bm PySem.F.plainAttrs_list PySem.F.slot_list_append PySem.F.type_list_append mt_append (pv 7) (pa_cons (pe_caught (k := 13) (c := 1588) (P := 1584) W rfl rfl rfl rfl hgu_ rfl TB_ rfl tm_ tu_ (hr.mono (by decide)) (lamS_by (by kernel_rfl)) rfl (fun _ _ _ _ _ => rfl) (fun A_ outer_ s_ H_ E_ f_ c_ hrl_ => (pe_meth (pv 1) cls_SiteWorkshop mt_SiteWorkshop_do (ok_SiteWorkshop_do W) (hrl_.mono (by decide)) (b_SiteWorkshop_do _) .nil (passX (takesN_of (takes_of rfl rfl rfl rfl)) (fun _ _ _ _ h => h)) (pa_cons (pv 6) pa_nil)))) pa_nil)))
    (pss_cons (ps_expr (pe_bm PySem.F.plainAttrs_list PySem.F.slot_list_append PySem.F.type_list_append mt_append (pv 7) (pa_cons (pe_caught (k := 13) (c := 1588) (P := 1584) W rfl rfl rfl rfl hgu_ rfl TB_ rfl tm_ tu_ (hr.mono (by decide)) (lamS_by (by kernel_rfl)) rfl (fun _ _ _ _ _ => rfl) (fun A_ outer_ s_ H_ E_ f_ c_ hrl_ => (pe_methR (pv 1) cls_SiteWorkshop mt_SiteWorkshop_do_all (ok_SiteWorkshop_do_all W) (hrl_.mono (by decide)) (passX (takesN_of (takes_of rfl rfl rfl rfl)) (fun _ _ _ _ h => h)) (pa_cons (pv 3) pa_nil)))) pa_nil)))
    (pss_cons (ps_expr (pe_bm PySem.F.plainAttrs_list PySem.F.slot_list_append PySem.F.type_list_append mt_append (pv 7) (pa_cons (pe_caught (k := 13) (c := 1588) (P := 1584) W rfl rfl rfl rfl hgu_ rfl TB_ rfl tm_ tu_ (hr.mono (by decide)) (lamS_by (by kernel_rfl)) rfl (fun _ _ _ _ _ => rfl) (fun A_ outer_ s_ H_ E_ f_ c_ hrl_ => (pe_methR0 (pv 1) cls_SiteWorkshop mt_SiteWorkshop_do_all (ok_SiteWorkshop_do_all W) (hrl_.mono (by decide)) (passX (takesN_of (takes_of rfl rfl rfl rfl)) (fun _ _ _ _ h => h)) ))) pa_nil)))
    (pss_cons (ps_set (i := 8) sc__law_full_right.nd rfl (Or.inl rfl) (pe_op op_cat (pe_op op_rep (pe_lst (pa_cons (pe_lst (pa_cons pe_str (pa_cons pe_str pa_nil))) pa_nil)) pe_int) (pe_lst (pa_cons (pe_lst (pa_cons pe_str (pa_cons pe_str pa_nil))) (pa_cons (pe_lst (pa_cons pe_str (pa_cons pe_str pa_nil))) (pa_cons (pe_lst (pa_cons pe_str (pa_cons pe_str pa_nil))) pa_nil))))))
    (pss_cons (ps_if (PW.pt (pw_or (pt_cmpR (op_neD hr.units) (pv 7) (pv 8) (nomark _)) (pw_or (pt_cmpR (op_neD hr.units) (pe_call (ok__law_shown W) (hr.mono (by decide)) rfl (g__law_shown W) (F__law_shown _).kp (b__law_shown _) .nil pass0 (pa_cons (pv 1) pa_nil)) (pv 5) (nomark _)) (pw_or1 (pt_cmpR op_ne (pe_callB (call_lenO spc_SiteWorkshop___len__ (ok_Workshop___len__ W) (hr.mono (by decide)) (b_Workshop___len__ _) pass0) rfl (n_len W) boot_len (pa_cons (pv 1) pa_nil)) pe_int (nomark _)))))) (pss_one (ps_ret pe_bl)) pss_nil)
    (pss_cons (ps_expr (pe_meth0 (pv 1) cls_SiteWorkshop mt_SiteWorkshop_undo (ok_SiteWorkshop_undo W) (hr.mono (by decide)) (b_SiteWorkshop_undo _) .nil pass0 ))
    (pss_cons (ps_if (PW.pt (pw_or (pt_cmpR (op_neD hr.units) (pe_caught (k := 13) (c := 1588) (P := 1584) W rfl rfl rfl rfl hgu_ rfl TB_ rfl tm_ tu_ (hr.mono (by decide)) (lamS_by (by kernel_rfl)) rfl (fun _ _ _ _ _ => rfl) (fun A_ outer_ s_ H_ E_ f_ c_ hrl_ => (pe_methR (pv 1) cls_SiteWorkshop mt_SiteWorkshop_do_all (ok_SiteWorkshop_do_all W) (hrl_.mono (by decide)) (passX (takesN_of (takes_of rfl rfl rfl rfl)) (fun _ _ _ _ h => h)) (pa_cons (pv 3) (pa_cons (pv 3) pa_nil))))) (pe_lst (pa_cons pe_str (pa_cons pe_str pa_nil))) (nomark _)) (pw_or1 (pt_cmpR op_ne (pe_callB (call_lenO spc_SiteWorkshop___len__ (ok_Workshop___len__ W) (hr.mono (by decide)) (b_Workshop___len__ _) pass0) rfl (n_len W) boot_len (pa_cons (pv 1) pa_nil)) pe_int (nomark _))))) (pss_one (ps_ret pe_bl)) pss_nil)
    (pss_cons (ps_set (i := 7) sc__law_full_right.nd rfl (Or.inl rfl) (pe_lst (pa_cons (pe_caught (k := 13) (c := 1588) (P := 1584) W rfl rfl rfl rfl hgu_ rfl TB_ rfl tm_ tu_ (hr.mono (by decide)) (lamS_by (by kernel_rfl)) rfl (fun _ _ _ _ _ => rfl) (fun A_ outer_ s_ H_ E_ f_ c_ hrl_ => (pe_meth (pv 1) cls_SiteWorkshop mt_SiteWorkshop_do (ok_SiteWorkshop_do W) (hrl_.mono (by decide)) (b_SiteWorkshop_do _) .nil (passX (takesN_of (takes_of rfl rfl rfl rfl)) (fun _ _ _ _ h => h)) (pa_cons (pe_tup (pa_cons pe_str (pa_cons pe_str pa_nil))) pa_nil)))) pa_nil)))
    (pss_cons (ps_expr (pe_bm PySem.F.plainAttrs_list PySem.F.slot_list_append PySem.F.type_list_append mt_append (pv 7) (pa_cons (pe_caught (k := 13) (c := 1588) (P := 1584) W rfl rfl rfl rfl hgu_ rfl TB_ rfl tm_ tu_ (hr.mono (by decide)) (lamS_by (by kernel_rfl)) rfl (fun _ _ _ _ _ => rfl) (fun A_ outer_ s_ H_ E_ f_ c_ hrl_ => (pe_meth (pv 1) cls_SiteWorkshop mt_SiteWorkshop_do (ok_SiteWorkshop_do W) (hrl_.mono (by decide)) (b_SiteWorkshop_do _) .nil (passX (takesN_of (takes_of rfl rfl rfl rfl)) (fun _ _ _ _ h => h)) (pa_cons (pe_tup (pa_cons pe_str (pa_cons pe_int pa_nil))) pa_nil)))) pa_nil)))
    (pss_cons (ps_expr (pe_bm PySem.F.plainAttrs_list PySem.F.slot_list_append PySem.F.type_list_append mt_append (pv 7) (pa_cons (pe_caught (k := 13) (c := 1588) (P := 1584) W rfl rfl rfl rfl hgu_ rfl TB_ rfl tm_ tu_ (hr.mono (by decide)) (lamS_by (by kernel_rfl)) rfl (fun _ _ _ _ _ => rfl) (fun A_ outer_ s_ H_ E_ f_ c_ hrl_ => (pe_methR (pv 1) cls_SiteWorkshop mt_SiteWorkshop_do_all (ok_SiteWorkshop_do_all W) (hrl_.mono (by decide)) (passX (takesN_of (takes_of rfl rfl rfl rfl)) (fun _ _ _ _ h => h)) (pa_cons (pv 3) pa_nil)))) pa_nil)))
    (pss_cons (ps_set (i := 8) sc__law_full_right.nd rfl (Or.inl rfl) (pe_lst (pa_cons (pe_lst (pa_cons pe_str (pa_cons pe_str pa_nil))) (pa_cons (pe_lst (pa_cons pe_str (pa_cons pe_str pa_nil))) (pa_cons (pe_lst (pa_cons pe_str (pa_cons pe_str pa_nil))) pa_nil)))))
    (pss_one (ps_ret (pe_and (pe_cmpR (op_eqD hr.units) (pv 7) (pv 8) (nomark _)) (pe_one (pe_cmpR (op_eqD hr.units) (pe_call (ok__law_shown W) (hr.mono (by decide)) rfl (g__law_shown W) (F__law_shown _).kp (b__law_shown _) .nil pass0 (pa_cons (pv 1) pa_nil)) (pv 5) (nomark _)))))))))))))))))))))), ?_⟩
      have hC : ShopC 1504 "SiteWorkshop" fWS := .s
      have sc : Sc (Kw w) 1504 := hC.sc
      have hd := imm_putD t
      obtain ⟨px, hpx⟩ := po.lst
      refine q_forR1 (n := 100 - (n : Int)) (ea_cons (ev_subI ev_c (ev_lenS rfl sc hS hd (by omega))) ea_nil) (by omega) (fun i σ' H' => Kz [x] H H' ∧ Tabs T76 H' ∧ ShopAt (Kw w) 1504 H' x ks ts (putD t) false (n + i) ∧ ∃ q, σ' = [some (.ref p), some (.ref x), some (.bl (decide (1504 = 1440))), some v, q, none, none, none, none])
        (fun H1 e1 => ⟨.of e1, hT.ext e1, hS.ex hd e1, _, rfl⟩) (fun i σ' H' hi pv => ?_) (fun σ' H' pv => ?_)
      · obtain ⟨kz, T1, hS1, q, rfl⟩ := pv
        refine lam_doX (P := fun v' _ => v' = v) rfl hS1 ok hno hd (fun QA q => consW (varW rfl (nilW (q _ _ (Ex.refl _) rfl)))) fun v' H1 e1 hv' => ?_
        subst hv'
        have dv1 := (hv.tx hd kz.kd.tx).ex e1
        refine .inr ⟨jdg_put hC dv1, .inr (.inl ⟨by omega, t, ht, rfl, dv1, fun H2 kp hS2 => ⟨false, rfl, ?_⟩⟩)⟩
        obtain ⟨dx, fs, hx⟩ := hS1.ins
        rw [if_neg Bool.false_ne_true]
        exact ⟨kz.trans ((Kz.of e1).trans (.kp kp (e1 _ _ hx) (by simp))), Tabs.kp (T1.ext e1) (e1 _ _ hx) kp, hS2, _, rfl⟩
      obtain ⟨kz1, T1, hS1, q, rfl⟩ := pv
      rw [show n + (100 - (n : Int)).toNat = 100 by omega] at hS1
      obtain ⟨dx0, fs0, hx0⟩ := hS.ins
      have hpx1 := kz1.off _ _ hpx (by simpa using Ne.symm hxp) (fun ps z => by cases z)
      have po1 : PoolAt H'  p m := by
        obtain ⟨a, b, c, hp, q⟩ := po
        exact ⟨a, b, c, kz1.off _ _ hp (by simpa using Ne.symm hxp) (fun ps z => by cases z), q⟩
      refine q_asgG (tupW (consW (callW (consW (varW rfl (nilW ⟨x, 1504, _, _, ks, ts, putD t, 100, rfl, hC, hS1, ok, by omega, hd, fun lb sx H3 hlb e3 h3 d3 => ?_⟩))))))
      refine consW (callW (consW (varW rfl (consW (varW rfl (nilW ⟨p, m, false, rfl, po1.ex e3, by omega, fun bad H4 k4 po4 jb => ?_⟩))))))
      have jb : Jdg (Kw w) H4 bad fWS false := jb
      refine nilW ⟨sz_of (show (2 : Nat) ≤ 100000 by decide), fun tt htt => ?_⟩
      refine ⟨tt, _, rfl, SqT.of upd_same, rfl, _, _, rfl, _, _, rfl, rfl, ?_⟩
      have e5 := Ex.new (o := .tup [.ref lb, bad]) htt
      have hlbp : lb ≠ p := fun z => by
        rw [z, hpx1] at hlb
        cases hlb
      have kz4 : Kz [p] H' H4 := (Kz.of e3).trans (.pool k4 (po1.ex e3) po4 (by simp))
      have o5 : OI (Kw w) 1504 x p lb fWS (m + 1) 100 ks ts t (shownL "SiteWorkshop" ts (putD t) 100) sx v bad bad (upd H4 tt (.tup [.ref lb, bad])) :=
        ⟨(Tabs.kl (T1.ext e3) (e3 _ _ hpx1) k4).ext e5, po4.ex e5, (hS1.kz hd kz4 (noIns_lst hpx1 noIns_nil)).ex hd e5, ((hv.tx hd kz1.kd.tx).tx hd kz4.kd.tx).ex e5, jb.ex e5, jb.ex e5, e5 _ _ (k4.at_ h3 hlbp), (d3.tx (imm_shown hd) k4.tx).ex e5⟩
      have kz5 : Kz [p, x] H (upd H4 tt (.tup [.ref lb, bad])) := ((kz1.mono (by simp)).trans (kz4.mono (by simp))).trans (.of e5)
      have hi : immAll (shownL "SiteWorkshop" ts (putD t) 100) = true := imm_shown hd
      have hlbx : lb ≠ x := fun z => by
        obtain ⟨_, _, q⟩ := o5.shop.ins
        rw [← z, o5.bef] at q
        cases q
      generalize (upd H4 tt (.tup [.ref lb, bad])) = H5 at o5 kz5
      clear e5 htt e3 h3 d3 kz4 k4 po4 jb hS1 kz1 T1 po1 hpx1 hlb
      have one : ∀ {H' Hd : Hp} {n : Nat}, OI (Kw w) 1504 x p lb fWS (m + 1) n ks ts t (shownL "SiteWorkshop" ts (putD t) 100) sx v bad bad H' → Kz [] H' Hd → Tabs T76 Hd → OI (Kw w) 1504 x p lb fWS (m + 1) n ks ts t (shownL "SiteWorkshop" ts (putD t) 100) sx v bad bad Hd := fun o k T => o.kz hi k T noIns_nil (by simp) (by simp)
      have hP : ∀ {n : Nat} (H1 H2 : Hp), Ex H1 H2 → ShopAt (Kw w) 1504 H1 x ks ts (putD t) false n → ShopAt (Kw w) 1504 H2 x ks ts (putD t) false n := fun _ _ e q => q.ex hd e
      have hPl : ∀ {n : Nat} (H1 : Hp) (l : Addr) (xs ys : List V), H1 l = some (.lst xs) → ShopAt (Kw w) 1504 H1 x ks ts (putD t) false n → ShopAt (Kw w) 1504 (upd H1 l (.lst ys)) x ks ts (putD t) false n := fun _ _ _ _ h q => q.upl hd h
      refine q_told (ec_call o5.tabs .many (fun H' => Rp.int (i := 100)) fun H1 E Q kk T1 xc => ?_) fun l0 H6 k6 T6 td6 hl0 => ?_
      · have o := one o5 kk T1
        exact lam_doX (P := fun v' _ => v' = v) rfl o.shop ok hno hd (fun QA q => consW (varW rfl (nilW (q _ _ (Ex.refl _) rfl)))) fun v' H1 e1 hv' => by
          subst hv'
          exact .inr ⟨jdg_put hC (o.dv.ex e1), .inl ⟨rfl, xc.ex e1⟩⟩
      have o6 := one o5 k6 T6
      have hlb0 : lb ≠ l0 := fun z => by
        obtain ⟨ps, e⟩ := hl0 _ (by rw [← z]; exact o5.bef)
        cases e
      have hp0 : p ≠ l0 := fun z => by
        obtain ⟨_, q⟩ := o5.pool.lst
        obtain ⟨ps, e⟩ := hl0 _ (by rw [← z]; exact q)
        cases e
      have hpx' : p ≠ x := Ne.symm hxp
      have kz6 : Kz [l0, p, x] H5 H6 := k6.mono (by simp)
      have two : ∀ {H' Hd : Hp} {its : List (Str × Str)} {n : Nat}, OI (Kw w) 1504 x p lb fWS (m + 1) n ks ts t (shownL "SiteWorkshop" ts (putD t) 100) sx v bad bad H' → TD H' l0 its → Kz [l0] H' Hd → Tabs T76 Hd → OI (Kw w) 1504 x p lb fWS (m + 1) n ks ts t (shownL "SiteWorkshop" ts (putD t) 100) sx v bad bad Hd := fun o td k T => by
        obtain ⟨ls, q, _⟩ := td
        exact o.kz hi k T (noIns_lst q noIns_nil) (by simpa using hp0) (by simpa using hlb0)
      have thr : ∀ {H' Hd : Hp} {n n' : Nat}, OI (Kw w) 1504 x p lb fWS (m + 1) n ks ts t (shownL "SiteWorkshop" ts (putD t) 100) sx v bad bad H' → Kz [l0, x] H' Hd → Tabs T76 Hd → ShopAt (Kw w) 1504 Hd x ks ts (putD t) false n' → OI (Kw w) 1504 x p lb fWS (m + 1) n' ks ts t (shownL "SiteWorkshop" ts (putD t) 100) sx v bad bad Hd := fun o k T hS => o.kzX hi k T (by simp only [List.mem_cons, List.not_mem_nil, or_false, not_or]; exact ⟨hp0, hpx'⟩) (by simp only [List.mem_cons, List.not_mem_nil, or_false, not_or]; exact ⟨hlb0, hlbx⟩) hS
      refine q_toldA rfl td6 (by simp) (by decide) (ec_call o6.tabs .many (fun H' => Rp.int (i := 100)) fun H1 E Q kk T1 xc => ?_) fun H7 k7 T7 td7 => ?_
      · have o := one o6 kk T1
        exact lam_doX (P := fun v' H => ∃ q, v' = .ref q ∧ H q = some (.tup [.str "drop", .str "nosuch"])) rfl o.shop ok hno hd (ha_pair ev_c ev_c) fun v' H1 e1 hv' => by
          obtain ⟨q, rfl, h⟩ := hv'
          exact .inr ⟨(jdg_drop hC h).1, .inl ⟨rfl, xc.ex e1⟩⟩
      have o7 := two o6 td6 k7 T7
      refine q_toldA rfl td7 (by simp) (by decide) (ec_call o7.tabs .many (fun H' => Rp.int (i := 100)) fun H1 E Q kk T1 xc => ?_) fun H8 k8 T8 td8 => ?_
      · have o := one o7 kk T1
        exact lam_doX (P := fun v' H => ∃ q, v' = .ref q ∧ H q = some (.tup [.str "unguard", .int 5])) rfl o.shop ok hno hd (ha_pair ev_c ev_c) fun v' H1 e1 hv' => by
          obtain ⟨q, rfl, h⟩ := hv'
          exact .inr ⟨(jdg_ung hC h).1, .inl ⟨rfl, xc.ex e1⟩⟩
      have o8 := two o7 td7 k8 T8
      refine q_toldA rfl td8 (by simp) (by decide) (ec_call o8.tabs .deed (fun H' => Rp.int (i := 0)) fun H1 E Q kk T1 xc => ?_) fun H9 k9 T9 td9 => ?_
      · have o := one o8 kk T1
        exact lam_do rfl o.shop ok hno hd (ea_cons (ev_var rfl) ea_nil) o.jb xc
      have o9 := two o8 td8 k9 T9
      refine q_toldA rfl td9 (by simp) (by decide) (ec_call o9.tabs .many (fun H' => Rp.int (i := 100)) fun H1 E Q kk T1 xc => ?_) fun H10 k10 T10 td10 => ?_
      · have o := one o9 kk T1
        exact lam_allD rfl hC o.shop ok hno ht (ea_cons (ev_var rfl) ea_nil) (fun y hy => by rw [List.mem_singleton.mp hy]; exact o.dv) (by simp) (by omega) (.inr ⟨by simp, xc⟩)
      have o10 := two o9 td9 k10 T10
      refine q_toldM rfl td10 (by simp) (by decide) o10.shop.ins hPl (ec_told (P := fun H => ShopAt (Kw w) 1504 H x ks ts (putD t) false 100) o10.tabs o10.shop.ins hP fun H1 E Q kk T1 hk => ?_) fun H11 k11 T11 td11 pp11 => ?_
      · have o := one o10 kk T1
        exact lam_allD rfl hC o.shop ok hno ht ea_nil (fun y hy => by cases hy) (by simp) (by omega) (.inl ⟨by simp, fun H' kp q => hk H' kp q⟩)
      have o11 := thr o10 k11 T11 pp11
      have kz11 : Kz [l0, p, x] H5 H11 := (((((kz6.trans (k7.mono (by simp))).trans (k8.mono (by simp))).trans (k9.mono (by simp))).trans (k10.mono (by simp)))).trans (k11.mono (by simp))
      clear td6 td7 td8 td9 td10 o6 o7 o8 o9 o10 k6 k7 k8 k9 k10 k11 T6 T7 T8 T9 T10 T11 pp11 kz6
      refine q_due (etl_cat (etl_rep3 (etl_lst (eta_cons eta_nil) (by decide))) (etl_lst (eta_cons (eta_cons (eta_cons eta_nil))) (by decide)) (by decide)) fun l2 H12 _ e12 td12 => ?_
      have o12 := o11.exX hi e12
      have td11' := td11.kz (Kz.of (L := []) e12) (by simp) (by simp)
      refine q_when (b := false) (et_is (et_or (et_test (ev_tdNe rfl rfl td11' td12 (by decide +kernel) (by decide +kernel))) fun _ => et_or (et_test (ev_shownNe rfl rfl hC o12.shop ok (by omega) ht o12.bef o12.db)) fun _ => et_test (ev_op (ev_lenS rfl sc o12.shop hd (by omega)) ev_c (rv_ne rfl))) (by simp)) (fun z => by cases z) fun _ H13 e13 => ?_
      have o13 := o12.exX hi e13
      have kz13 : Kz [p, x] H H13 := kz5.trans (((kz11.trans (.of (e12.trans e13))).dropT hl0))
      obtain ⟨dx, b, l, hh, pp, s, hx13, _⟩ := id o13.shop
      refine q_dropW ⟨.ref x, rfl, x, dx, _, rfl, hx13, rfl, nilW ⟨x, ks, ts, putD t, 99, rfl, o13.shop, by decide, hd, fun H14 kp hS14 => ?_⟩⟩
      have T14 := Tabs.kp o13.tabs hx13 kp
      have o14 := thr o13 (.kp kp hx13 (by simp)) T14 hS14
      have kz14 : Kz [p, x] H H14 := kz13.trans (.kp kp hx13 (by simp))
      refine q_ifTell (ec_call o14.tabs .many (fun H' => Rp.int (i := 100)) fun H1 E Q kk T1 xc => ?_) (by decide +kernel) (by decide +kernel) (by decide +kernel) fun H15 k15 T15 => ?_
      · have o := one o14 kk T1
        exact lam_allD rfl hC o.shop ok hno ht (ea_cons (ev_var rfl) (ea_cons (ev_var rfl) ea_nil)) (fun y hy => by
          simp only [List.mem_cons, List.not_mem_nil, or_false, or_self] at hy
          rw [hy]
          exact o.dv) (by simp) (by omega) (.inr ⟨by simp, xc⟩)
      have o15 := one o14 k15 T15
      refine etW (b := false) (et_is (et_test (ev_op (ev_lenS rfl sc o15.shop hd (by omega)) ev_c (rv_ne rfl))) (by simp)) fun H16 e16 => ?_
      rw [if_neg Bool.false_ne_true]
      have o16 := o15.exX hi e16
      have kz16 : Kz [p, x] H H16 := (kz14.trans (k15.mono (by simp))).trans (.of e16)
      clear o13 o14 o15 k15 T14 T15 e16 e12 e13 o11 o12 td11 td11' td12 kz11 kz13 kz14 hS14 hx13 two thr hp0 hlb0 hl0
      refine q_told (ec_call o16.tabs .unknown (fun H' => Rp.str (y := "nosuch")) fun H1 E Q kk T1 xc => ?_) fun l0 H6 k6 T6 td6 hl0 => ?_
      · have o := one o16 kk T1
        exact lam_doX (P := fun v' H => ∃ q, v' = .ref q ∧ H q = some (.tup [.str "drop", .str "nosuch"])) rfl o.shop ok hno hd (ha_pair ev_c ev_c) fun v' H1 e1 hv' => by
          obtain ⟨q, rfl, h⟩ := hv'
          exact .inr ⟨(jdg_drop hC h).1, .inr (.inr (.inl ⟨by decide, (jdg_drop hC h).2, xc.ex e1⟩))⟩
      have o6 := one o16 k6 T6
      have hlb0 : lb ≠ l0 := fun z => by
        obtain ⟨ps, e⟩ := hl0 _ (by rw [← z]; exact o16.bef)
        cases e
      have hp0 : p ≠ l0 := fun z => by
        obtain ⟨_, q⟩ := o16.pool.lst
        obtain ⟨ps, e⟩ := hl0 _ (by rw [← z]; exact q)
        cases e
      have kz6 : Kz [l0, p, x] H16 H6 := k6.mono (by simp)
      have two : ∀ {H' Hd : Hp} {its : List (Str × Str)} {n : Nat}, OI (Kw w) 1504 x p lb fWS (m + 1) n ks ts t (shownL "SiteWorkshop" ts (putD t) 100) sx v bad bad H' → TD H' l0 its → Kz [l0] H' Hd → Tabs T76 Hd → OI (Kw w) 1504 x p lb fWS (m + 1) n ks ts t (shownL "SiteWorkshop" ts (putD t) 100) sx v bad bad Hd := fun o td k T => by
        obtain ⟨ls, q, _⟩ := td
        exact o.kz hi k T (noIns_lst q noIns_nil) (by simpa using hp0) (by simpa using hlb0)
      have thr : ∀ {H' Hd : Hp} {n n' : Nat}, OI (Kw w) 1504 x p lb fWS (m + 1) n ks ts t (shownL "SiteWorkshop" ts (putD t) 100) sx v bad bad H' → Kz [l0, x] H' Hd → Tabs T76 Hd → ShopAt (Kw w) 1504 Hd x ks ts (putD t) false n' → OI (Kw w) 1504 x p lb fWS (m + 1) n' ks ts t (shownL "SiteWorkshop" ts (putD t) 100) sx v bad bad Hd := fun o k T hS => o.kzX hi k T (by simp only [List.mem_cons, List.not_mem_nil, or_false, not_or]; exact ⟨hp0, hpx'⟩) (by simp only [List.mem_cons, List.not_mem_nil, or_false, not_or]; exact ⟨hlb0, hlbx⟩) hS
      refine q_toldA rfl td6 (by simp) (by decide) (ec_call o6.tabs .number (fun H' => Rp.int (i := 5)) fun H1 E Q kk T1 xc => ?_) fun H7 k7 T7 td7 => ?_
      · have o := one o6 kk T1
        exact lam_doX (P := fun v' H => ∃ q, v' = .ref q ∧ H q = some (.tup [.str "unguard", .int 5])) rfl o.shop ok hno hd (ha_pair ev_c ev_c) fun v' H1 e1 hv' => by
          obtain ⟨q, rfl, h⟩ := hv'
          exact .inr ⟨(jdg_ung hC h).1, .inr (.inr (.inr ⟨by decide, (jdg_ung hC h).2, xc.ex e1⟩))⟩
      have o7 := two o6 td6 k7 T7
      refine q_toldM rfl td7 (by simp) (by decide) o7.shop.ins hPl (ec_told (P := fun H => ShopAt (Kw w) 1504 H x ks ts (putD t) false 100) o7.tabs o7.shop.ins hP fun H1 E Q kk T1 hk => ?_) fun H8 k8 T8 td8 pp8 => ?_
      · have o := one o7 kk T1
        exact lam_allD rfl hC o.shop ok hno ht (ea_cons (ev_var rfl) ea_nil) (fun y hy => by rw [List.mem_singleton.mp hy]; exact o.dv) (by simp) (by omega) (.inl ⟨by simp, fun H' kp q => hk H' kp q⟩)
      have o8 := thr o7 k8 T8 pp8
      refine q_due (etl_lst (eta_cons (eta_cons (eta_cons eta_nil))) (by decide)) fun l2 H9 _ e9 td9 => ?_
      have o9 := o8.exX hi e9
      have td8' := td8.kz (Kz.of (L := []) e9) (by simp) (by simp)
      have kz9 : Kz [p, x] H H9 := kz16.trans ((((kz6.trans (k7.mono (by simp))).trans (k8.mono (by simp))).trans (.of e9)).dropT hl0)
      have fin : ∀ v H', (v = .bl true ∧ Ex H9 H') → Q v H' := by
        rintro v H' ⟨rfl, e⟩
        exact k H' (kz9.trans (.of e)) (o9.tabs.ext e) (o9.pool.ex e) (o9.shop.ex hd e)
      exact s_retW (ev_andV (a := true) (b := true) (ev_tdEq rfl rfl td8' td9 (by decide +kernel) (by decide +kernel)) (fun _ => ev_shownEq rfl rfl hC o9.shop ok (by omega) ht o9.bef o9.db) H9 (Ex.refl _) Q fun H12 e12 => fin _ H12 ⟨rfl, e12⟩)
end
end K76
set_option maxHeartbeats 4000000
namespace K76
open PySem PySem.W PySem.Calls PyProof.Rows L2 Evl Ed LamX
/-! ### how long repr tells -/
theorem okc_iff {x : Str} : PyData.strOk x = true ↔ ∀ c ∈ x.cps.toList, c < 0x110000 := by
  unfold PyData.strOk
  rw [Array.all_eq_true_iff_forall_mem]
  constructor
  · intro h c hc
    exact of_decide_eq_true (h c (Array.mem_toList_iff.mp hc))
  · intro h c hc
    exact decide_eq_true (h c (Array.mem_toList_iff.mpr hc))
theorem okc_app {x y : Str} (hx : PyData.strOk x = true) (hy : PyData.strOk y = true) : PyData.strOk (x ++ y) = true := by
  rw [okc_iff] at hx hy ⊢
  intro c hc
  have : (x ++ y).cps = x.cps ++ y.cps := rfl
  rw [this, Array.toList_append, List.mem_append] at hc
  rcases hc with hc | hc
  · exact hx c hc
  · exact hy c hc
theorem okc_join {sep : Str} (hs : PyData.strOk sep = true) : ∀ {l : List Str}, (∀ x ∈ l, PyData.strOk x = true) → PyData.strOk (Str.join sep l) = true
  | [], _ => by
    show PyData.strOk Str.empty = true
    decide +kernel
  | [x], h => h x (by simp)
  | x :: y :: r, h => okc_app (okc_app (h x (by simp)) hs) (okc_join hs (l := y :: r) fun z hz => h z (by simp [hz]))
theorem okc_tup {l : List Str} (h : ∀ x ∈ l, PyData.strOk x = true) : PyData.strOk (tupleText l) = true := by
  unfold tupleText
  refine okc_app (okc_app (by decide +kernel) (okc_join (by decide +kernel) h)) ?_
  split <;> decide +kernel
theorem okc_fold (q : Nat) : ∀ (l : List Nat) (acc : Array Nat), (∀ c ∈ acc.toList, c < 0x110000) → (∀ c ∈ l, ∀ d ∈ Builtin.Str.reprChar q c, d < 0x110000) → ∀ c ∈ (l.foldl (fun out c => out ++ (Builtin.Str.reprChar q c).toArray) acc).toList, c < 0x110000
  | [], acc, h, _ => h
  | c :: l, acc, h, g => okc_fold q l _ (fun d hd => by
    rw [Array.toList_append, List.mem_append] at hd
    rcases hd with hd | hd
    · exact h d hd
    · exact g c (by simp) d hd) fun d hd => g d (by simp [hd])
theorem okc_repr {x : Str} (h : Nm x) : PyData.strOk (reprText x) = true := by
  have key : ∀ c, c < 123 → 97 ≤ c → (∀ d ∈ Builtin.Str.reprChar 39 c, d < 0x110000) ∧ (∀ d ∈ Builtin.Str.reprChar 34 c, d < 0x110000) := by decide +kernel
  have hq : reprQuote x = 39 ∨ reprQuote x = 34 := by
    unfold reprQuote
    split
    · exact .inr rfl
    · exact .inl rfl
  rw [okc_iff]
  unfold reprText
  intro c hc
  rw [Array.toList_push, List.mem_append, ← Array.foldl_toList] at hc
  rcases hc with hc | hc
  · refine okc_fold _ _ _ (fun d hd => ?_) (fun d hd e he => ?_) c hc
    · have : d = reprQuote x := by simpa using hd
      rw [this]
      rcases hq with q | q <;> rw [q] <;> decide
    · have hz := h.az d hd
      obtain ⟨k1, k2⟩ := key d (by omega) hz.1
      rcases hq with q | q
      · rw [q] at he
        exact k1 e he
      · rw [q] at he
        exact k2 e he
  · have : c = reprQuote x := by simpa using hc
    rw [this]
    rcases hq with q | q <;> rw [q] <;> decide
def Sw (B : Nat) (d : PyData) : Prop := d.showable = true ∧ d.shown.length ≤ B ∧ PyData.strOk d.shown = true
theorem Sw.up {B B' : Nat} {d : PyData} (h : Sw B d) (hb : B ≤ B') : Sw B' d := ⟨h.1, Nat.le_trans h.2.1 hb, h.2.2⟩
theorem sw_int {i : Int} (h0 : 0 ≤ i) (h9 : i ≤ 9) : Sw 100 (.int i) := by
  obtain ⟨n, rfl⟩ : ∃ n : Nat, i = (n : Int) := ⟨i.toNat, by omega⟩
  have hn : n < 10 := by omega
  have key : ∀ n : Nat, n < 10 → PyData.showable (.int (n : Int)) = true ∧ (PyData.shown (.int (n : Int))).length ≤ 100 ∧ PyData.strOk (PyData.shown (.int (n : Int))) = true := by decide +kernel
  exact key n hn
theorem sw_nm {x : Str} (h : Nm x) : Sw 100 (.str x) := ⟨rfl, by
  have h1 := PySem.StrLaws.reprText_len x fun c hc => by
    have := h.az c hc
    omega
  have h2 : x.length ≤ 8 := h.hi
  show (reprText x).length ≤ 100
  omega, okc_repr h⟩
theorem sw_all {B : Nat} : ∀ {ds : List PyData}, (∀ d ∈ ds, Sw B d) → PyData.showableAll ds = true ∧ ((PyData.shownAll ds).map (·.length)).sum ≤ ds.length * B ∧ (PyData.shownAll ds).length = ds.length ∧ ∀ x ∈ PyData.shownAll ds, PyData.strOk x = true
  | [], _ => ⟨rfl, by simp [PyData.shownAll], rfl, fun x hx => by cases hx⟩
  | d :: ds, h => by
    obtain ⟨h1, h2, h6⟩ := h d (by simp)
    obtain ⟨h3, h4, h5, h7⟩ := sw_all (ds := ds) fun e he => h e (by simp [he])
    refine ⟨by rw [PyData.showableAll, h1, h3] <;> rfl, ?_, by rw [PyData.shownAll, List.length_cons, List.length_cons, h5], fun x hx => by
      rw [PyData.shownAll] at hx
      rcases List.mem_cons.mp hx with rfl | hx
      · exact h6
      · exact h7 x hx⟩
    rw [PyData.shownAll, List.map_cons, List.sum_cons, List.length_cons, Nat.succ_mul]
    omega
theorem sw_tup {B B' : Nat} {ds : List PyData} (h : ∀ d ∈ ds, Sw B d) (hb : ds.length * B + 2 * ds.length + 3 ≤ B') : Sw B' (.tuple ds) := by
  obtain ⟨h1, h2, h3, h4⟩ := sw_all h
  refine ⟨by rw [PyData.showable]; exact h1, ?_, by rw [PyData.shown]; exact okc_tup h4⟩
  rw [PyData.shown]
  have := tupleText_len_le (PyData.shownAll ds)
  omega
theorem sw_c1 {B : Nat} {d : PyData} {ds : List PyData} (h : Sw B d) (r : ∀ e ∈ ds, Sw B e) : ∀ e ∈ d :: ds, Sw B e := fun e he => by
  rcases List.mem_cons.mp he with rfl | he
  · exact h
  · exact r e he
theorem sw_c0 {B : Nat} : ∀ e ∈ ([] : List PyData), Sw B e := fun e he => by cases he
theorem sw_map {α : Type} {B : Nat} {f : α → PyData} {l : List α} (h : ∀ a ∈ l, Sw B (f a)) : ∀ d ∈ l.map f, Sw B d := fun d hd => by
  obtain ⟨x, hx, rfl⟩ := List.mem_map.mp hd
  exact h x hx
theorem sw_mul {α : Type} {f : α → PyData} {l : List α} {n B B' : Nat} (hl : l.length ≤ n) (hb : n * B + 2 * n + 3 ≤ B') : (l.map f).length * B + 2 * (l.map f).length + 3 ≤ B' := by
  rw [List.length_map]
  have := Nat.mul_le_mul_right B hl
  omega
theorem sw_tD {ks : List (Str × Int)} (okk : OkK ks) {t : Tmp} (ok : OkT ks t) : Sw 100000 (tD t) := by
  obtain ⟨g, hg, hgp, hms⟩ := ok.g
  obtain ⟨hn, g1, g3⟩ := gates_bd okk hg
  have hpg := ok.pg
  refine sw_tup (B := 10000) (sw_c1 ((sw_nm ok.nm).up (by decide)) (sw_c1 ((sw_nm hn).up (by decide)) (sw_c1 ((sw_int (by omega) (by omega)).up (by decide)) (sw_c1 ?_ (sw_c1 ?_ (sw_c1 ?_ sw_c0)))))) (by simp)
  · refine sw_tup (B := 1000) (sw_map fun l hl => ?_) (sw_mul ok.nl (by decide))
    obtain ⟨ha, hb, hw⟩ := ok.ls l hl
    exact sw_tup (B := 100) (sw_c1 (sw_int ha.1 (by omega)) (sw_c1 (sw_int hb.1 (by omega)) (sw_c1 (sw_nm hw) sw_c0))) (by simp)
  · refine sw_tup (B := 1000) (sw_map fun l hl => ?_) (sw_mul ok.nk (by decide))
    obtain ⟨hp, hw⟩ := hms l hl
    exact sw_tup (B := 100) (sw_c1 (sw_int (by omega) (by omega)) (sw_c1 (sw_nm hw) sw_c0)) (by simp)
  · refine sw_tup (B := 1000) (sw_map fun l hl => ?_) (sw_mul ok.ns (by decide))
    obtain ⟨g', hg', hlen, hsp, _⟩ := ok.ss l hl
    obtain ⟨hn', g1', g3'⟩ := gates_bd okk hg'
    refine sw_tup (B := 400) (sw_c1 ((sw_nm hn').up (by decide)) (sw_c1 (sw_tup (B := 100) (sw_map fun i hi => sw_int (hsp i hi).1 (by have := (hsp i hi).2; omega)) (sw_mul (n := 3) (by omega) (by decide))) sw_c0)) (by simp)
theorem sw_tsD {ks : List (Str × Int)} {ts : List Tmp} (ok : OkB ks ts) : Sw 1000000 (tsD ts) := sw_tup (B := 100000) (sw_map fun t ht => sw_tD ok.k (ok.t.ok t ht)) (sw_mul ok.t.hi (by decide))
theorem sh_tsD {ks : List (Str × Int)} {ts : List Tmp} (ok : OkB ks ts) : Sh 5 (tsD ts) := sh_tup (k := 4) (sh_map fun t ht => sh_tD ok.k (ok.t.ok t ht))
/-- data that repr tells wherever it stands -/
structure Rd76 (K : PySem.W.Frag) (H : Hp) (v : V) (r : Str) : Prop where
  ex : ∃ d : PyData, Dp K H v d ∧ immD d = true ∧ d.showable = true ∧ SeqAt.shaped d = true ∧ d.shown.length ≤ 1000000 ∧ PyData.strOk d.shown = true ∧ d.shown = r
theorem Rd76.tx {K : PySem.W.Frag} {H H' : Hp} {v : V} {r : Str} (h : Rd76 K H v r) (e : Tx H H') : Rd76 K H' v r := by
  obtain ⟨d, h1, h2, h3⟩ := h.ex
  exact ⟨d, h1.tx h2 e, h2, h3⟩
theorem Rd76.rp {K : PySem.W.Frag} {H : Hp} {v : V} {r : Str} (h : Rd76 K H v r) : Rp K H v r := by
  obtain ⟨d, h1, h2, h3, h4, h5, _, h6⟩ := h.ex
  exact ⟨d, h1, h3, h4, Nat.le_trans h5 (by decide +kernel), h6⟩
section
variable {K : PySem.W.Frag} {σ : L2.St} {H : Hp} {C : Addr} {nm r fld : Str} {v : V}
theorem ec_callK {t : XK → TE} (hT : Tabs T76 H) (five : Five C nm fld) (hr : ∀ H', Kz [] H H' → Rp K H' v r) (h : ∀ H1 E Q, Kz [] H H1 → Tabs T76 H1 → Xc (Ex H1) C fld v E → t E σ H1 Q) : EvC (tLam T76 (TCaught K) t) σ H nm r := fun Q q =>
  ⟨hT, fun H1 eN T1 Qv _ => h H1 (EchC K Q) Qv (Kz.ofN eN) T1 fun dd H' e hdd => ⟨C, nm, fld, v, r, dd, rfl, rfl, hdd, five, hr H' ((Kz.ofN eN).trans (.of e)), fun H2 l e2 hl => q l H2 ((Kz.ofN eN).trans (.of (e.trans e2))) (T1.ext (e.trans e2)) hl⟩⟩
end
/-! ### the values that are no books -/
section
variable {K : PySem.W.Frag} {H H' : Hp} {v : V} {r : Str}
/-- no book, and repr tells r of it -/
def NoBook (K : PySem.W.Frag) (H : Hp) (v : V) (r : Str) : Prop := Rd76 K H v r ∧ PyData.strOk r = true ∧ ∃ t, TyX K H v t ∧ kitOne K t (.ref 835) = some false
theorem NoBook.kd (h : NoBook K H v r) (k : Kd H H') : NoBook K H' v r := ⟨h.1.tx k.tx, h.2.1, by
  obtain ⟨t, h1, h2⟩ := h.2.2
  exact ⟨t, tyX_kd h1 k, h2⟩⟩
theorem nb_of {d : PyData} {B : Nat} (h : Dp K H v d) (hi : immD d = true) (hs : Sh 5 d) (hw : Sw B d) (hB : B ≤ 1000000) {t : Value} (ht : TyX K H v t) (hk : kitOne K t (.ref 835) = some false) : NoBook K H v d.shown := ⟨⟨d, h, hi, hw.1, hs.shaped (by decide), Nat.le_trans hw.2.1 hB, hw.2.2, rfl⟩, hw.2.2, t, ht, hk⟩
end
theorem odd6 {P : Params} {H : Hp} {e0 rt : Addr} {xs : List V} {ks : List (Str × Int)} {ts : List Tmp} (ok : OkB ks ts) (h0 : H e0 = some (.tup [])) (hs : SqT (K0 P) H rt xs) (hd : DpAll (K0 P) H xs (ts.map tD)) : ∀ i : Nat, i < 6 → ∃ v r, ([.non, .bl true, .str "x", .ref e0, .ref rt, .int 5] : List V)[i]? = some v ∧ NoBook (K0 P) H v r
  | 0, _ => ⟨_, _, rfl, nb_of (B := 100) .non rfl (sh_none _) (by refine ⟨rfl, ?_, ?_⟩ <;> decide +kernel) (by decide) (.base .non) kit_none_Book⟩
  | 1, _ => ⟨_, _, rfl, nb_of (B := 100) (.bl true) rfl (sh_bool _ _) (by refine ⟨rfl, ?_, ?_⟩ <;> decide +kernel) (by decide) (.base (.bl _)) (by kernel_rfl)⟩
  | 2, _ => ⟨_, _, rfl, nb_of (B := 100) (.str "x") rfl (sh_strOk (by decide +kernel)) (by refine ⟨rfl, ?_, ?_⟩ <;> decide +kernel) (by decide) (.base (.str _)) (by kernel_rfl)⟩
  | 3, _ => ⟨_, _, rfl, nb_of (B := 100) (.tup (st_of h0) .nil) rfl (Sh.up (sh_tup (k := 0) sh_c0) (by decide)) (sw_tup (B := 0) sw_c0 (by decide)) (by decide) (.base (.tup h0)) (by kernel_rfl)⟩
  | 4, _ => ⟨_, _, rfl, nb_of (.tup hs hd) (imm_tsD ts) (sh_tsD ok) (sw_tsD ok) (by decide) (tyX_t hs) (by kernel_rfl)⟩
  | 5, _ => ⟨_, _, rfl, nb_of (B := 100) (.int 5) rfl (sh_int _ _) (sw_int (by decide) (by decide)) (by decide) (.base (.int _)) (by kernel_rfl)⟩
end K76
set_option maxHeartbeats 4000000
namespace L2
open PySem PySem.Spec PyProof.Rows
/-- one of two readings -/
theorem pss_or {X : Cx} {b : List Stmt} {t1 t2 : TS} (h1 : PSs X b t1) (h2 : PSs X b t2) : PSs X b (fun D σ H => t1 D σ H ∨ t2 D σ H) := ⟨fun pins s σ H D I h => by
  rcases h with h | h
  · exact h1.run pins s σ H D I h
  · exact h2.run pins s σ H D I h⟩
end L2
namespace K76
open PySem PySem.W PySem.Calls PyProof.Rows L2 Evl Ed LamX
section
variable {K : PySem.W.Frag} {σ : L2.St} {H H' : Hp} {E : XK} {Q : VK} {tr : TA} {te ta : TE} {C x dx b : Addr} {u v y : V} {ks : List (Str × Int)} {ts : List Tmp} {d : PyData} {n : Nat} {z : Bool} {i j : Nat} {lab : Str} {f : Str → Nat → Bool}
theorem mk_ex {x dx C : Addr} (hx : H x = none) (hdx : H dx = none) (hne : dx ≠ x) : Ex H (upd (upd H dx (.own x)) x (.ins C dx [])) := (Ex.new hdx).trans (Ex.new ((upd_ne (Ne.symm hne)).trans hx))
theorem off_ex {H2 : Hp} (e : Ex H H') (o : Off [b] H' H2) (hb : H b = none) : Ex H H2 := fun a q ha => o a q (by
  simp only [List.mem_singleton]
  intro z
  rw [z, hb] at ha
  cases ha) (e a q ha)
theorem make_bookV (ha : EvA tr σ H [u, v]) (hu : Dp K H u (ksD ks)) (hv : Dp K H v (tsD ts)) (ok : OkB ks ts) (k : ∀ b H', Ex H H' → H b = none → BookAt K H' b ks ts → Q (.ref b) H') : tMake 835 (spBookInit K) [] E tr σ H Q :=
  ha H (Ex.refl H) _ fun H1 e1 x dx hx hdx hne => by
    have e2 := mk_ex (C := 835) hx hdx hne
    exact ⟨x, dx, u, v, ks, ts, rfl, upd_same, (hu.ex e1).ex e2, (hv.ex e1).ex e2, ok, fun H' off hb => ⟨rfl, k x H' (e1.trans (off_ex e2 off hx)) (fresh_back e1 hx) hb⟩⟩
theorem make_shop (ha : EvA tr σ H [.ref b]) (hb : BookAt K H b ks ts) (k : ∀ x H', Ex H H' → H x = none → (∀ d, ShopAt K C H' x ks ts d false 0) → Q (.ref x) H') : tMake C (spWInit K C) [] E tr σ H Q :=
  ha H (Ex.refl H) _ fun H1 e1 x dx hx hdx hne => by
    have e2 := mk_ex (C := C) hx hdx hne
    have hb1 := hb.ex e1
    refine ⟨x, dx, upd_same, .inl ⟨b, ks, ts, rfl, ⟨hb1.ex e2, fun q => ?_⟩, fun H' off sh => ⟨rfl, k x H' (e1.trans (off_ex e2 off hx)) (fresh_back e1 hx) sh⟩⟩⟩
    obtain ⟨_, _, _, _, _, _, w, _⟩ := hb1
    rw [q, hx] at w
    cases w
theorem make_bad {t : Value} (ha : EvA tr σ H [y]) (ht : TyX K H y t) (hk : kitOne K t (.ref 835) = some false) (xc : Xc (Ex H) 127 "value" y E) : tMake C (spWInit K C) [] E tr σ H Q :=
  ha H (Ex.refl H) _ fun H1 e1 x dx hx hdx hne => by
    have e2 := mk_ex (C := C) hx hdx hne
    exact ⟨x, dx, upd_same, .inr ⟨y, t, rfl, tyX_ex (tyX_ex ht e1) e2, hk, (xc.ex e1).ex e2⟩⟩
theorem ev_bool0 (hs : σ[i]? = some (some (.ref x))) (sc : Sc K C) (hS : ShopAt K C H x ks ts d z n) (hd : immD d = true) (hn : n < 1000) : Ev (tCB (rBoolO C (spWLen K) E) (tCons (tVar i) tNil)) σ H (.bl (decide (n ≠ 0))) := fun H1 e Q q => cbW (consW (varW hs (nilW (by
  obtain ⟨dx, b, l, hh, p, s, hx, sh⟩ := hS
  refine ⟨x, dx, _, rfl, e _ _ hx, x, C, dx, _, l, List.replicate n d, rfl, sc, e _ _ hx, rfl, sh.log.ex e, fun H2 e2 => ⟨_, rfl, by omega, by rw [List.length_replicate]; omega, ?_⟩⟩
  have : (((List.replicate n d).length : Int) != 0) = decide (n ≠ 0) := by
    rw [List.length_replicate]
    by_cases h : n = 0
    · subst h
      rfl
    · rw [decide_eq_true h]
      simp [h]
  rw [this]
  exact q H2 e2))))
theorem orW {t u : TT} {QB : Bool → Hp → Prop} (h : t σ H fun c H1 => if c = true then QB true H1 else u σ H1 QB) : tOr t u σ H QB := h
theorem tbW {QB : Bool → Hp → Prop} (h : te σ H fun v H1 => ∃ b, v = .bl b ∧ QB b H1) : tB te σ H QB := h
theorem notW {t : TT} {QB : Bool → Hp → Prop} (h : t σ H fun b H1 => QB (!b) H1) : tNot t σ H QB := h
theorem dpAll_at : ∀ {xs : List V} {ds : List PyData} {i : Nat}, DpAll K H xs ds → i < ds.length → ∃ v d, xs[i]? = some v ∧ ds[i]? = some d ∧ Dp K H v d
  | _, _, 0, .cons a b, _ => ⟨_, _, rfl, rfl, a⟩
  | _, _, i + 1, .cons a b, h => dpAll_at (i := i) b (by simpa using h)
theorem ed_two {r : Str} (hs : σ[i]? = some (some v)) (nb : NoBook K H v r) : EvD K (tOp rRep (tLst (tCons (tLst (tCons (tC (.str "NotABook")) (tCons (tCB (rReprD K) (tCons (tVar i) tNil)) tNil))) tNil)) (tC (.int 2))) σ H (tdD [("NotABook", r), ("NotABook", r)]) := fun H1 e Q q => by
  obtain ⟨d, dp, h1, h2, h3, h4⟩ := (nb.kd (Kd.of e)).1.rp.ex
  subst h4
  refine opW (lstW (consW (lstW (consW (cW (consW (cbW (consW (varW hs (nilW ⟨v, d, rfl, dp, h1, h2, h3, nilW ⟨sz_of (by simp), fun li hli => nilW ⟨sz_of (by simp), fun lo hlo => cW ⟨lo, 2, [.ref li], rfl, rfl, upd_same, by decide, by decide, sz_of (by simp), fun m hm => ?_⟩⟩⟩⟩))))))))))
  have e1 := Ex.new (o := .lst [.str "NotABook", .str d.shown]) hli
  have e2 := Ex.new (o := .lst [.ref li]) hlo
  have e3 := Ex.new (o := .lst [.ref li, .ref li]) hm
  have hl : (upd (upd (upd H1 li (.lst [.str "NotABook", .str d.shown])) lo (.lst [.ref li])) m (.lst [.ref li, .ref li])) li = some (.lst [.str "NotABook", .str d.shown]) := e3 _ _ (e2 _ _ upd_same)
  refine q _ _ ((e1.trans e2).trans e3) (TD.dp ⟨[li, li], upd_same, rfl, fun j l it a b => ?_⟩)
  match j, a, b with
  | 0, a, b =>
    cases a
    cases b
    exact hl
  | 1, a, b =>
    cases a
    cases b
    exact hl
  | j + 2, a, b => cases a
theorem cr_Workshop {P : Params} : ClX.CRead (K0 P) 1440 (.type "type") := ⟨by kernel_rfl, by kernel_rfl⟩
theorem cr_SiteWorkshop {P : Params} : ClX.CRead (K0 P) 1504 (.type "type") := ⟨by kernel_rfl, by kernel_rfl⟩
theorem cv_Workshop {P : Params} : ClX.CVal (K0 P) 1440 (.type "type") "MOST" (.int 100) (.int 100 2018) := ⟨by kernel_rfl, ⟨_, rfl⟩⟩
theorem cv_SiteWorkshop {P : Params} : ClX.CVal (K0 P) 1504 (.type "type") "MOST" (.int 100) (.int 100 2018) := ⟨by kernel_rfl, ⟨_, rfl⟩⟩
theorem ev_cval {mc u : Value} {fn : Str} (h : Ev te σ H (.ref C)) (r : ClX.CRead K C mc) (c : ClX.CVal K C mc fn v u) : Ev (ClX.tCVal K te fn) σ H v := fun H1 e Q q => h H1 e _ fun H2 e2 => ⟨C, mc, v, u, rfl, r, c, q H2 e2⟩
theorem rv_of {r : R2} {x y z : V} (h : ∀ H1, Ex H H1 → ∀ Q : VK, (∀ H2, Ex H1 H2 → Q z H2) → r x y H1 Q) : RV r x y H z := h
theorem ed_rep3 : EvD K (tOp rRep (tLst (tCons (tC (.bl false)) tNil)) (tC (.int 3))) σ H (.list [.bool false, .bool false, .bool false]) := fun H1 e Q q => (el_lst (σ := σ) (H := H) (vs := [.bl false]) (ea_cons ev_c ea_nil) (by simp)) H1 e _ fun l H2 _ e2 h2 => ⟨l, 3, _, rfl, rfl, h2, by decide, by decide, sz_of (by simp), fun p hp => q _ _ (e2.trans (Ex.new hp)) (.lst (sq_of upd_same) (.cons (.bl _) (.cons (.bl _) (.cons (.bl _) .nil))))⟩
theorem q_dec (hx : H x = none) (h : BookAt K H b ks ts) : b ≠ x := fun z => by
  obtain ⟨_, _, _, _, _, _, w, _⟩ := h
  rw [z, hx] at w
  cases w
end
section
variable {w : World} {mg : Str → Option Value} {base : Heap}
/-! ### _law_right -/
theorem sc__law_right : FnScope ["_law_pool_here", "_law_plan", "_law_plain", "_law_start", "_law_shop", "_law_twin", "_law_deed_here", "_law_odd_here", "_law_told"] ["_law_pool_here"] (defScope s__law_right) := ⟨rfl, rfl, rfl, by decide +kernel, rfl, by decide +kernel, by decide +kernel⟩
def spRight (K : PySem.W.Frag) : Sp := fun vs H Q _ => ∃ (p : Addr) (m : Nat), vs = [.ref p] ∧ PoolAt H p m ∧ m ≤ 10000 ∧ Tabs T76 H ∧ ∀ H', Kz [p] H H' → Tabs T76 H' → Q (.bl true) H'
theorem tm3 : ((1591 : Addr), (("_law_right" : Str) ++ ".<locals>.") ++ "<lambda>") ∈ T76 := by decide +kernel
theorem tu3 : ∀ p ∈ T76, p.1 = 1591 → p.2 = (("_law_right" : Str) ++ ".<locals>.") ++ "<lambda>" := by decide +kernel
theorem ok__law_right (W : Wd w.params mg) (TB : ∀ p ∈ cs76, TabB base mg p.1 p.2) : FnRG PR w (Kw w) mg base CX0 18 a__law_right (spRight (Kw w)) := by
  refine (F__law_right w.params).okG sc__law_right (b__law_right _) rfl (fun vs H Q E h => ?_) (fun A outer s H vs Q E hgu hr h => ?_)
  · obtain ⟨p, m, rfl, _⟩ := h
    rfl
  · obtain ⟨p, m, rfl, po, hm, hT, k⟩ := h
    have TB_ : TabB base mg 1595 1591 := TB (1595, 1591) (by simp [cs76])
    have hgu_ : (A.deeper (envOfC "_law_right" (defScope s__law_right) s.heap.objs.size a__law_right (.ref 1595))).guards = some [] := hgu
    have tm_ := tm3
    have tu_ := tu3
    refine ⟨_, (pss_cons (ps_set (i := 1) sc__law_right.nd rfl (Or.inl rfl) (pe_call (ok__law_book W) (hr.mono (by decide)) rfl (g__law_book W) (F__law_book _).kp (b__law_book _) .nil pass0 (pa_cons (pv 0) pa_nil)))
    (pss_cons (ps_set (i := 2) sc__law_right.nd rfl (Or.inl rfl) (pe_cmpR op_eq (pe_call (ok__law_draw W) (hr.mono (by decide)) rfl (g__law_draw W) (F__law_draw _).kp (b__law_draw _) .nil pass0 (pa_cons (pv 0) (pa_cons pe_int pa_nil))) pe_int (nomark _)))
    (pss_cons (ps_set (i := 3) sc__law_right.nd rfl (Or.inl rfl) (pe_make mk_Book (ok_Book___init__ W) (hr.mono (by decide)) rfl (g_Book W) (b_Book___init__ _) .nil pass0 (pa_cons (pe_ix ix_list (pv 1) pe_int (fun _ _ => rfl)) (pa_cons (pe_ix ix_list (pv 1) pe_int (fun _ _ => rfl)) pa_nil))))
    (pss_cons (ps_set (i := 4) sc__law_right.nd rfl (Or.inl rfl) (pe_ifExp (pt_val (pv 2)) (pe_make mk_Workshop (ok_Workshop___init__ W scW) (hr.mono (by decide)) rfl (g_Workshop W) (b_Workshop___init__ _) .nil passF (pa_cons (pv 3) pa_nil)) (pe_make mk_SiteWorkshop (ok_Workshop___init__ W scS) (hr.mono (by decide)) rfl (g_SiteWorkshop W) (b_Workshop___init__ _) .nil passF (pa_cons (pv 3) pa_nil))))
    (pss_or
   (pss_cons (ps_set (i := 5) sc__law_right.nd rfl (Or.inl rfl) (pe_ifExp (pt_val (pv 2)) (pe_make mk_Workshop (ok_Workshop___init__ W scW) (hr.mono (by decide)) rfl (g_Workshop W) (b_Workshop___init__ _) .nil passF (pa_cons (pv 3) pa_nil)) (pe_make mk_SiteWorkshop (ok_Workshop___init__ W scS) (hr.mono (by decide)) rfl (g_SiteWorkshop W) (b_Workshop___init__ _) .nil passF (pa_cons (pv 3) pa_nil))))
    (pss_cons (ps_if (PW.pt (pw_or (pt_cmpR (op_neSelf (hu_of hr)) (pv 4) (pv 4) (nomark _)) (pw_or (pt_cmpR (op_eqApart hr.units0) (pv 4) (pv 5) (nomark _)) (pw_or1 (pt_cmpR (op_neD hr.units) (pe_lst (pa_cons (pe_callTy (call_boolO spc_Workshop___len__ nb_Workshop (ok_Workshop___len__ W) (hr.mono (by decide)) (b_Workshop___len__ _) pass0) rfl (n_bool W) boot_bool (pa_cons (pv 4) pa_nil)) (pa_cons (pe_cmpR (op_eqRefl spc_Book___eq__ (ok_Book___eq__ W) (hr.mono (by decide)) (b_Book___eq__ _) pass0) (pv 4) (pv 3) (nomark _)) (pa_cons (pe_cmpR (op_eqInt hr.units0) (pv 4) pe_int (nomark _)) pa_nil)))) (pe_op op_rep (pe_lst (pa_cons pe_bl pa_nil)) pe_int) (nomark _)))))) (pss_one (ps_ret pe_bl)) pss_nil)
    (pss_cons (ps_set (i := 6) sc__law_right.nd rfl (Or.inl rfl) (pe_tup (pa_cons pe_str (pa_cons (pe_ix ix_tup (pe_ix ix_list (pv 1) pe_int (fun _ _ => rfl)) (pe_call (ok__law_draw W) (hr.mono (by decide)) rfl (g__law_draw W) (F__law_draw _).kp (b__law_draw _) .nil pass0 (pa_cons (pv 0) (pa_cons (pe_callB call_len_seq rfl (n_len W) boot_len (pa_cons (pe_ix ix_list (pv 1) pe_int (fun _ _ => rfl)) pa_nil)) pa_nil))) (fun _ _ => rfl)) pa_nil))))
    (pss_cons (ps_if (pt_not (pt_val (pe_callG (ok__law_odd_right W TB) hgu_ (hr.mono (by decide)) rfl (g__law_odd_right W) (F__law_odd_right _).kp pass0 (pa_cons (pv 0) (pa_cons (pv 4) (pa_cons (pv 2) (pa_cons (pv 6) pa_nil))))))) (pss_one (ps_ret pe_bl)) pss_nil)
    (pss_cons (ps_expr (pe_methR (pv 4) cls_Workshop mt_Workshop_do_all (ok_Workshop_do_all W) (hr.mono (by decide)) passF (pa_cons (pv 6) (pa_cons (pv 6) pa_nil))))
    (pss_cons (ps_if (pt_cmpR op_notBl (pe_callTy (call_boolO spc_Workshop___len__ nb_Workshop (ok_Workshop___len__ W) (hr.mono (by decide)) (b_Workshop___len__ _) pass0) rfl (n_bool W) boot_bool (pa_cons (pv 4) pa_nil)) pe_bl (nomark _)) (pss_one (ps_ret pe_bl)) pss_nil)
    (pss_cons (ps_if (PW.pt (pw_or (pt_not (pt_val (pe_callG (ok__law_odd_right W TB) hgu_ (hr.mono (by decide)) rfl (g__law_odd_right W) (F__law_odd_right _).kp pass0 (pa_cons (pv 0) (pa_cons (pv 4) (pa_cons (pv 2) (pa_cons (pv 6) pa_nil))))))) (pw_or1 (pt_not (pt_val (pe_callG (ok__law_full_right W TB) hgu_ (hr.mono (by decide)) rfl (g__law_full_right W) (F__law_full_right _).kp pass0 (pa_cons (pv 0) (pa_cons (pv 4) (pa_cons (pv 2) (pa_cons (pv 6) pa_nil)))))))))) (pss_one (ps_ret pe_bl)) pss_nil)
    (pss_cons (ps_set (i := 7) sc__law_right.nd rfl (Or.inr rfl) (pe_ix ix_list (pe_lst (pa_cons pe_non (pa_cons pe_bl (pa_cons pe_str (pa_cons (pe_tup pa_nil) (pa_cons (pe_ix ix_list (pv 1) pe_int (fun _ _ => rfl)) (pa_cons pe_int pa_nil))))))) (pe_call (ok__law_draw W) (hr.mono (by decide)) rfl (g__law_draw W) (F__law_draw _).kp (b__law_draw _) .nil pass0 (pa_cons (pv 0) (pa_cons pe_int pa_nil))) (fun _ _ => rfl)))
    (pss_cons (ps_set (i := 8) sc__law_right.nd rfl (Or.inl rfl) (pe_lst (pa_cons (pe_caught (k := 13) (c := 1595) (P := 1591) W rfl rfl rfl rfl hgu_ rfl TB_ rfl tm_ tu_ (hr.mono (by decide)) (lamS_by (by kernel_rfl)) rfl (fun _ _ _ _ _ => rfl) (fun A_ outer_ s_ H_ E_ f_ c_ hrl_ => (pe_make mk_Workshop (ok_Workshop___init__ W scW) (hrl_.mono (by decide)) rfl (g_Workshop W) (b_Workshop___init__ _) .nil (passX (takesN_of (takes_of rfl rfl rfl rfl)) (fun _ _ _ _ h => h)) (pa_cons (pv 7) pa_nil)))) pa_nil)))
    (pss_cons (ps_expr (pe_bm PySem.F.plainAttrs_list PySem.F.slot_list_append PySem.F.type_list_append mt_append (pv 8) (pa_cons (pe_caught (k := 13) (c := 1595) (P := 1591) W rfl rfl rfl rfl hgu_ rfl TB_ rfl tm_ tu_ (hr.mono (by decide)) (lamS_by (by kernel_rfl)) rfl (fun _ _ _ _ _ => rfl) (fun A_ outer_ s_ H_ E_ f_ c_ hrl_ => (pe_make mk_SiteWorkshop (ok_Workshop___init__ W scS) (hrl_.mono (by decide)) rfl (g_SiteWorkshop W) (b_Workshop___init__ _) .nil (passX (takesN_of (takes_of rfl rfl rfl rfl)) (fun _ _ _ _ h => h)) (pa_cons (pv 7) pa_nil)))) pa_nil)))
    (pss_one (ps_ret (pe_and (pe_cmpR (op_eqD hr.units) (pv 8) (pe_op op_rep (pe_lst (pa_cons (pe_lst (pa_cons pe_str (pa_cons (pe_callB (call_reprD hgu_ hr.units70) rfl (n_repr W) boot_repr (pa_cons (pv 7) pa_nil)) pa_nil))) pa_nil)) pe_int) (nomark _)) (pe_one (pe_cmpR (op_eqD hr.units) (pe_lst (pa_cons (ClX.pe_cval (pe_glob (v := .ref 1440) rfl (g_Workshop W) rfl)) (pa_cons (ClX.pe_cval (pe_glob (v := .ref 1504) rfl (g_SiteWorkshop W) rfl)) (pa_cons (pe_con (pv 4) rfl) pa_nil)))) (pe_lst (pa_cons pe_int (pa_cons pe_int (pa_cons pe_int pa_nil)))) (nomark _))))))))))))))))
   (pss_cons (ps_set (i := 5) sc__law_right.nd rfl (Or.inl rfl) (pe_ifExp (pt_val (pv 2)) (pe_make mk_Workshop (ok_Workshop___init__ W scW) (hr.mono (by decide)) rfl (g_Workshop W) (b_Workshop___init__ _) .nil passF (pa_cons (pv 3) pa_nil)) (pe_make mk_SiteWorkshop (ok_Workshop___init__ W scS) (hr.mono (by decide)) rfl (g_SiteWorkshop W) (b_Workshop___init__ _) .nil passF (pa_cons (pv 3) pa_nil))))
    (pss_cons (ps_if (PW.pt (pw_or (pt_cmpR (op_neSelf (hu_of hr)) (pv 4) (pv 4) (nomark _)) (pw_or (pt_cmpR (op_eqApart hr.units0) (pv 4) (pv 5) (nomark _)) (pw_or1 (pt_cmpR (op_neD hr.units) (pe_lst (pa_cons (pe_callTy (call_boolO spc_SiteWorkshop___len__ nb_SiteWorkshop (ok_Workshop___len__ W) (hr.mono (by decide)) (b_Workshop___len__ _) pass0) rfl (n_bool W) boot_bool (pa_cons (pv 4) pa_nil)) (pa_cons (pe_cmpR (op_eqRefl spc_Book___eq__ (ok_Book___eq__ W) (hr.mono (by decide)) (b_Book___eq__ _) pass0) (pv 4) (pv 3) (nomark _)) (pa_cons (pe_cmpR (op_eqInt hr.units0) (pv 4) pe_int (nomark _)) pa_nil)))) (pe_op op_rep (pe_lst (pa_cons pe_bl pa_nil)) pe_int) (nomark _)))))) (pss_one (ps_ret pe_bl)) pss_nil)
    (pss_cons (ps_set (i := 6) sc__law_right.nd rfl (Or.inl rfl) (pe_tup (pa_cons pe_str (pa_cons (pe_ix ix_tup (pe_ix ix_list (pv 1) pe_int (fun _ _ => rfl)) (pe_call (ok__law_draw W) (hr.mono (by decide)) rfl (g__law_draw W) (F__law_draw _).kp (b__law_draw _) .nil pass0 (pa_cons (pv 0) (pa_cons (pe_callB call_len_seq rfl (n_len W) boot_len (pa_cons (pe_ix ix_list (pv 1) pe_int (fun _ _ => rfl)) pa_nil)) pa_nil))) (fun _ _ => rfl)) pa_nil))))
    (pss_cons (ps_if (pt_not (pt_val (pe_callG (ok__law_odd_right W TB) hgu_ (hr.mono (by decide)) rfl (g__law_odd_right W) (F__law_odd_right _).kp pass0 (pa_cons (pv 0) (pa_cons (pv 4) (pa_cons (pv 2) (pa_cons (pv 6) pa_nil))))))) (pss_one (ps_ret pe_bl)) pss_nil)
    (pss_cons (ps_expr (pe_methR (pv 4) cls_SiteWorkshop mt_SiteWorkshop_do_all (ok_SiteWorkshop_do_all W) (hr.mono (by decide)) passF (pa_cons (pv 6) (pa_cons (pv 6) pa_nil))))
    (pss_cons (ps_if (pt_cmpR op_notBl (pe_callTy (call_boolO spc_SiteWorkshop___len__ nb_SiteWorkshop (ok_Workshop___len__ W) (hr.mono (by decide)) (b_Workshop___len__ _) pass0) rfl (n_bool W) boot_bool (pa_cons (pv 4) pa_nil)) pe_bl (nomark _)) (pss_one (ps_ret pe_bl)) pss_nil)
    (pss_cons (ps_if (PW.pt (pw_or (pt_not (pt_val (pe_callG (ok__law_odd_right W TB) hgu_ (hr.mono (by decide)) rfl (g__law_odd_right W) (F__law_odd_right _).kp pass0 (pa_cons (pv 0) (pa_cons (pv 4) (pa_cons (pv 2) (pa_cons (pv 6) pa_nil))))))) (pw_or1 (pt_not (pt_val (pe_callG (ok__law_full_right W TB) hgu_ (hr.mono (by decide)) rfl (g__law_full_right W) (F__law_full_right _).kp pass0 (pa_cons (pv 0) (pa_cons (pv 4) (pa_cons (pv 2) (pa_cons (pv 6) pa_nil)))))))))) (pss_one (ps_ret pe_bl)) pss_nil)
    (pss_cons (ps_set (i := 7) sc__law_right.nd rfl (Or.inr rfl) (pe_ix ix_list (pe_lst (pa_cons pe_non (pa_cons pe_bl (pa_cons pe_str (pa_cons (pe_tup pa_nil) (pa_cons (pe_ix ix_list (pv 1) pe_int (fun _ _ => rfl)) (pa_cons pe_int pa_nil))))))) (pe_call (ok__law_draw W) (hr.mono (by decide)) rfl (g__law_draw W) (F__law_draw _).kp (b__law_draw _) .nil pass0 (pa_cons (pv 0) (pa_cons pe_int pa_nil))) (fun _ _ => rfl)))
    (pss_cons (ps_set (i := 8) sc__law_right.nd rfl (Or.inl rfl) (pe_lst (pa_cons (pe_caught (k := 13) (c := 1595) (P := 1591) W rfl rfl rfl rfl hgu_ rfl TB_ rfl tm_ tu_ (hr.mono (by decide)) (lamS_by (by kernel_rfl)) rfl (fun _ _ _ _ _ => rfl) (fun A_ outer_ s_ H_ E_ f_ c_ hrl_ => (pe_make mk_Workshop (ok_Workshop___init__ W scW) (hrl_.mono (by decide)) rfl (g_Workshop W) (b_Workshop___init__ _) .nil (passX (takesN_of (takes_of rfl rfl rfl rfl)) (fun _ _ _ _ h => h)) (pa_cons (pv 7) pa_nil)))) pa_nil)))
    (pss_cons (ps_expr (pe_bm PySem.F.plainAttrs_list PySem.F.slot_list_append PySem.F.type_list_append mt_append (pv 8) (pa_cons (pe_caught (k := 13) (c := 1595) (P := 1591) W rfl rfl rfl rfl hgu_ rfl TB_ rfl tm_ tu_ (hr.mono (by decide)) (lamS_by (by kernel_rfl)) rfl (fun _ _ _ _ _ => rfl) (fun A_ outer_ s_ H_ E_ f_ c_ hrl_ => (pe_make mk_SiteWorkshop (ok_Workshop___init__ W scS) (hrl_.mono (by decide)) rfl (g_SiteWorkshop W) (b_Workshop___init__ _) .nil (passX (takesN_of (takes_of rfl rfl rfl rfl)) (fun _ _ _ _ h => h)) (pa_cons (pv 7) pa_nil)))) pa_nil)))
    (pss_one (ps_ret (pe_and (pe_cmpR (op_eqD hr.units) (pv 8) (pe_op op_rep (pe_lst (pa_cons (pe_lst (pa_cons pe_str (pa_cons (pe_callB (call_reprD hgu_ hr.units70) rfl (n_repr W) boot_repr (pa_cons (pv 7) pa_nil)) pa_nil))) pa_nil)) pe_int) (nomark _)) (pe_one (pe_cmpR (op_eqD hr.units) (pe_lst (pa_cons (ClX.pe_cval (pe_glob (v := .ref 1440) rfl (g_Workshop W) rfl)) (pa_cons (ClX.pe_cval (pe_glob (v := .ref 1504) rfl (g_SiteWorkshop W) rfl)) (pa_cons (pe_con (pv 4) rfl) pa_nil)))) (pe_lst (pa_cons pe_int (pa_cons pe_int (pa_cons pe_int pa_nil)))) (nomark _))))))))))))))))))))), ?_⟩
    refine q_asgW (callW (consW (varW rfl (nilW ⟨p, m, rfl, po, by omega, fun l kt rt wl ks ts H1 k1 po1 hlp hl h1 dk dt ok hno => ?_⟩))))
    refine q_asgW (opW (draw_at (m := 2) (ev_var rfl) ev_c po1 (by omega) (by decide) (by decide) fun r H2 hr2 k2 po2 => cW ⟨rfl, ?_⟩))
    obtain ⟨pl, hpl⟩ : ∃ pl : Bool, pl = decide (V.int (r : Int) = V.int 0) := ⟨_, rfl⟩
    rw [← hpl]
    clear hpl hr2
    have h2 := k2.at_ h1 hlp
    have kd2 := Kd.pool k2 po1 po2
    have dk2 := dk.tx (imm_ksD ks) k2.tx
    have dt2 := dt.tx (imm_tsD ts) k2.tx
    refine q_asgW (make_bookV (u := kt) (v := rt) (ea_cons (ev_ixLn (n := 0) (ev_var rfl) ev_c (sq_of h2) rfl) (ea_cons (ev_ixLn (n := 1) (ev_var rfl) ev_c (sq_of h2) rfl) ea_nil)) dk2 dt2 ok fun b H3 e3 hb hbk => ?_)
    have kz3 : Kz [p] H H3 := (Kz.pool (k1.trans k2) po po2 (by simp)).trans (.of e3)
    have T3 : Tabs T76 H3 := by
      obtain ⟨_, hpx⟩ := po.lst
      exact (Tabs.kl hT hpx (k1.trans k2)).ext e3
    have po3 := po2.ex e3
    have h3 := e3 _ _ h2
    obtain ⟨rtA, xs, rfl, hsT, hdx⟩ := dp_tup (dt2.ex e3)
    clear kd2 dk2 dt2 h2 k1 k2 po1 po2 dk dt h1
    cases pl with
    | true =>
      have hC : ShopC 1440 "Workshop" fW := .w
      have sc : Sc (Kw w) 1440 := hC.sc
      refine q_asgW (etW (b := true) (et_test (ev_var rfl)) fun H4 e4 => ?_)
      rw [if_pos rfl]
      refine make_shop (ea_cons (ev_var rfl) ea_nil) (hbk.ex e4) fun x H5 e5 hx hS5 => ?_
      refine Or.inl ?_
      refine q_asgW (etW (b := true) (et_test (ev_var rfl)) fun H6 e6 => ?_)
      rw [if_pos rfl]
      refine make_shop (ea_cons (ev_var rfl) ea_nil) (((hbk.ex e4).ex e5).ex e6) fun y H7 e7 hy hY7 => ?_
      have e57 := e6.trans e7
      have e37 := (e4.trans e5).trans e57
      have hS7 : ∀ d, immD d = true → ShopAt (Kw w) 1440 H7 x ks ts d false 0 := fun d hd => (hS5 d).ex hd e57
      obtain ⟨dx, bb, lx, hh, pp, sx, hx7, _⟩ := hS7 .none rfl
      obtain ⟨dy, by', ly, hhy, ppy, sy, hy7, _⟩ := hY7 .none
      obtain ⟨dxb, ub, vb, rb, nb, tb, hb7, _⟩ := hbk.ex e37
      have hxy : x ≠ y := fun z => by
        obtain ⟨_, _, q⟩ := (hS5 .none).ins
        rw [z] at q
        rw [e6 _ _ q] at hy
        cases hy
      have hxb : x ≠ b := fun z => by
        rw [z, hb7] at hx7
        cases hx7
      refine q_when (b := false) (et_is (et_or (et_test (ev_op (ev_var rfl) (ev_var rfl) (rv_of (z := .bl false) fun H1 e Q q => ⟨x, 1440, dx, _, rfl, rfl, e _ _ hx7, deq_Workshop, q H1 (Ex.refl _)⟩))) fun _ =>
        et_or (et_test (ev_op (ev_var rfl) (ev_var rfl) (rv_of (z := .bl false) fun H1 e Q q => ⟨x, y, 1440, 1440, dx, dy, _, _, rfl, rfl, hxy, e _ _ hx7, e _ _ hy7, deq_Workshop, deq_Workshop, nf_Workshop, q H1 (Ex.refl _)⟩))) fun _ =>
        et_test (ev_neD (K := Kw w) (d1 := .list [.bool false, .bool false, .bool false]) (d2 := .list [.bool false, .bool false, .bool false]) (ed_lstV (ea_consD (ed_ev (ev_is (ev_bool0 rfl sc (hS7 .none rfl) rfl (by decide)) rfl) (.bl false)) (ea_consD (ed_ev (ev_op (ev_var rfl) (ev_var rfl) (rv_of (z := .bl false) fun H1 e Q q => ⟨x, b, 1440, dx, dxb, _, _, rfl, rfl, hxb, e _ _ hx7, e _ _ hb7, deq_Workshop, nf_Workshop_Book, b, .ref x, .ref 1440, rfl, ty_Workshop (e _ _ hx7), kit_Workshop_Book, fun H' e' => ⟨false, rfl, q H' e'⟩⟩)) (.bl false)) (ea_consD (ed_ev (ev_op (ev_var rfl) ev_c (rv_of (z := .bl false) fun H1 e Q q => ⟨x, 5, 1440, dx, _, rfl, rfl, e _ _ hx7, deq_Workshop, nf_Workshop_int, q H1 (Ex.refl _)⟩)) (.bl false)) ea_nilD))) (by decide)) ed_rep3 (by decide) (by decide))) (by simp [PyData.eqv, PyData.eqvAll])) (fun z => by cases z) fun _ H8 e8 => ?_
      have e38 := e37.trans e8
      have h8 := e38 _ _ h3
      have po8 := po3.ex e38
      have hlen : (ts.map tD).length ≤ 8 := by rw [List.length_map]; exact ok.t.hi
      have hlo : 1 ≤ (ts.map tD).length := by rw [List.length_map]; exact ok.t.lo
      have hxp : x ≠ p := fun z => by
        obtain ⟨_, q⟩ := (po3.ex e4).lst
        rw [← z, hx] at q
        cases q
      refine q_asgW (tupW (consW (cW (consW (opW (evW (ev_ixLn (n := 1) (ev_var rfl) ev_c (sq_of h8) rfl) fun H9 e9 => draw_at (m := ((ts.map tD).length : Int)) (ev_var rfl) (ev_lenTD (K := Kw w) (ed_ev (ev_ixLn (n := 1) (ev_var rfl) ev_c (sq_of (e9 _ _ h8)) rfl) (.tup (ex_t (e38.trans e9) hsT) (hdx.ex (e38.trans e9))))) (po8.ex e9) (by omega) (by omega) (by omega) fun r H10 hr10 k10 po10 => ?_))))))
      have kz10 : Kz [p] H3 H10 := (Kz.of (e38.trans e9)).trans (.pool k10 (po8.ex e9) po10 (by simp))
      have hdx10 := hdx.tx (immAll_map imm_tD ts) kz10.kd.tx
      obtain ⟨ve, dd, hve, hdd, hvd⟩ := dpAll_at (i := r) hdx10 (by omega)
      obtain ⟨t, htr, rfl⟩ : ∃ t, ts[r]? = some t ∧ tD t = dd := by
        rw [List.getElem?_map, Option.map_eq_some_iff] at hdd
        exact hdd
      have ht : t ∈ ts := List.mem_of_getElem? htr
      have hd := imm_putD t
      refine rv_ixT (tx_t kz10.kd.tx hsT) (atI_nat hve) H10 (Ex.refl _) _ fun H11 e11 => nilW ⟨sz_of (show (2 : Nat) ≤ 100000 by decide), fun q hq => ?_⟩
      have e12 := e11.trans (Ex.new (o := .tup [.str "put", ve]) hq)
      have dq : Dp (Kw w) (upd H11 q (.tup [.str "put", ve])) (.ref q) (putD t) := .tup (st_of upd_same) (.cons (.str _) (.cons (hvd.ex e12) .nil))
      obtain ⟨_, hpx8⟩ := po8.lst
      have S12 : ShopAt (Kw w) 1440 (upd H11 q (.tup [.str "put", ve])) x ks ts (putD t) false 0 := ((((hS7 _ hd).ex hd (e8.trans e9)).kz hd (Kz.pool (L := [p]) k10 (po8.ex e9) po10 (by simp)) (noIns_lst (e9 _ _ hpx8) noIns_nil))).ex hd e12
      have kz12 : Kz [p] H3 (upd H11 q (.tup [.str "put", ve])) := kz10.trans (.of e12)
      have T12 : Tabs T76 (upd H11 q (.tup [.str "put", ve])) := (Tabs.kl (T3.ext (e38.trans e9)) (e9 _ _ hpx8) k10).ext e12
      have po12 := po10.ex e12
      generalize (upd H11 q (.tup [.str "put", ve])) = H12 at dq S12 kz12 T12 po12
      clear e12 hq e11 hvd hve hdx10 kz10 k10 po10 hpx8 h8 po8 e8 hS7 hS5 hY7 hx7 hy7 hb7 hy e57 e6 e7
      refine q_ifW (notW (tbW (consW (varW rfl (consW (varW rfl (consW (varW rfl (consW (varW rfl (nilW ⟨p, x, 1440, _, _, _, ks, ts, t, 0, .ref q, rfl, hC, po12, by omega, T12, hxp, S12, ok, hno, by decide, ht, dq, fun H13 kz13 T13 po13 => ⟨true, rfl, ?_⟩⟩)))))))))))
      rw [if_neg (by decide)]
      obtain ⟨_, hpx12⟩ := po12.lst
      have S13 := S12.kz hd kz13 (noIns_lst hpx12 noIns_nil)
      have dq13 := dq.tx hd kz13.kd.tx
      refine q_dropW (lam_allD rfl hC S13 ok hno ht (ea_cons (ev_var rfl) (ea_cons (ev_var rfl) ea_nil)) (fun y hy => by
        simp only [List.mem_cons, List.not_mem_nil, or_false, or_self] at hy
        rw [hy]
        exact dq13) (by simp) (by decide) (.inl ⟨by simp, fun H14 kp S14 => ?_⟩))
      have S14 : ShopAt (Kw w) 1440 H14 x ks ts (putD t) false 2 := S14
      obtain ⟨dxx, fxx, hx13⟩ := S13.ins
      have kz14 : Kz [p, x] H3 H14 := ((kz12.mono (by simp)).trans (kz13.mono (by simp))).trans (.kp kp hx13 (by simp))
      have T14 := Tabs.kp T13 hx13 kp
      have dq14 := dq13.tx hd (Kz.kp (L := [x]) kp hx13 (by simp)).kd.tx
      have po14 : PoolAt H14 p (m + 1000 + 1 + 1 + 2) := by
        obtain ⟨a, b, c, hp, q⟩ := po13
        exact ⟨a, b, c, kp.at_ hp (Ne.symm hxp), q⟩
      refine q_when (b := false) (et_is (et_test (ev_op (ev_bool0 rfl sc S14 hd (by decide)) ev_c (rv_of (z := .bl false) fun H1 e Q q => ⟨true, true, rfl, rfl, q H1 (Ex.refl _)⟩))) rfl) (fun z => by cases z) fun _ H15 e15 => ?_
      have S15 := S14.ex hd e15
      refine q_ifW (orW (notW (tbW (consW (varW rfl (consW (varW rfl (consW (varW rfl (consW (varW rfl (nilW ⟨p, x, 1440, _, _, _, ks, ts, t, 2, .ref q, rfl, hC, po14.ex e15, by omega, T14.ext e15, hxp, S15, ok, hno, by decide, ht, dq14.ex e15, fun H16 kz16 T16 po16 => ⟨true, rfl, ?_⟩⟩))))))))))))
      rw [if_neg (by decide)]
      obtain ⟨_, hpx15⟩ := (po14.ex e15).lst
      have S16 := S15.kz hd kz16 (noIns_lst hpx15 noIns_nil)
      have dq16 := (dq14.ex e15).tx hd kz16.kd.tx
      refine notW (tbW (consW (varW rfl (consW (varW rfl (consW (varW rfl (consW (varW rfl (nilW ⟨p, x, 1440, _, _, _, ks, ts, t, 2, .ref q, rfl, hC, po16, by omega, T16, hxp, S16, ok, hno, by decide, ht, dq16, fun H17 kz17 T17 po17 S17 => ⟨true, rfl, ?_⟩⟩))))))))))
      rw [if_neg (by decide)]
      have kz17 : Kz [p, x] H3 H17 := ((kz14.trans (.of e15)).trans (kz16.mono (by simp))).trans kz17
      clear kz14 kz16 S16 dq16 T16 S15 e15 T14 dq14 po14 S14 kz13 T13 po13 S13 dq13 kz12 T12 po12 S12 dq
      have hlx : l ≠ x := fun z => by
        rw [z] at h3
        rw [e4 _ _ h3] at hx
        cases hx
      have h17 := kz17.off l _ h3 (by simp only [List.mem_cons, List.not_mem_nil, or_false, not_or]; exact ⟨hlp, hlx⟩) (fun ps z => by cases z)
      have hsT17 := tx_t kz17.kd.tx hsT
      have hdx17 := hdx.tx (immAll_map imm_tD ts) kz17.kd.tx
      obtain ⟨_, hpx17⟩ := po17.lst
      refine q_asgW (opW (lstW (consW (cW (consW (cW (consW (cW (consW (tupW (nilW ⟨sz_of (by simp), fun e0 he0 => consW (evW (ev_ixLn (n := 1) (ev_var rfl) ev_c (sq_of (Ex.new he0 _ _ h17)) rfl) fun H19 e19 => consW (cW (nilW ⟨sz_of (by simp), fun lo hlo => ?_⟩)))⟩)))))))))))
      have e18 := Ex.new (o := .tup []) he0
      have e20 := Ex.new (o := .lst [.non, .bl true, .str "x", .ref e0, .ref rtA, .int 5]) hlo
      have e1720 := (e18.trans e19).trans e20
      have hlop : lo ≠ p := fun z => by
        rw [z, (e18.trans e19) _ _ hpx17] at hlo
        cases hlo
      refine draw_at (m := 6) (ev_var rfl) ev_c (po17.ex e1720) (by omega) (by decide) (by decide) fun r' H21 hr21 k21 po21 => ?_
      have kz21 : Kz [p] H17 H21 := (Kz.of e1720).trans (.pool k21 (po17.ex e1720) po21 (by simp))
      obtain ⟨vo, rr, hvo, nb⟩ := odd6 (P := w.params) (H := H21) ok (by
        have hep : e0 ≠ p := fun z => by
          rw [z, hpx17] at he0
          cases he0
        exact k21.at_ ((e19.trans e20) _ _ upd_same) hep) (tx_t kz21.kd.tx hsT17) (hdx17.tx (immAll_map imm_tD ts) kz21.kd.tx) r' (by omega)
      refine rv_ixL (sq_of (k21.at_ upd_same hlop)) (atI_nat hvo) H21 (Ex.refl _) _ fun H22 e22 => ?_
      have nb22 := nb.kd (Kd.of e22)
      have T22 : Tabs T76 H22 := (Tabs.kl (T17.ext e1720) (e1720 _ _ hpx17) k21).ext e22
      have S22 := (S17.kz hd kz21 (noIns_lst hpx17 noIns_nil)).ex hd e22
      have kz22 : Kz [x, p] H3 H22 := ((kz17.mono (by simp)).trans (kz21.mono (by simp))).trans (.of e22)
      refine q_told (ec_callK T22 .book (fun H' kz => (nb22.kd kz.kd).1.rp) fun H1 E Q kk T1 xc => ?_) fun l0 H23 k23 T23 td23 hl0 => ?_
      · obtain ⟨_, _, tt, g1, g2⟩ := nb22.kd kk.kd
        exact make_bad (ea_cons (ev_var rfl) ea_nil) g1 g2 xc
      have nb23 := nb22.kd k23.kd
      refine q_toldA rfl td23 (by simp) (by simp) (ec_callK T23 .book (fun H' kz => (nb23.kd kz.kd).1.rp) fun H1 E Q kk T1 xc => ?_) fun H24 k24 T24 td24 => ?_
      · obtain ⟨_, _, tt, g1, g2⟩ := nb23.kd kk.kd
        exact make_bad (ea_cons (ev_var rfl) ea_nil) g1 g2 xc
      have nb24 := nb23.kd k24.kd
      have S24 := (S22.kz hd k23 noIns_nil).kz hd k24 (by
        obtain ⟨_, q, _⟩ := td23
        exact noIns_lst q noIns_nil)
      obtain ⟨dx2, b2, l2, hh2, pp2, sx2, hx24, _⟩ := id S24
      have kz24 : Kz [l0, x, p] H3 H24 := ((kz22.mono (by simp)).trans (k23.mono (by simp))).trans (k24.mono (by simp))
      have fin : ∀ v H', (v = .bl true ∧ Ex H24 H') → Q v H' := by
        rintro v H' ⟨rfl, e⟩
        have kx := ((kz24.trans (.of e)).dropT fun o ho => ?_).drop (fresh_back e4 hx)
        · exact k H' (kz3.trans kx) (T24.ext e)
        · by_cases htb : ∃ ps, o = .tbl ps
          · exact htb
          · refine hl0 o (kz22.off l0 o ho ?_ fun ps z => htb ⟨ps, z⟩)
            simp only [List.mem_cons, List.not_mem_nil, or_false, not_or]
            refine ⟨fun z => ?_, fun z => ?_⟩
            · rw [z, fresh_back e4 hx] at ho
              cases ho
            · obtain ⟨_, q⟩ := (po21.ex e22).lst
              obtain ⟨ps, e⟩ := hl0 _ (by rw [z]; exact q)
              cases e
      have sh1 : Sh 2 (tdD [("NotABook", rr), ("NotABook", rr)]) := sh_tdD (fun it hi => by
        simp only [List.mem_cons, List.not_mem_nil, or_false, or_self] at hi
        rw [hi]
        exact ⟨show PyData.strOk "NotABook" = true by decide +kernel, nb24.2.1⟩)
      have q1 := ev_eqD (K := Kw w) (σ := [some (.ref p), some (.ref l), some (.bl true), some (.ref b), some (.ref x), some (.ref y), some (.ref q), some vo, some (.ref l0)]) (H := H24) (ta := tVar 8) (ed_var rfl td24.dp) (ed_two (i := 7) rfl nb24) (sh1.shaped (by decide)) (sh1.shaped (by decide))
      have q1' := ev_is q1 (congrArg V.bl sh1.refl)
      refine s_retW (ev_andV (a := true) (b := true) q1' (fun _ => ev_is (ev_eqD (d1 := .list [.int 100, .int 100, .int 100]) (d2 := .list [.int 100, .int 100, .int 100]) (ed_lstV (ea_consD (ed_ev (ev_cval ev_c cr_Workshop cv_Workshop) (.int 100)) (ea_consD (ed_ev (ev_cval ev_c cr_SiteWorkshop cv_SiteWorkshop) (.int 100)) (ea_consD (ed_ev (ev_con (ev_var rfl) hx24 sc.cls con_Workshop_MOST rfl) (.int 100)) ea_nilD))) (by decide)) (ed_lstV (ea_consD (ed_ev ev_c (.int 100)) (ea_consD (ed_ev ev_c (.int 100)) (ea_consD (ed_ev ev_c (.int 100)) ea_nilD))) (by decide)) (by decide) (by decide)) (by simp [PyData.eqv, PyData.eqvAll])) H24 (Ex.refl _) Q fun H25 e25 => fin _ H25 ⟨rfl, e25⟩)
    | false =>
      have hC : ShopC 1504 "SiteWorkshop" fWS := .s
      have sc : Sc (Kw w) 1504 := hC.sc
      refine q_asgW (etW (b := false) (et_test (ev_var rfl)) fun H4 e4 => ?_)
      rw [if_neg Bool.false_ne_true]
      refine make_shop (ea_cons (ev_var rfl) ea_nil) (hbk.ex e4) fun x H5 e5 hx hS5 => ?_
      refine Or.inr ?_
      refine q_asgW (etW (b := false) (et_test (ev_var rfl)) fun H6 e6 => ?_)
      rw [if_neg Bool.false_ne_true]
      refine make_shop (ea_cons (ev_var rfl) ea_nil) (((hbk.ex e4).ex e5).ex e6) fun y H7 e7 hy hY7 => ?_
      have e57 := e6.trans e7
      have e37 := (e4.trans e5).trans e57
      have hS7 : ∀ d, immD d = true → ShopAt (Kw w) 1504 H7 x ks ts d false 0 := fun d hd => (hS5 d).ex hd e57
      obtain ⟨dx, bb, lx, hh, pp, sx, hx7, _⟩ := hS7 .none rfl
      obtain ⟨dy, by', ly, hhy, ppy, sy, hy7, _⟩ := hY7 .none
      obtain ⟨dxb, ub, vb, rb, nb, tb, hb7, _⟩ := hbk.ex e37
      have hxy : x ≠ y := fun z => by
        obtain ⟨_, _, q⟩ := (hS5 .none).ins
        rw [z] at q
        rw [e6 _ _ q] at hy
        cases hy
      have hxb : x ≠ b := fun z => by
        rw [z, hb7] at hx7
        cases hx7
      refine q_when (b := false) (et_is (et_or (et_test (ev_op (ev_var rfl) (ev_var rfl) (rv_of (z := .bl false) fun H1 e Q q => ⟨x, 1504, dx, _, rfl, rfl, e _ _ hx7, deq_SiteWorkshop, q H1 (Ex.refl _)⟩))) fun _ =>
        et_or (et_test (ev_op (ev_var rfl) (ev_var rfl) (rv_of (z := .bl false) fun H1 e Q q => ⟨x, y, 1504, 1504, dx, dy, _, _, rfl, rfl, hxy, e _ _ hx7, e _ _ hy7, deq_SiteWorkshop, deq_SiteWorkshop, nf_SiteWorkshop, q H1 (Ex.refl _)⟩))) fun _ =>
        et_test (ev_neD (K := Kw w) (d1 := .list [.bool false, .bool false, .bool false]) (d2 := .list [.bool false, .bool false, .bool false]) (ed_lstV (ea_consD (ed_ev (ev_is (ev_bool0 rfl sc (hS7 .none rfl) rfl (by decide)) rfl) (.bl false)) (ea_consD (ed_ev (ev_op (ev_var rfl) (ev_var rfl) (rv_of (z := .bl false) fun H1 e Q q => ⟨x, b, 1504, dx, dxb, _, _, rfl, rfl, hxb, e _ _ hx7, e _ _ hb7, deq_SiteWorkshop, nf_SiteWorkshop_Book, b, .ref x, .ref 1504, rfl, ty_SiteWorkshop (e _ _ hx7), kit_SiteWorkshop_Book, fun H' e' => ⟨false, rfl, q H' e'⟩⟩)) (.bl false)) (ea_consD (ed_ev (ev_op (ev_var rfl) ev_c (rv_of (z := .bl false) fun H1 e Q q => ⟨x, 5, 1504, dx, _, rfl, rfl, e _ _ hx7, deq_SiteWorkshop, nf_SiteWorkshop_int, q H1 (Ex.refl _)⟩)) (.bl false)) ea_nilD))) (by decide)) ed_rep3 (by decide) (by decide))) (by simp [PyData.eqv, PyData.eqvAll])) (fun z => by cases z) fun _ H8 e8 => ?_
      have e38 := e37.trans e8
      have h8 := e38 _ _ h3
      have po8 := po3.ex e38
      have hlen : (ts.map tD).length ≤ 8 := by rw [List.length_map]; exact ok.t.hi
      have hlo : 1 ≤ (ts.map tD).length := by rw [List.length_map]; exact ok.t.lo
      have hxp : x ≠ p := fun z => by
        obtain ⟨_, q⟩ := (po3.ex e4).lst
        rw [← z, hx] at q
        cases q
      refine q_asgW (tupW (consW (cW (consW (opW (evW (ev_ixLn (n := 1) (ev_var rfl) ev_c (sq_of h8) rfl) fun H9 e9 => draw_at (m := ((ts.map tD).length : Int)) (ev_var rfl) (ev_lenTD (K := Kw w) (ed_ev (ev_ixLn (n := 1) (ev_var rfl) ev_c (sq_of (e9 _ _ h8)) rfl) (.tup (ex_t (e38.trans e9) hsT) (hdx.ex (e38.trans e9))))) (po8.ex e9) (by omega) (by omega) (by omega) fun r H10 hr10 k10 po10 => ?_))))))
      have kz10 : Kz [p] H3 H10 := (Kz.of (e38.trans e9)).trans (.pool k10 (po8.ex e9) po10 (by simp))
      have hdx10 := hdx.tx (immAll_map imm_tD ts) kz10.kd.tx
      obtain ⟨ve, dd, hve, hdd, hvd⟩ := dpAll_at (i := r) hdx10 (by omega)
      obtain ⟨t, htr, rfl⟩ : ∃ t, ts[r]? = some t ∧ tD t = dd := by
        rw [List.getElem?_map, Option.map_eq_some_iff] at hdd
        exact hdd
      have ht : t ∈ ts := List.mem_of_getElem? htr
      have hd := imm_putD t
      refine rv_ixT (tx_t kz10.kd.tx hsT) (atI_nat hve) H10 (Ex.refl _) _ fun H11 e11 => nilW ⟨sz_of (show (2 : Nat) ≤ 100000 by decide), fun q hq => ?_⟩
      have e12 := e11.trans (Ex.new (o := .tup [.str "put", ve]) hq)
      have dq : Dp (Kw w) (upd H11 q (.tup [.str "put", ve])) (.ref q) (putD t) := .tup (st_of upd_same) (.cons (.str _) (.cons (hvd.ex e12) .nil))
      obtain ⟨_, hpx8⟩ := po8.lst
      have S12 : ShopAt (Kw w) 1504 (upd H11 q (.tup [.str "put", ve])) x ks ts (putD t) false 0 := ((((hS7 _ hd).ex hd (e8.trans e9)).kz hd (Kz.pool (L := [p]) k10 (po8.ex e9) po10 (by simp)) (noIns_lst (e9 _ _ hpx8) noIns_nil))).ex hd e12
      have kz12 : Kz [p] H3 (upd H11 q (.tup [.str "put", ve])) := kz10.trans (.of e12)
      have T12 : Tabs T76 (upd H11 q (.tup [.str "put", ve])) := (Tabs.kl (T3.ext (e38.trans e9)) (e9 _ _ hpx8) k10).ext e12
      have po12 := po10.ex e12
      generalize (upd H11 q (.tup [.str "put", ve])) = H12 at dq S12 kz12 T12 po12
      clear e12 hq e11 hvd hve hdx10 kz10 k10 po10 hpx8 h8 po8 e8 hS7 hS5 hY7 hx7 hy7 hb7 hy e57 e6 e7
      refine q_ifW (notW (tbW (consW (varW rfl (consW (varW rfl (consW (varW rfl (consW (varW rfl (nilW ⟨p, x, 1504, _, _, _, ks, ts, t, 0, .ref q, rfl, hC, po12, by omega, T12, hxp, S12, ok, hno, by decide, ht, dq, fun H13 kz13 T13 po13 => ⟨true, rfl, ?_⟩⟩)))))))))))
      rw [if_neg (by decide)]
      obtain ⟨_, hpx12⟩ := po12.lst
      have S13 := S12.kz hd kz13 (noIns_lst hpx12 noIns_nil)
      have dq13 := dq.tx hd kz13.kd.tx
      refine q_dropW (lam_allD rfl hC S13 ok hno ht (ea_cons (ev_var rfl) (ea_cons (ev_var rfl) ea_nil)) (fun y hy => by
        simp only [List.mem_cons, List.not_mem_nil, or_false, or_self] at hy
        rw [hy]
        exact dq13) (by simp) (by decide) (.inl ⟨by simp, fun H14 kp S14 => ?_⟩))
      have S14 : ShopAt (Kw w) 1504 H14 x ks ts (putD t) false 2 := S14
      obtain ⟨dxx, fxx, hx13⟩ := S13.ins
      have kz14 : Kz [p, x] H3 H14 := ((kz12.mono (by simp)).trans (kz13.mono (by simp))).trans (.kp kp hx13 (by simp))
      have T14 := Tabs.kp T13 hx13 kp
      have dq14 := dq13.tx hd (Kz.kp (L := [x]) kp hx13 (by simp)).kd.tx
      have po14 : PoolAt H14 p (m + 1000 + 1 + 1 + 2) := by
        obtain ⟨a, b, c, hp, q⟩ := po13
        exact ⟨a, b, c, kp.at_ hp (Ne.symm hxp), q⟩
      refine q_when (b := false) (et_is (et_test (ev_op (ev_bool0 rfl sc S14 hd (by decide)) ev_c (rv_of (z := .bl false) fun H1 e Q q => ⟨true, true, rfl, rfl, q H1 (Ex.refl _)⟩))) rfl) (fun z => by cases z) fun _ H15 e15 => ?_
      have S15 := S14.ex hd e15
      refine q_ifW (orW (notW (tbW (consW (varW rfl (consW (varW rfl (consW (varW rfl (consW (varW rfl (nilW ⟨p, x, 1504, _, _, _, ks, ts, t, 2, .ref q, rfl, hC, po14.ex e15, by omega, T14.ext e15, hxp, S15, ok, hno, by decide, ht, dq14.ex e15, fun H16 kz16 T16 po16 => ⟨true, rfl, ?_⟩⟩))))))))))))
      rw [if_neg (by decide)]
      obtain ⟨_, hpx15⟩ := (po14.ex e15).lst
      have S16 := S15.kz hd kz16 (noIns_lst hpx15 noIns_nil)
      have dq16 := (dq14.ex e15).tx hd kz16.kd.tx
      refine notW (tbW (consW (varW rfl (consW (varW rfl (consW (varW rfl (consW (varW rfl (nilW ⟨p, x, 1504, _, _, _, ks, ts, t, 2, .ref q, rfl, hC, po16, by omega, T16, hxp, S16, ok, hno, by decide, ht, dq16, fun H17 kz17 T17 po17 S17 => ⟨true, rfl, ?_⟩⟩))))))))))
      rw [if_neg (by decide)]
      have kz17 : Kz [p, x] H3 H17 := ((kz14.trans (.of e15)).trans (kz16.mono (by simp))).trans kz17
      clear kz14 kz16 S16 dq16 T16 S15 e15 T14 dq14 po14 S14 kz13 T13 po13 S13 dq13 kz12 T12 po12 S12 dq
      have hlx : l ≠ x := fun z => by
        rw [z] at h3
        rw [e4 _ _ h3] at hx
        cases hx
      have h17 := kz17.off l _ h3 (by simp only [List.mem_cons, List.not_mem_nil, or_false, not_or]; exact ⟨hlp, hlx⟩) (fun ps z => by cases z)
      have hsT17 := tx_t kz17.kd.tx hsT
      have hdx17 := hdx.tx (immAll_map imm_tD ts) kz17.kd.tx
      obtain ⟨_, hpx17⟩ := po17.lst
      refine q_asgW (opW (lstW (consW (cW (consW (cW (consW (cW (consW (tupW (nilW ⟨sz_of (by simp), fun e0 he0 => consW (evW (ev_ixLn (n := 1) (ev_var rfl) ev_c (sq_of (Ex.new he0 _ _ h17)) rfl) fun H19 e19 => consW (cW (nilW ⟨sz_of (by simp), fun lo hlo => ?_⟩)))⟩)))))))))))
      have e18 := Ex.new (o := .tup []) he0
      have e20 := Ex.new (o := .lst [.non, .bl true, .str "x", .ref e0, .ref rtA, .int 5]) hlo
      have e1720 := (e18.trans e19).trans e20
      have hlop : lo ≠ p := fun z => by
        rw [z, (e18.trans e19) _ _ hpx17] at hlo
        cases hlo
      refine draw_at (m := 6) (ev_var rfl) ev_c (po17.ex e1720) (by omega) (by decide) (by decide) fun r' H21 hr21 k21 po21 => ?_
      have kz21 : Kz [p] H17 H21 := (Kz.of e1720).trans (.pool k21 (po17.ex e1720) po21 (by simp))
      obtain ⟨vo, rr, hvo, nb⟩ := odd6 (P := w.params) (H := H21) ok (by
        have hep : e0 ≠ p := fun z => by
          rw [z, hpx17] at he0
          cases he0
        exact k21.at_ ((e19.trans e20) _ _ upd_same) hep) (tx_t kz21.kd.tx hsT17) (hdx17.tx (immAll_map imm_tD ts) kz21.kd.tx) r' (by omega)
      refine rv_ixL (sq_of (k21.at_ upd_same hlop)) (atI_nat hvo) H21 (Ex.refl _) _ fun H22 e22 => ?_
      have nb22 := nb.kd (Kd.of e22)
      have T22 : Tabs T76 H22 := (Tabs.kl (T17.ext e1720) (e1720 _ _ hpx17) k21).ext e22
      have S22 := (S17.kz hd kz21 (noIns_lst hpx17 noIns_nil)).ex hd e22
      have kz22 : Kz [x, p] H3 H22 := ((kz17.mono (by simp)).trans (kz21.mono (by simp))).trans (.of e22)
      refine q_told (ec_callK T22 .book (fun H' kz => (nb22.kd kz.kd).1.rp) fun H1 E Q kk T1 xc => ?_) fun l0 H23 k23 T23 td23 hl0 => ?_
      · obtain ⟨_, _, tt, g1, g2⟩ := nb22.kd kk.kd
        exact make_bad (ea_cons (ev_var rfl) ea_nil) g1 g2 xc
      have nb23 := nb22.kd k23.kd
      refine q_toldA rfl td23 (by simp) (by simp) (ec_callK T23 .book (fun H' kz => (nb23.kd kz.kd).1.rp) fun H1 E Q kk T1 xc => ?_) fun H24 k24 T24 td24 => ?_
      · obtain ⟨_, _, tt, g1, g2⟩ := nb23.kd kk.kd
        exact make_bad (ea_cons (ev_var rfl) ea_nil) g1 g2 xc
      have nb24 := nb23.kd k24.kd
      have S24 := (S22.kz hd k23 noIns_nil).kz hd k24 (by
        obtain ⟨_, q, _⟩ := td23
        exact noIns_lst q noIns_nil)
      obtain ⟨dx2, b2, l2, hh2, pp2, sx2, hx24, _⟩ := id S24
      have kz24 : Kz [l0, x, p] H3 H24 := ((kz22.mono (by simp)).trans (k23.mono (by simp))).trans (k24.mono (by simp))
      have fin : ∀ v H', (v = .bl true ∧ Ex H24 H') → Q v H' := by
        rintro v H' ⟨rfl, e⟩
        have kx := ((kz24.trans (.of e)).dropT fun o ho => ?_).drop (fresh_back e4 hx)
        · exact k H' (kz3.trans kx) (T24.ext e)
        · by_cases htb : ∃ ps, o = .tbl ps
          · exact htb
          · refine hl0 o (kz22.off l0 o ho ?_ fun ps z => htb ⟨ps, z⟩)
            simp only [List.mem_cons, List.not_mem_nil, or_false, not_or]
            refine ⟨fun z => ?_, fun z => ?_⟩
            · rw [z, fresh_back e4 hx] at ho
              cases ho
            · obtain ⟨_, q⟩ := (po21.ex e22).lst
              obtain ⟨ps, e⟩ := hl0 _ (by rw [z]; exact q)
              cases e
      have sh1 : Sh 2 (tdD [("NotABook", rr), ("NotABook", rr)]) := sh_tdD (fun it hi => by
        simp only [List.mem_cons, List.not_mem_nil, or_false, or_self] at hi
        rw [hi]
        exact ⟨show PyData.strOk "NotABook" = true by decide +kernel, nb24.2.1⟩)
      have q1 := ev_eqD (K := Kw w) (σ := [some (.ref p), some (.ref l), some (.bl false), some (.ref b), some (.ref x), some (.ref y), some (.ref q), some vo, some (.ref l0)]) (H := H24) (ta := tVar 8) (ed_var rfl td24.dp) (ed_two (i := 7) rfl nb24) (sh1.shaped (by decide)) (sh1.shaped (by decide))
      have q1' := ev_is q1 (congrArg V.bl sh1.refl)
      refine s_retW (ev_andV (a := true) (b := true) q1' (fun _ => ev_is (ev_eqD (d1 := .list [.int 100, .int 100, .int 100]) (d2 := .list [.int 100, .int 100, .int 100]) (ed_lstV (ea_consD (ed_ev (ev_cval ev_c cr_Workshop cv_Workshop) (.int 100)) (ea_consD (ed_ev (ev_cval ev_c cr_SiteWorkshop cv_SiteWorkshop) (.int 100)) (ea_consD (ed_ev (ev_con (ev_var rfl) hx24 sc.cls con_SiteWorkshop_MOST rfl) (.int 100)) ea_nilD))) (by decide)) (ed_lstV (ea_consD (ed_ev ev_c (.int 100)) (ea_consD (ed_ev ev_c (.int 100)) (ea_consD (ed_ev ev_c (.int 100)) ea_nilD))) (by decide)) (by decide) (by decide)) (by simp [PyData.eqv, PyData.eqvAll])) H24 (Ex.refl _) Q fun H25 e25 => fin _ H25 ⟨rfl, e25⟩)
end
end K76
set_option maxHeartbeats 4000000
namespace K76
open PySem PySem.W PySem.Calls PyProof.Rows L2 Evl Ed LamX
theorem ev_cb2 {σ : L2.St} {H : Hp} {ta tb : TE} {x y z : V} {rc : List V → Hp → VK → Prop} (ha : Ev ta σ H x) (hb : Ev tb σ H y) (hr : ∀ (H1 : Hp) (Q : VK), Q z H1 → rc [x, y] H1 Q) : Ev (tCB rc (tCons ta (tCons tb tNil))) σ H z := fun H1 e Q q => ha H1 e _ fun H2 e2 => hb H2 (e.trans e2) _ fun H3 e3 => hr H3 Q (q H3 (e2.trans e3))
theorem lc_rngP {σ : L2.St} {H : Hp} {ta : TA} {te : TE} {vs : List Nat} {j n : Nat} {Q : VK} (h : EvA ta σ H [.int (n : Int)]) (hz : n ≤ 40000) (Pv : Addr → Hp → Nat → Hp → Prop) (h0 : ∀ D H1, Ex H H1 → H1 D = none → Pv D H1 0 (upd H1 D (.lst [])))
    (hs : ∀ (D : Addr) (H1 : Hp), Ex H H1 → H1 D = none → ∀ i H', i < n → Pv D H1 i H' → wipe ((wipe σ vs).set j (some (.int (i : Int)))) vs = wipe σ vs ∧ te ((wipe σ vs).set j (some (.int (i : Int)))) H' fun y H4 => ∃ acc, H4 D = some (.lst acc) ∧ acc.length < sizeLine ∧ Pv D H1 (i + 1) (upd H4 D (.lst (acc ++ [y]))))
    (hd : ∀ D H1, Ex H H1 → H1 D = none → ∀ H', Pv D H1 n H' → Q (.ref D) H') : tLc (iRng1 ta) (gName j) tYes te vs σ H Q :=
  h H (Ex.refl H) _ fun H1 e1 => ⟨(n : Int), rfl, by omega, by omega, fun D hD => by
    refine lc_range (n := n) (Pv D H1) (h0 D H1 e1 hD) (fun i H' hi p => ?_) fun H' p => hd D H1 e1 hD H' p
    obtain ⟨q1, q2⟩ := hs D H1 e1 hD i H' hi p
    show wipe ((wipe σ vs).set j (some (.int (0 + (i : Int))))) vs = wipe σ vs ∧ te ((wipe σ vs).set j (some (.int (0 + (i : Int))))) H' _
    rw [Int.zero_add]
    exact ⟨q1, q2⟩⟩
theorem sqL_kz {K : PySem.W.Frag} {H H' : Hp} {a : Addr} {xs : List V} (h : SqL K H a xs) (k : Kz [] H H') : SqL K H' a xs := by
  rcases h with (h | ⟨o, h⟩) | h
  · exact .inl (.inl (k.off _ _ h (by simp) (fun ps z => by cases z)))
  · exact .inl (.inr ⟨o, k.off _ _ h (by simp) (fun ps z => by cases z)⟩)
  · exact .inr h
section
variable {w : World} {mg : Str → Option Value} {base : Heap}
/-! ### law -/
theorem sc_law : FnScope ["_law_cells", "_law_k"] ["_law_cells"] (defScope s_law) := ⟨rfl, rfl, rfl, by decide +kernel, rfl, by decide +kernel, by decide +kernel⟩
def spLaw (K : PySem.W.Frag) : Sp := fun vs H Q _ => ∃ (a : Addr) (ns : List Int), vs = [.ref a] ∧ SqL K H a (ns.map V.int) ∧ ns.length ≤ 63 ∧ (∀ z ∈ ns, Builtin.Int.intBits z ≤ 1048576) ∧ Tabs T76 H ∧ ∀ H', Q (.bl true) H'
theorem ok_law (W : Wd w.params mg) (TB : ∀ p ∈ cs76, TabB base mg p.1 p.2) : FnRG PR w (Kw w) mg base CX0 20 a_law (spLaw (Kw w)) := by
  refine (F_law w.params).okG sc_law (b_law _) rfl (fun vs H Q E h => ?_) (fun A outer s H vs Q E hgu hr h => ?_)
  · obtain ⟨a, ns, rfl, _⟩ := h
    rfl
  · obtain ⟨a, ns, rfl, hs, hl, hbits, hT, k⟩ := h
    have hgu_ : (A.deeper (envOfC "law" (defScope s_law) s.heap.objs.size a_law (.ref 1600))).guards = some [] := hgu
    refine ⟨_, (pss_one (ps_ret (pe_callB (cr_all rfl) rfl (n_all W) boot_all (pa_cons (pe_lc (own := [("_law_k", 1)]) (g := gName 1) (tt := tYes) rfl sc_law.nd (pi_range1 rfl (n_range W) (pa_cons (pe_callB (call_max2 rfl) rfl (n_max W) boot_max (pa_cons pe_int (pa_cons (pe_callB (call_min2 rfl) rfl (n_min W) boot_min (pa_cons (pe_callB call_len_seq rfl (n_len W) boot_len (pa_cons (pv 0) pa_nil)) (pa_cons pe_int pa_nil))) pa_nil))) pa_nil)) (blkOk_by (own := [("_law_k", 1)]) (N := ["_law_cells", "_law_k"]) (sc := defScope s_law) (by decide +kernel)) (fun _ _ _ _ _ => (pg_name (i := 1) sc_law.nd rfl (Or.inl rfl))) (fun _ _ _ _ _ => pts_nil) (fun _ _ _ _ _ => (pe_callG (ok__law_right W TB) hgu_ (hr.mono (by decide)) rfl (g__law_right W) (F__law_right _).kp pass0 (pa_cons (pe_call (ok__law_pool W) (hr.mono (by decide)) rfl (g__law_pool W) (F__law_pool _).kp (b__law_pool _) .nil pass0 (pa_cons (pe_call (ok__law_cell W) (hr.mono (by decide)) rfl (g__law_cell W) (F__law_cell _).kp (b__law_cell _) .nil pass0 (pa_cons (pv 0) (pa_cons (pv 1) pa_nil))) pa_nil)) pa_nil)))) pa_nil)))), ?_⟩
    have hlen := ev_len (K := Kw w) (ev_var (i := 0) (σ := L2.start ["_law_cells", "_law_k"] [V.ref a]) (H := H) rfl) hs
    generalize hv : (if (if (4 : Int) < (((ns.map V.int).length : Nat) : Int) then (4 : Int) else (((ns.map V.int).length : Nat) : Int)) > (2 : Int) then (if (4 : Int) < (((ns.map V.int).length : Nat) : Int) then (4 : Int) else (((ns.map V.int).length : Nat) : Int)) else (2 : Int)) = v
    have hv2 : 2 ≤ v ∧ v ≤ 4 := by
      rw [← hv]
      split <;> split <;> omega
    obtain ⟨m, rfl⟩ : ∃ m : Nat, v = (m : Int) := ⟨v.toNat, by omega⟩
    refine s_retW (cbW (consW (lc_rngP (n := m) (ea_cons (ev_is (ev_cb2 ev_c (ev_cb2 hlen ev_c fun H1 Q q => ⟨_, _, rfl, q⟩) fun H1 Q q => ⟨_, _, rfl, q⟩) (congrArg V.int hv)) ea_nil) (by omega) (fun D H1 i H' => Kz [] H1 H' ∧ H' D = some (.lst ((List.replicate i true).map V.bl)) ∧ Tabs T76 H') (fun D H1 e1 hD => ⟨.of (Ex.new hD), upd_same, (hT.ext e1).ext (Ex.new hD)⟩) (fun D H1 e1 hD i H' hi pv => ?_) (fun D H1 e1 hD H' pv => ?_))))
    · obtain ⟨kz, h1, T1⟩ := pv
      refine ⟨rfl, ?_⟩
      refine consW (callW (consW (callW (consW (varW rfl (consW (varW rfl (nilW ⟨a, ns, _, rfl, sqL_kz (ex_l e1 hs) kz, by omega, by omega, fun z H2 e2 => nilW ⟨z, rfl, fun p H3 hp e3 po => nilW ⟨p, 0, rfl, po, by decide, (T1.ext e2).ext e3, fun H4 kz4 T4 => ?_⟩⟩⟩)))))))) 
      have k4 : Kz [] H' H4 := (((Kz.of (L := [p]) (e2.trans e3)).trans kz4)).drop (fresh_back e2 hp)
      have h4 := k4.off _ _ h1 (by simp) (fun ps z => by cases z)
      refine ⟨_, h4, sz_lt (by rw [List.length_map, List.length_replicate]; omega), (((kz.trans k4).mono (by simp)).trans (.upl (L := [D]) h4 (by simp))).drop hD, ?_, Tabs.upl T4 h4⟩
      rw [upd_same, List.replicate_succ', List.map_append] <;> rfl
    · obtain ⟨kz, h1, T1⟩ := pv
      refine nilW ⟨D, List.replicate m true, rfl, sq_of h1, ?_⟩
      have : (List.replicate m true).all id = true := by simp
      rw [this]
      exact k _
end
end K76
set_option maxHeartbeats 4000000
/-! EndG: the end of a law row whose law is called where no repr is under way. -/
namespace L2
open PySem PySem.Spec PyProof.Rows LamX
section
variable {P : Program} {w : World} {K : PySem.W.Frag} {mg mb : Str → Option Value} {h : Heap} {a : Addr} {T : List Addr} {vs : List Value} {ns : List Int}
/-- what is tracked at the start: the tables, and the script if K does not know it -/
def hp0 (K : PySem.W.Frag) (T : List Addr) (a : Addr) (vs : List Value) (ns : List Int) : Hp := fun b => if b ∈ T then some (.tbl #[]) else if b = a ∧ K.lookup a = none then some (.frz { cls := .type "list", data := .seq vs.toArray } (.lst (ns.map V.int))) else none
/-- the state at the start -/
structure At0 (h : Heap) (K : PySem.W.Frag) (T : List Addr) (a : Addr) (vs : List Value) (ns : List Int) : Prop where
  kin : K.In h
  tab : ∀ b ∈ T, h.get? b = some { cls := .none, data := .fields #[] }
  notK : ∀ b ∈ T, K.lookup b = none
  script : h.get? a = some { cls := .type "list", data := .seq vs.toArray }
  nums : IntsAre vs ns
  few : ns.length ≤ sizeLine
theorem At0.ne (s : At0 h K T a vs ns) : a ∉ T := fun z => by
  have e := s.tab a z
  rw [s.script] at e
  have e2 : Data.seq vs.toArray _ = Data.fields #[] := congrArg Obj.data (Option.some.inj e)
  cases e2
theorem hp0_tab {b : Addr} (hb : b ∈ T) : hp0 K T a vs ns b = some (.tbl #[]) := if_pos hb
theorem hp0_cases (b : Addr) {u : HO} (e : hp0 K T a vs ns b = some u) : (b ∈ T ∧ u = .tbl #[]) ∨ (b = a ∧ K.lookup a = none ∧ u = .frz { cls := .type "list", data := .seq vs.toArray } (.lst (ns.map V.int))) := by
  unfold hp0 at e
  split at e
  · rename_i hb
    cases e
    exact .inl ⟨hb, rfl⟩
  · split at e
    · rename_i hb
      cases e
      exact .inr ⟨hb.1, hb.2, rfl⟩
    · cases e
/-- an object that is neither a list nor an empty table is not tracked -/
theorem At0.free (s : At0 h K T a vs ns) {b : Addr} {o : Obj} (e : h.get? b = some o) (h1 : ∀ xs n, o.data ≠ .seq xs n) (h2 : o.data ≠ .fields #[]) : hp0 K T a vs ns b = none := by
  cases q : hp0 K T a vs ns b with
  | none => rfl
  | some u =>
    rcases hp0_cases b q with ⟨hb, _⟩ | ⟨hb, _⟩
    · rw [s.tab b hb] at e
      cases e
      exact (h2 rfl).elim
    · rw [hb, s.script] at e
      cases e
      exact (h1 _ _ rfl).elim
theorem At0.ok (s : At0 h K T a vs ns) : HOk P w (hp0 K T a vs ns) h := fun b u e => by
  rcases hp0_cases b e with ⟨hb, rfl⟩ | ⟨rfl, _, rfl⟩
  · exact s.tab b hb
  · exact ⟨s.script, by rw [List.length_map]; exact s.few, vs, _, vals_ints s.nums, s.script⟩
theorem At0.sq (s : At0 h K T a vs ns) : SqL K (hp0 K T a vs ns) a (ns.map V.int) := by
  cases q : K.lookup a with
  | some o =>
    have e := s.kin a o q
    rw [s.script] at e
    cases e
    have lv := s.nums.length
    exact .inr ⟨_, vs.toArray, _, q, rfl, rfl, rfl, by rw [List.size_toArray, lv]; exact s.few, by simpa using vals_ints s.nums⟩
  | none => exact .inl (.inr ⟨_, (if_neg s.ne).trans (if_pos ⟨rfl, q⟩)⟩)
theorem At0.nsp (s : At0 h K T a vs ns) {b : Addr} {m : Str → Option Value} (n : h.Ns b m) : (hidT h (hp0 K T a vs ns)).Ns b m := by
  obtain ⟨o, es, ep, e, d, r⟩ := n
  refine ⟨o, es, ep, hidT_get e (s.free e (fun xs n z => ?_) fun z => ?_), d, r⟩
  · rw [d] at z
    cases z
  · rw [d] at z
    cases z
theorem At0.base (s : At0 h K T a vs ns) : K.In (hidT h (hp0 K T a vs ns)) := fun b o e => hidT_get (s.kin b o e) (by
  cases q : hp0 K T a vs ns b with
  | none => rfl
  | some u =>
    rcases hp0_cases b q with ⟨hb, _⟩ | ⟨rfl, hk, _⟩
    · rw [s.notK b hb] at e
      cases e
    · rw [hk] at e
      cases e)
end
/-- the law called at the start, its promise told where no repr is under way -/
theorem law_callG {P : Program} {w : World} {K : PySem.W.Frag} {mg mb : Str → Option Value} {CX : CXT} {k : Nat} {fa a : Addr} {cs : List (Addr × Addr)} {sp : Sp} {s₁ : Shared} {vs : List Value} {ns : List Int} (st : At0 s₁.heap K (cs.map (·.2)) a vs ns)
    (hns : s₁.heap.Ns mainGlobals mg) (hb : s₁.heap.Ns builtinsNs mb) (hbb : ∀ x : Str, x ≠ "__name__" → mb x = bootBuiltins x) (hlim : s₁.heap.NoLimit) (hg : s₁.gens = #[]) (C : ∀ p ∈ cs, PySem.W.CodeHd s₁.heap p.1 p.2)
    (hbm : ∃ (bm : Addr) (ob : Obj), mg "__builtins__" = some (.ref bm) ∧ bm ≠ builtinsNs ∧ s₁.heap.get? bm = some ob ∧ ob.cls = .type "module" ∧ ob.dict = some builtinsNs ∧ ob.data = .plain) (hr : Room k callerA)
    (F : ∀ base : Heap, K.In base → base.Ns mainGlobals mg → (∀ p ∈ cs, TabB base mg p.1 p.2) → FnRG P w K mg base CX k fa sp)
    (hsp : ∀ H : Hp, (∀ p ∈ cs, H p.2 = some (.tbl #[])) → SqL K H a (ns.map V.int) → sp [.ref a] H (fun v _ => v = .bl true) fun _ _ _ => False)
    (hCX : ∀ H e s', CX [] H s₁ (fun _ _ _ => False) e s' → False) :
    codeAny (model P w) callerA (.call (.ref fa) ⟨[.ref a], []⟩) (fun r s' => r = .ok (.ret (.bool true)) ∧ OldK s₁.heap s'.heap ∧ s'.os = s₁.os ∧ AllBare s'.gens) s₁ := by
  have hH : ∀ p ∈ cs, hp0 K (cs.map (·.2)) a vs ns p.2 = some (.tbl #[]) := fun p hp => hp0_tab (List.mem_map.mpr ⟨p, hp, rfl⟩)
  have TB : ∀ p ∈ cs, TabB (hidT s₁.heap (hp0 K (cs.map (·.2)) a vs ns)) mg p.1 p.2 := fun p hp => by
    have tb := st.tab p.2 (List.mem_map.mpr ⟨p, hp, rfl⟩)
    obtain ⟨og, es, ep, eg, dg, _⟩ := id hns
    refine ⟨?_, ?_, fun z => ?_⟩
    · obtain ⟨o, us, file, tf, flags, tg, inF, text, tt, e1, r1, r2, r3, r⟩ := C p hp
      refine ⟨o, us, file, tf, flags, tg, inF, text, tt, hidT_get e1 (st.free e1 (fun xs n z => ?_) fun z => ?_), r1, r2, r3, r⟩
      · rw [r2] at z
        cases z
      · rw [r2] at z
        cases z
        simp at r3
    · obtain ⟨bm, ob, b1, b2, b3, b4, b5, b6⟩ := hbm
      refine ⟨bm, ob, b1, b2, fun q => ?_, fun q => ?_, hidT_get b3 (st.free b3 (fun xs n z => ?_) fun z => ?_), b4, b5, b6⟩
      · rw [q, eg] at b3
        cases b3
        rw [dg] at b6
        cases b6
      · rw [q, tb] at b3
        cases b3
        cases b6
      · rw [b6] at z
        cases z
      · rw [b6] at z
        cases z
    · rw [z, tb] at eg
      cases eg
      cases dg
  have hM : L2.Mod K mg (hidT s₁.heap (hp0 K (cs.map (·.2)) a vs ns)) := ⟨st.base, st.nsp hns, ⟨mb, st.nsp hb, hbb⟩, by
    obtain ⟨mc, h1, h2⟩ := hlim
    exact ⟨mc, st.nsp h1, h2⟩⟩
  have e0 : Env0 P w K mg (hidT s₁.heap (hp0 K (cs.map (·.2)) a vs ns)) callerA [] s₁ (hp0 K (cs.map (·.2)) a vs ns) := ⟨rfl, hM, fun b o e => of_hidT e, Nat.le_of_eq (hidT_size _ _), trivial, fun b hb => absurd (show b ∈ ([] : List Addr) from hb) (by simp), st.ok, .of_eq hg⟩
  refine codeAny_mono (F _ st.base (st.nsp hns) TB callerA [] s₁ _ [.ref a] [.ref a] _ _ rfl hr e0 (.cons rfl .nil) (hsp _ hH st.sq)) fun r s' hq => ?_
  cases r with
  | error e => exact (hCX _ e s' hq).elim
  | ok fl =>
    cases fl with
    | next => exact False.elim hq
    | brk => exact False.elim hq
    | cont => exact False.elim hq
    | ret u =>
      obtain ⟨v, H', os, bare, un, hok', rv, hv⟩ := hq
      have hv : v = .bl true := hv
      subst hv
      obtain rfl : u = Value.bool true := rv
      -- a table only grows
      have grown : ∀ p ∈ cs, ∃ more : Array Value, s'.heap.get? p.2 = some { cls := .none, data := .fields more } := fun p hp => by
        obtain ⟨more, z⟩ := un.tbls p.2 #[] (hH p hp)
        exact ⟨_, hok' p.2 _ z⟩
      have tab : ∀ b o, b ∈ cs.map (·.2) → s₁.heap.get? b = some o → ∃ p ∈ cs, p.2 = b ∧ o = { cls := .none, data := .fields #[] } := fun b o hb e => by
        obtain ⟨p, hp, rfl⟩ := List.mem_map.mp hb
        rw [st.tab p.2 hb] at e
        cases e
        exact ⟨p, hp, rfl, rfl⟩
      have rest : ∀ b o, b ∉ cs.map (·.2) → s₁.heap.get? b = some o → s'.heap.get? b = some o := fun b o nb e => by
        cases q : hp0 K (cs.map (·.2)) a vs ns b with
        | none => exact un.keep b o e q (fun z => absurd (show b ∈ ([] : List Addr) from z) (by simp)) (by simp)
        | some u =>
          rcases hp0_cases b q with ⟨z, _⟩ | ⟨rfl, _, rfl⟩
          · exact (nb z).elim
          · obtain ⟨e2, _⟩ := hok' b _ (un.frzs b _ _ q)
            rw [st.script] at e
            cases e
            exact e2
      refine ⟨rfl, ⟨fun b o e => ?_, fun b o e => ?_⟩, os, bare⟩
      · by_cases hb : b ∈ cs.map (·.2)
        · obtain ⟨p, hp, rfl, rfl⟩ := tab b o hb e
          obtain ⟨more, hm⟩ := grown p hp
          exact .inr (.inl ⟨((C p hp).tab e).isCodeTable, rfl, #[], more, rfl, by rw [Array.empty_append]; exact hm⟩)
        · exact .inl (rest b o hb e)
      · by_cases hb : b ∈ cs.map (·.2)
        · obtain ⟨p, hp, rfl, _⟩ := tab b o hb e
          obtain ⟨more, hm⟩ := grown p hp
          exact ⟨_, hm⟩
        · exact ⟨o, rest b o hb e⟩
/-- what is known of the law's promise at the head's heap h -/
def LawG (l : PySem.W.OpenLaw) (w : World) (K : PySem.W.Frag) (CX : CXT) (k n : Nat) (mg : Str → Option Value) (fa : Addr) (h : Heap) : Prop :=
  ∃ (cs : List (Addr × Addr)) (sp : Sp), (∀ p ∈ cs, h.get? p.2 = some { cls := .none, data := .fields #[] }) ∧ (∀ p ∈ cs, K.lookup p.2 = none) ∧ (∀ p ∈ cs, PySem.W.CodeHd h p.1 p.2) ∧
    (∀ (H : Hp) (a : Addr) (ns : List Int), ns.length ≤ n → (∀ z ∈ ns, Builtin.Int.intBits z ≤ 1048576) → (∀ p ∈ cs, H p.2 = some (.tbl #[])) → SqL K H a (ns.map V.int) → sp [.ref a] H (fun v _ => v = .bl true) fun _ _ _ => False) ∧
    ∀ base : Heap, K.In base → base.Ns mainGlobals mg → (∀ p ∈ cs, TabB base mg p.1 p.2) → FnRG l.prog w K mg base CX k fa sp
theorem walk_ofG {l : PySem.W.OpenLaw} {n k : Nat} {q : Program} {loose : List Str} {XP : (Str → Option Value) → Heap → Prop} {YP : World → Heap → Prop} {d : DefRec} {K : Params → PySem.W.Frag} {CX : World → CXT}
    (hn : l.most = some n) (hn2 : n ≤ sizeLine) (hdf : d.params.defaults = []) (hr : Room k callerA) (hY : ∀ (w : World) (h : Heap), YP w h → (K w.params).In h)
    (F : ∀ (w : World) (mg : Str → Option Value) (fa : Addr) (h : Heap), YP w h → (K w.params).In h → h.Ns mainGlobals mg → mg d.name = some (.ref fa) → LawG l w (K w.params) (CX w) k n mg fa h)
    (hCX : ∀ (w : World) (H : Hp) (s : Shared) (e : Value) (s' : Shared), CX w [] H s (fun _ _ _ => False) e s' → False) :
    PySem.W.WalkO q loose XP YP l.row.toRowW d [] (fun f vs => PySem.call f vs) := by
  refine Att.attach_callB hn hdf fun w s₀ s₁ mg mb fa o pm cd doc a vs ns G Y ho hd hcd hmg hobj hints hlen hbits hg => ?_
  have KX := hY w _ Y
  obtain ⟨cs, sp, hT, nT, C, hsp, hF⟩ := F w mg fa _ Y KX G.T.g hmg
  exact law_callG ⟨KX, fun b hb => by
    obtain ⟨p, hp, rfl⟩ := List.mem_map.mp hb
    exact hT p hp, fun b hb => by
    obtain ⟨p, hp, rfl⟩ := List.mem_map.mp hb
    exact nT p hp, hobj, hints, Nat.le_trans hlen hn2⟩ G.T.g G.T.b G.T.builtins G.T.nolimit hg C G.T.bmain hr hF (fun H hH hS => hsp H a ns hlen hbits hH hS) fun H e s' => hCX w H s₁ e s'
end L2
set_option maxHeartbeats 0
/-! ## the end -/
namespace K76
open PySem PySem.W PySem.Calls PyProof.Rows L2 LamX
theorem law_G (w : World) {mg : Str → Option Value} {h : Heap} (X : SaysK w.params h) (G : h.Ns mainGlobals mg) {fa : Addr} (hfa : mg ("law" : Str) = some (.ref fa)) : LawG PySem.Challenge.rw_everysite_k76_deeds_refused w (K0 w.params) C8.CX0 20 63 mg fa h := by
  have W : Wd w.params mg := ⟨h, X.k, G⟩
  obtain rfl : fa = a_law := by
    have e := g_law W
    rw [hfa] at e
    exact Value.ref.inj (Option.some.inj e)
  refine ⟨cs76, spLaw (Kw w), fun p hp => ?_, fun p hp => ?_, fun p hp => ?_, fun H a ns hl hb hT hS => ⟨a, ns, rfl, hS, hl, hb, fun q hq => ?_, fun _ => rfl⟩, fun base hk hg TB => ok_law ⟨base, hk, hg⟩ TB⟩
  · simp only [cs76, List.mem_cons, List.not_mem_nil, or_false] at hp
    rcases hp with rfl | rfl | rfl <;> exact X.t _ (by simp [asT])
  · simp only [cs76, List.mem_cons, List.not_mem_nil, or_false] at hp
    rcases hp with rfl | rfl | rfl <;> kernel_rfl
  · simp only [cs76, List.mem_cons, List.not_mem_nil, or_false] at hp
    rcases hp with rfl | rfl | rfl <;> exact codeHd_of_K X.k (by kernel_rfl)
  · simp only [T76, List.mem_cons, List.not_mem_nil, or_false] at hq
    rcases hq with rfl | rfl | rfl
    · exact TabS.nil (hT (1581, 1579) (by simp [cs76]))
    · exact TabS.nil (hT (1588, 1584) (by simp [cs76]))
    · exact TabS.nil (hT (1595, 1591) (by simp [cs76]))
end K76
open PySem PySem.W PySem.Calls PyProof.Rows
theorem PySem.Challenge.cw_everysite_k76_deeds_refused_holds : PySem.Challenge.rw_everysite_k76_deeds_refused.Holds := by
  w_on; o_law
  refine HandSHeadRun.head_any (r := OpenLaw.row PySem.Challenge.rw_everysite_k76_deeds_refused) (q := K76.qv) (H := K76.hk) (ob := K76.ob) (M := 16000) (loose := K76.names) (d := HandSHeadRun.topDef (OpenLaw.row PySem.Challenge.rw_everysite_k76_deeds_refused).prog K76.lastTop) (kwd := []) K76.ob_eq
    (by kernel_rfl) (fun s => by kernel_rfl) K76.run (by kernel_rfl) (by kernel_rfl) (by kernel_rfl) (by rfl) (by first | assumption | decide +kernel) (by decide +kernel) ⟨rfl, rfl, rfl, rfl, rfl, by decide +kernel⟩ ?hw ?hc
  case hw => w_witness2
  case hc =>
    refine L2.walk_ofG (l := PySem.Challenge.rw_everysite_k76_deeds_refused) (n := 63) (k := 20) (K := K76.K0) (CX := fun _ => C8.CX0) rfl (by decide) (by kernel_rfl) ⟨rfl, by decide, by decide⟩ (fun w h Y => Y.k) ?F (fun _ _ _ _ _ z => z)
    intro w mg fa h Y _ G hmg0
    have hmg : mg ("law" : PySem.Str) = some (.ref fa) := by
      have e : (HandSHeadRun.topDef (OpenLaw.row PySem.Challenge.rw_everysite_k76_deeds_refused).prog K76.lastTop).name = ("law" : PySem.Str) := by kernel_rfl
      rw [← e]
      exact hmg0
    exact K76.law_G w Y G hmg
