import PyProof.Rows.All
import Wide.All
import OpenK.AllK
import Wide.FinOn
import PyProof.Rows.SeqMore
import PyProof.ListOps
import PyProof.ZipIter
import PyProof.EnumMake
import PyProof.Rows.TupAssign
import PyProof.Rows.SetFrom
import PyProof.Rows.SortStr
import PyProof.CollectWalk
import PyProof.Walks
import PyProof.WalksMore
import PyProof.EqAt
import PyProof.NeKinds
import PyProof.AttrMissHeap
import KE.KDictOf
import PyProof.AssignAttr
import PyProof.Rows.AttrNode
import OpenK.KMore
import PyProof.ListCopy
import PyProof.IsiHeapPairs
import PyProof.IsiPairs
import PyProof.TupleKey
import PyProof.DictRoadsH
import PyProof.ExcClass3
import PyProof.ExcInit
import PyProof.ExcBaseAll.Exception
import PyProof.InstLoad
import PyProof.InstStoreFacts
import PyProof.ExcArgsOwn
import KE.KSuper
import PyProof.ExcAttrAll.Exception
import PyProof.StationsW
import PyProof.RulesAs
import PyProof.DictTable
import PyProof.Conv_int
import PyProof.EqKinds
import PySem.Challenge.RW_rg0114_01
set_option Elab.async false
section
open PySem PySem.W PyProof.Rows
set_option maxRecDepth 100000
namespace Mine
/-- the n-th statement -/
noncomputable def nthS : List Stmt → Nat → Stmt
  | s :: _, 0 => s
  | _ :: r, n + 1 => nthS r n
  | [], _ => .Pass default
noncomputable def stAt (i : Nat) : Stmt := nthS PySem.Challenge.pw_rg0114_01.main.body i
noncomputable def inCls : Stmt → Nat → Stmt
  | .ClassDef (body := b) .., n => nthS b n
  | s, _ => s
noncomputable def fnArgs : Stmt → Arguments
  | .FunctionDef (args := a) .. => a
  | _ => default
noncomputable def fnBody : Stmt → List Stmt
  | .FunctionDef (body := a) .. => a
  | _ => []
noncomputable def fnScope : Stmt → Scope
  | .FunctionDef (scope := a) .. => a
  | _ => default
def sv (x : Str) (k : Nat) : Value := .str x k
def rv (a : Nat) : Value := .ref a
def iv (i : Int) : Value := .int i 0
def kh (P : Params) (x : Str) : Int := PyData.keyHash P x
namespace hd
/-- the objects behind the top that the law reaches -/
noncomputable def heap_39 (P : Params) : Frag := [
  (2, { cls := .none, data := .dict #[{ hash := kh P "type.__subclasses__.Exception.0", key := sv "type.__subclasses__.Exception.0" 230, val := iv 47 }, { hash := kh P "type.__subclasses__.Exception.n", key := sv "type.__subclasses__.Exception.n" 231, val := iv 1 }] 2 }),
  (3, { cls := .type "dict", data := .dict #[{ hash := kh P "__name__", key := sv "__name__" 165, val := sv "law_rg0114_01" 480 }, { hash := kh P "__doc__", key := sv "__doc__" 166, val := .none }, { hash := kh P "__package__", key := sv "__package__" 167, val := .none }, { hash := kh P "__loader__", key := sv "__loader__" 168, val := .builtin "__main__.__loader__#opaque" }, { hash := kh P "__spec__", key := sv "__spec__" 169, val := .none }, { hash := kh P "__annotations__", key := sv "__annotations__" 170, val := rv 6 }, { hash := kh P "__builtins__", key := sv "__builtins__" 171, val := rv 4 }, { hash := kh P "__file__", key := sv "__file__" 173, val := sv "/claim/cut.py" 172 }, { hash := kh P "__cached__", key := sv "__cached__" 174, val := .none }, { hash := kh P "_wall", key := sv "_wall" 193, val := rv 21 }, { hash := kh P "HeapError", key := sv "HeapError" 233, val := rv 47 }, { hash := kh P "TermFault", key := sv "TermFault" 249, val := rv 60 }, { hash := kh P "RuleFault", key := sv "RuleFault" 265, val := rv 72 }, { hash := kh P "PaperFault", key := sv "PaperFault" 300, val := rv 100 }, { hash := kh P "is_variable", key := sv "is_variable" 309, val := rv 109 }, { hash := kh P "variables", key := sv "variables" 315, val := rv 114 }, { hash := kh P "placed", key := sv "placed" 321, val := rv 119 }, { hash := kh P "parts", key := sv "parts" 327, val := rv 124 }, { hash := kh P "parts_of", key := sv "parts_of" 336, val := rv 131 }, { hash := kh P "is_plain_term", key := sv "is_plain_term" 345, val := rv 138 }, { hash := kh P "are_places", key := sv "are_places" 351, val := rv 143 }, { hash := kh P "has_form", key := sv "has_form" 360, val := rv 150 }, { hash := kh P "in_order", key := sv "in_order" 366, val := rv 155 }, { hash := kh P "want_form", key := sv "want_form" 374, val := rv 162 }, { hash := kh P "Judge", key := sv "Judge" 440, val := rv 208 }, { hash := kh P "Rule", key := sv "Rule" 479, val := rv 234 }, { hash := kh P "_law_terms", key := sv "_law_terms" 489, val := rv 246 }, { hash := kh P "_law_pick", key := sv "_law_pick" 498, val := rv 253 }, { hash := kh P "_law_pattern", key := sv "_law_pattern" 504, val := rv 258 }, { hash := kh P "_law_names", key := sv "_law_names" 510, val := rv 263 }, { hash := kh P "_law_is_read", key := sv "_law_is_read" 516, val := rv 268 }, { hash := kh P "_law_bent", key := sv "_law_bent" 526, val := rv 275 }, { hash := kh P "_law_told", key := sv "_law_told" 537, val := rv 282 }, { hash := kh P "law", key := sv "law" 543, val := rv 287 }] 34 }),
  (15, { cls := .type "tuple", data := .seq #[] }),
  (17, { cls := .type "tuple", data := .seq #[sv "k" 190] }),
  (18, { cls := .type "tuple", data := .seq #[] }),
  (20, { cls := .type "code", data := .fields #[sv "_wall" 187, sv "_wall" 188, sv "/claim/cut.py" 189, iv 1, iv 1, iv 0, iv 0, iv 3, rv 15, .bool true, iv 181, rv 16, .none, rv 17, rv 18, rv 19, iv 191, iv 1, sv "/claim/cut.py" 192] }),
  (21, { cls := .type "function", data := .func { name := "_wall", qualname := "_wall", params := fnArgs (stAt 0), body := .stmts (fnBody (stAt 0)), scope := fnScope (stAt 0), globals := 3, closure := [], defaults := .none, kwdefaults := .none, pyModule := sv "__main__" 164, code := rv 20 } }),
  (22, { cls := .type "tuple", data := .seq #[.type "Exception"] }),
  (25, { cls := .type "cell", data := .cell (some (rv 47)) }),
  (30, { cls := .type "tuple", data := .seq #[rv 25] }),
  (31, { cls := .type "tuple", data := .seq #[sv "__class__" 211] }),
  (33, { cls := .type "tuple", data := .seq #[sv "self" 212, sv "what" 213] }),
  (34, { cls := .type "tuple", data := .seq #[] }),
  (36, { cls := .type "code", data := .fields #[sv "__init__" 208, sv "HeapError.__init__" 209, sv "/claim/cut.py" 210, iv 7, iv 2, iv 0, iv 0, iv 3, rv 31, .bool true, iv 181, rv 32, .none, rv 33, rv 34, rv 35, iv 214, iv 7, sv "/claim/cut.py" 215] }),
  (37, { cls := .type "function", data := .func { name := "__init__", qualname := "HeapError.__init__", params := fnArgs (inCls (stAt 2) 0), body := .stmts (fnBody (inCls (stAt 2) 0)), scope := fnScope (inCls (stAt 2) 0), globals := 3, closure := [("__class__", 25)], defaults := .none, kwdefaults := .none, pyModule := sv "alikeheap.errors" 194, code := rv 36, closureTuple := rv 30 } }),
  (38, { cls := .type "tuple", data := .seq #[] }),
  (40, { cls := .type "tuple", data := .seq #[sv "self" 220] }),
  (41, { cls := .type "tuple", data := .seq #[] }),
  (43, { cls := .type "code", data := .fields #[sv "told" 217, sv "HeapError.told" 218, sv "/claim/cut.py" 219, iv 11, iv 1, iv 0, iv 0, iv 3, rv 38, .bool true, iv 181, rv 39, .none, rv 40, rv 41, rv 42, iv 221, iv 11, sv "/claim/cut.py" 222] }),
  (44, { cls := .type "function", data := .func { name := "told", qualname := "HeapError.told", params := fnArgs (inCls (stAt 2) 1), body := .stmts (fnBody (inCls (stAt 2) 1)), scope := fnScope (inCls (stAt 2) 1), globals := 3, closure := [], defaults := .none, kwdefaults := .none, pyModule := sv "alikeheap.errors" 194, code := rv 43 } }),
  (45, { cls := .type "tuple", data := .seq #[sv "what" 224] }),
  (46, { cls := .type "dict", data := .dict #[{ hash := kh P "__module__", key := sv "__module__" 203, val := sv "alikeheap.errors" 194 }, { hash := kh P "__firstlineno__", key := sv "__firstlineno__" 207, val := Value.int 5 206 }, { hash := kh P "__init__", key := sv "__init__" 216, val := rv 37 }, { hash := kh P "told", key := sv "told" 223, val := rv 44 }, { hash := kh P "__static_attributes__", key := sv "__static_attributes__" 225, val := rv 45 }, { hash := kh P "__weakref__", key := sv "__weakref__" 228, val := rv 48 }, { hash := kh P "__doc__", key := sv "__doc__" 229, val := .none }] 4 }),
  (47, { cls := .type "type", data := .cls { name := "HeapError", bases := [.type "Exception"], mro := [rv 47, .type "Exception", .type "BaseException", .type "object"], ns := 46, qualname := "HeapError", subclasses := [rv 60, rv 72, rv 100] }, slots := #[some (rv 22), none, some (sv "HeapError" 196), some (sv "HeapError" 204), some (.builtin "Exception.__new__"), some (.bool true)] }),
  (48, { cls := .type "getset_descriptor", data := .fields #[sv "__weakref__" 227, rv 47, .builtin "ExceptionGroup.__weakref__", .none] }),
  (51, { cls := .type "tuple", data := .seq #[rv 47] }),
  (58, { cls := .type "tuple", data := .seq #[] }),
  (59, { cls := .type "dict", data := .dict #[{ hash := kh P "__module__", key := sv "__module__" 241, val := sv "alikeheap.errors" 194 }, { hash := kh P "__firstlineno__", key := sv "__firstlineno__" 245, val := Value.int 13 244 }, { hash := kh P "__static_attributes__", key := sv "__static_attributes__" 246, val := rv 58 }, { hash := kh P "__doc__", key := sv "__doc__" 247, val := .none }] 2 }),
  (60, { cls := .type "type", data := .cls { name := "TermFault", bases := [rv 47], mro := [rv 60, rv 47, .type "Exception", .type "BaseException", .type "object"], ns := 59, qualname := "TermFault" }, slots := #[some (rv 51), none, some (sv "TermFault" 234), some (sv "TermFault" 242), some (.builtin "Exception.__new__"), some (.bool true)] }),
  (63, { cls := .type "tuple", data := .seq #[rv 47] }),
  (70, { cls := .type "tuple", data := .seq #[] }),
  (71, { cls := .type "dict", data := .dict #[{ hash := kh P "__module__", key := sv "__module__" 257, val := sv "alikeheap.errors" 194 }, { hash := kh P "__firstlineno__", key := sv "__firstlineno__" 261, val := Value.int 15 260 }, { hash := kh P "__static_attributes__", key := sv "__static_attributes__" 262, val := rv 70 }, { hash := kh P "__doc__", key := sv "__doc__" 263, val := .none }] 2 }),
  (72, { cls := .type "type", data := .cls { name := "RuleFault", bases := [rv 47], mro := [rv 72, rv 47, .type "Exception", .type "BaseException", .type "object"], ns := 71, qualname := "RuleFault" }, slots := #[some (rv 63), none, some (sv "RuleFault" 250), some (sv "RuleFault" 258), some (.builtin "Exception.__new__"), some (.bool true)] }),
  (75, { cls := .type "tuple", data := .seq #[rv 47] }),
  (78, { cls := .type "cell", data := .cell (some (rv 100)) }),
  (83, { cls := .type "tuple", data := .seq #[rv 78] }),
  (84, { cls := .type "tuple", data := .seq #[sv "__class__" 281] }),
  (86, { cls := .type "tuple", data := .seq #[sv "self" 282, sv "what" 283, sv "place" 284] }),
  (87, { cls := .type "tuple", data := .seq #[] }),
  (89, { cls := .type "code", data := .fields #[sv "__init__" 278, sv "PaperFault.__init__" 279, sv "/claim/cut.py" 280, iv 19, iv 3, iv 0, iv 0, iv 3, rv 84, .bool true, iv 181, rv 85, .none, rv 86, rv 87, rv 88, iv 285, iv 19, sv "/claim/cut.py" 286] }),
  (90, { cls := .type "function", data := .func { name := "__init__", qualname := "PaperFault.__init__", params := fnArgs (inCls (stAt 5) 0), body := .stmts (fnBody (inCls (stAt 5) 0)), scope := fnScope (inCls (stAt 5) 0), globals := 3, closure := [("__class__", 78)], defaults := .none, kwdefaults := .none, pyModule := sv "alikeheap.errors" 194, code := rv 89, closureTuple := rv 83 } }),
  (91, { cls := .type "tuple", data := .seq #[] }),
  (93, { cls := .type "tuple", data := .seq #[sv "self" 291] }),
  (94, { cls := .type "tuple", data := .seq #[] }),
  (96, { cls := .type "code", data := .fields #[sv "told" 288, sv "PaperFault.told" 289, sv "/claim/cut.py" 290, iv 23, iv 1, iv 0, iv 0, iv 3, rv 91, .bool true, iv 181, rv 92, .none, rv 93, rv 94, rv 95, iv 292, iv 23, sv "/claim/cut.py" 293] }),
  (97, { cls := .type "function", data := .func { name := "told", qualname := "PaperFault.told", params := fnArgs (inCls (stAt 5) 1), body := .stmts (fnBody (inCls (stAt 5) 1)), scope := fnScope (inCls (stAt 5) 1), globals := 3, closure := [], defaults := .none, kwdefaults := .none, pyModule := sv "alikeheap.errors" 194, code := rv 96 } }),
  (98, { cls := .type "tuple", data := .seq #[sv "place" 295] }),
  (99, { cls := .type "dict", data := .dict #[{ hash := kh P "__module__", key := sv "__module__" 273, val := sv "alikeheap.errors" 194 }, { hash := kh P "__firstlineno__", key := sv "__firstlineno__" 277, val := Value.int 17 276 }, { hash := kh P "__init__", key := sv "__init__" 287, val := rv 90 }, { hash := kh P "told", key := sv "told" 294, val := rv 97 }, { hash := kh P "__static_attributes__", key := sv "__static_attributes__" 296, val := rv 98 }, { hash := kh P "__doc__", key := sv "__doc__" 298, val := .none }] 3 }),
  (100, { cls := .type "type", data := .cls { name := "PaperFault", bases := [rv 47], mro := [rv 100, rv 47, .type "Exception", .type "BaseException", .type "object"], ns := 99, qualname := "PaperFault" }, slots := #[some (rv 75), none, some (sv "PaperFault" 266), some (sv "PaperFault" 274), some (.builtin "Exception.__new__"), some (.bool true)] }),
  (103, { cls := .type "tuple", data := .seq #[] }),
  (105, { cls := .type "tuple", data := .seq #[sv "t" 306] }),
  (106, { cls := .type "tuple", data := .seq #[] }),
  (108, { cls := .type "code", data := .fields #[sv "is_variable" 303, sv "is_variable" 304, sv "/claim/cut.py" 305, iv 26, iv 1, iv 0, iv 0, iv 3, rv 103, .bool true, iv 181, rv 104, .none, rv 105, rv 106, rv 107, iv 307, iv 26, sv "/claim/cut.py" 308] }),
  (109, { cls := .type "function", data := .func { name := "is_variable", qualname := "is_variable", params := fnArgs (stAt 7), body := .stmts (fnBody (stAt 7)), scope := fnScope (stAt 7), globals := 3, closure := [], defaults := .none, kwdefaults := .none, pyModule := sv "alikeheap.terms" 301, code := rv 108 } }),
  (110, { cls := .type "tuple", data := .seq #[] }),
  (113, { cls := .type "code", data := .fields #[sv "variables" 310, sv "variables" 311, sv "/claim/cut.py" 312, iv 28, iv 1, iv 0, iv 0, iv 3, rv 110, .bool true, iv 181, rv 111, .none, .none, .none, rv 112, iv 313, iv 28, sv "/claim/cut.py" 314] }),
  (114, { cls := .type "function", data := .func { name := "variables", qualname := "variables", params := fnArgs (stAt 8), body := .stmts (fnBody (stAt 8)), scope := fnScope (stAt 8), globals := 3, closure := [], defaults := .none, kwdefaults := .none, pyModule := sv "alikeheap.terms" 301, code := rv 113 } }),
  (115, { cls := .type "tuple", data := .seq #[] }),
  (118, { cls := .type "code", data := .fields #[sv "placed" 316, sv "placed" 317, sv "/claim/cut.py" 318, iv 30, iv 2, iv 0, iv 0, iv 3, rv 115, .bool true, iv 181, rv 116, .none, .none, .none, rv 117, iv 319, iv 30, sv "/claim/cut.py" 320] }),
  (119, { cls := .type "function", data := .func { name := "placed", qualname := "placed", params := fnArgs (stAt 9), body := .stmts (fnBody (stAt 9)), scope := fnScope (stAt 9), globals := 3, closure := [], defaults := .none, kwdefaults := .none, pyModule := sv "alikeheap.terms" 301, code := rv 118 } }),
  (120, { cls := .type "tuple", data := .seq #[] }),
  (123, { cls := .type "code", data := .fields #[sv "parts" 322, sv "parts" 323, sv "/claim/cut.py" 324, iv 36, iv 1, iv 0, iv 0, iv 3, rv 120, .bool true, iv 181, rv 121, .none, .none, .none, rv 122, iv 325, iv 36, sv "/claim/cut.py" 326] }),
  (124, { cls := .type "function", data := .func { name := "parts", qualname := "parts", params := fnArgs (stAt 10), body := .stmts (fnBody (stAt 10)), scope := fnScope (stAt 10), globals := 3, closure := [], defaults := .none, kwdefaults := .none, pyModule := sv "alikeheap.terms" 301, code := rv 123 } }),
  (125, { cls := .type "tuple", data := .seq #[] }),
  (127, { cls := .type "tuple", data := .seq #[sv "paper" 333] }),
  (128, { cls := .type "tuple", data := .seq #[] }),
  (130, { cls := .type "code", data := .fields #[sv "parts_of" 330, sv "parts_of" 331, sv "/claim/cut.py" 332, iv 42, iv 1, iv 0, iv 0, iv 3, rv 125, .bool true, iv 181, rv 126, .none, rv 127, rv 128, rv 129, iv 334, iv 42, sv "/claim/cut.py" 335] }),
  (131, { cls := .type "function", data := .func { name := "parts_of", qualname := "parts_of", params := fnArgs (stAt 12), body := .stmts (fnBody (stAt 12)), scope := fnScope (stAt 12), globals := 3, closure := [], defaults := .none, kwdefaults := .none, pyModule := sv "alikeheap.papers" 328, code := rv 130 } }),
  (132, { cls := .type "tuple", data := .seq #[] }),
  (134, { cls := .type "tuple", data := .seq #[sv "thing" 340, sv "waiting" 341, sv "one" 342] }),
  (135, { cls := .type "tuple", data := .seq #[] }),
  (137, { cls := .type "code", data := .fields #[sv "is_plain_term" 337, sv "is_plain_term" 338, sv "/claim/cut.py" 339, iv 46, iv 1, iv 0, iv 0, iv 3, rv 132, .bool true, iv 181, rv 133, .none, rv 134, rv 135, rv 136, iv 343, iv 46, sv "/claim/cut.py" 344] }),
  (138, { cls := .type "function", data := .func { name := "is_plain_term", qualname := "is_plain_term", params := fnArgs (stAt 13), body := .stmts (fnBody (stAt 13)), scope := fnScope (stAt 13), globals := 3, closure := [], defaults := .none, kwdefaults := .none, pyModule := sv "alikeheap.papers" 328, code := rv 137 } }),
  (139, { cls := .type "tuple", data := .seq #[] }),
  (142, { cls := .type "code", data := .fields #[sv "are_places" 346, sv "are_places" 347, sv "/claim/cut.py" 348, iv 54, iv 1, iv 0, iv 0, iv 3, rv 139, .bool true, iv 181, rv 140, .none, .none, .none, rv 141, iv 349, iv 54, sv "/claim/cut.py" 350] }),
  (143, { cls := .type "function", data := .func { name := "are_places", qualname := "are_places", params := fnArgs (stAt 14), body := .stmts (fnBody (stAt 14)), scope := fnScope (stAt 14), globals := 3, closure := [], defaults := .none, kwdefaults := .none, pyModule := sv "alikeheap.papers" 328, code := rv 142 } }),
  (144, { cls := .type "tuple", data := .seq #[] }),
  (146, { cls := .type "tuple", data := .seq #[sv "thing" 355, sv "kind" 356, sv "many" 357] }),
  (147, { cls := .type "tuple", data := .seq #[] }),
  (149, { cls := .type "code", data := .fields #[sv "has_form" 352, sv "has_form" 353, sv "/claim/cut.py" 354, iv 61, iv 1, iv 0, iv 0, iv 3, rv 144, .bool true, iv 181, rv 145, .none, rv 146, rv 147, rv 148, iv 358, iv 61, sv "/claim/cut.py" 359] }),
  (150, { cls := .type "function", data := .func { name := "has_form", qualname := "has_form", params := fnArgs (stAt 15), body := .stmts (fnBody (stAt 15)), scope := fnScope (stAt 15), globals := 3, closure := [], defaults := .none, kwdefaults := .none, pyModule := sv "alikeheap.papers" 328, code := rv 149 } }),
  (151, { cls := .type "tuple", data := .seq #[] }),
  (154, { cls := .type "code", data := .fields #[sv "in_order" 361, sv "in_order" 362, sv "/claim/cut.py" 363, iv 74, iv 1, iv 0, iv 0, iv 3, rv 151, .bool true, iv 181, rv 152, .none, .none, .none, rv 153, iv 364, iv 74, sv "/claim/cut.py" 365] }),
  (155, { cls := .type "function", data := .func { name := "in_order", qualname := "in_order", params := fnArgs (stAt 16), body := .stmts (fnBody (stAt 16)), scope := fnScope (stAt 16), globals := 3, closure := [], defaults := .none, kwdefaults := .none, pyModule := sv "alikeheap.papers" 328, code := rv 154 } }),
  (156, { cls := .type "tuple", data := .seq #[] }),
  (158, { cls := .type "tuple", data := .seq #[sv "paper" 370, sv "path" 371] }),
  (159, { cls := .type "tuple", data := .seq #[] }),
  (161, { cls := .type "code", data := .fields #[sv "want_form" 367, sv "want_form" 368, sv "/claim/cut.py" 369, iv 83, iv 2, iv 0, iv 0, iv 3, rv 156, .bool true, iv 181, rv 157, .none, rv 158, rv 159, rv 160, iv 372, iv 83, sv "/claim/cut.py" 373] }),
  (162, { cls := .type "function", data := .func { name := "want_form", qualname := "want_form", params := fnArgs (stAt 17), body := .stmts (fnBody (stAt 17)), scope := fnScope (stAt 17), globals := 3, closure := [], defaults := .none, kwdefaults := .none, pyModule := sv "alikeheap.papers" 328, code := rv 161 } }),
  (170, { cls := .type "tuple", data := .seq #[] }),
  (172, { cls := .type "tuple", data := .seq #[sv "self" 390, sv "rules" 391, sv "told" 392] }),
  (173, { cls := .type "tuple", data := .seq #[] }),
  (175, { cls := .type "code", data := .fields #[sv "__init__" 387, sv "Judge.__init__" 388, sv "/claim/cut.py" 389, iv 88, iv 3, iv 0, iv 0, iv 3, rv 170, .bool true, iv 181, rv 171, .none, rv 172, rv 173, rv 174, iv 393, iv 88, sv "/claim/cut.py" 394] }),
  (176, { cls := .type "function", data := .func { name := "__init__", qualname := "Judge.__init__", params := fnArgs (inCls (stAt 18) 0), body := .stmts (fnBody (inCls (stAt 18) 0)), scope := fnScope (inCls (stAt 18) 0), globals := 3, closure := [], defaults := .none, kwdefaults := .none, pyModule := sv "alikeheap.papers" 328, code := rv 175 } }),
  (177, { cls := .type "tuple", data := .seq #[] }),
  (179, { cls := .type "tuple", data := .seq #[sv "self" 399, sv "label" 400, sv "place" 401] }),
  (180, { cls := .type "tuple", data := .seq #[] }),
  (182, { cls := .type "code", data := .fields #[sv "told_sides" 396, sv "Judge.told_sides" 397, sv "/claim/cut.py" 398, iv 92, iv 3, iv 0, iv 0, iv 3, rv 177, .bool true, iv 181, rv 178, .none, rv 179, rv 180, rv 181, iv 402, iv 92, sv "/claim/cut.py" 403] }),
  (183, { cls := .type "function", data := .func { name := "told_sides", qualname := "Judge.told_sides", params := fnArgs (inCls (stAt 18) 1), body := .stmts (fnBody (inCls (stAt 18) 1)), scope := fnScope (inCls (stAt 18) 1), globals := 3, closure := [], defaults := .none, kwdefaults := .none, pyModule := sv "alikeheap.papers" 328, code := rv 182 } }),
  (184, { cls := .type "tuple", data := .seq #[] }),
  (187, { cls := .type "code", data := .fields #[sv "rule_sides" 405, sv "Judge.rule_sides" 406, sv "/claim/cut.py" 407, iv 97, iv 4, iv 0, iv 0, iv 3, rv 184, .bool true, iv 181, rv 185, .none, .none, .none, rv 186, iv 408, iv 97, sv "/claim/cut.py" 409] }),
  (188, { cls := .type "function", data := .func { name := "rule_sides", qualname := "Judge.rule_sides", params := fnArgs (inCls (stAt 18) 2), body := .stmts (fnBody (inCls (stAt 18) 2)), scope := fnScope (inCls (stAt 18) 2), globals := 3, closure := [], defaults := .none, kwdefaults := .none, pyModule := sv "alikeheap.papers" 328, code := rv 187 } }),
  (189, { cls := .type "tuple", data := .seq #[] }),
  (192, { cls := .type "code", data := .fields #[sv "sides_of" 411, sv "Judge.sides_of" 412, sv "/claim/cut.py" 413, iv 108, iv 4, iv 0, iv 0, iv 3, rv 189, .bool true, iv 181, rv 190, .none, .none, .none, rv 191, iv 414, iv 108, sv "/claim/cut.py" 415] }),
  (193, { cls := .type "function", data := .func { name := "sides_of", qualname := "Judge.sides_of", params := fnArgs (inCls (stAt 18) 3), body := .stmts (fnBody (inCls (stAt 18) 3)), scope := fnScope (inCls (stAt 18) 3), globals := 3, closure := [], defaults := .none, kwdefaults := .none, pyModule := sv "alikeheap.papers" 328, code := rv 192 } }),
  (194, { cls := .type "tuple", data := .seq #[] }),
  (197, { cls := .type "code", data := .fields #[sv "sides" 417, sv "Judge.sides" 418, sv "/claim/cut.py" 419, iv 124, iv 2, iv 0, iv 0, iv 3, rv 194, .bool true, iv 181, rv 195, .none, .none, .none, rv 196, iv 420, iv 124, sv "/claim/cut.py" 421] }),
  (198, { cls := .type "function", data := .func { name := "sides", qualname := "Judge.sides", params := fnArgs (inCls (stAt 18) 4), body := .stmts (fnBody (inCls (stAt 18) 4)), scope := fnScope (inCls (stAt 18) 4), globals := 3, closure := [], defaults := .none, kwdefaults := .none, pyModule := sv "alikeheap.papers" 328, code := rv 197 } }),
  (199, { cls := .type "tuple", data := .seq #[] }),
  (201, { cls := .type "tuple", data := .seq #[sv "self" 426, sv "paper" 427] }),
  (202, { cls := .type "tuple", data := .seq #[] }),
  (204, { cls := .type "code", data := .fields #[sv "count" 423, sv "Judge.count" 424, sv "/claim/cut.py" 425, iv 131, iv 2, iv 0, iv 0, iv 3, rv 199, .bool true, iv 181, rv 200, .none, rv 201, rv 202, rv 203, iv 428, iv 131, sv "/claim/cut.py" 429] }),
  (205, { cls := .type "function", data := .func { name := "count", qualname := "Judge.count", params := fnArgs (inCls (stAt 18) 5), body := .stmts (fnBody (inCls (stAt 18) 5)), scope := fnScope (inCls (stAt 18) 5), globals := 3, closure := [], defaults := .none, kwdefaults := .none, pyModule := sv "alikeheap.papers" 328, code := rv 204 } }),
  (206, { cls := .type "tuple", data := .seq #[sv "rules" 431, sv "told" 432] }),
  (207, { cls := .type "dict", data := .dict #[{ hash := kh P "__module__", key := sv "__module__" 382, val := sv "alikeheap.papers" 328 }, { hash := kh P "__firstlineno__", key := sv "__firstlineno__" 386, val := Value.int 86 385 }, { hash := kh P "__init__", key := sv "__init__" 395, val := rv 176 }, { hash := kh P "told_sides", key := sv "told_sides" 404, val := rv 183 }, { hash := kh P "rule_sides", key := sv "rule_sides" 410, val := rv 188 }, { hash := kh P "sides_of", key := sv "sides_of" 416, val := rv 193 }, { hash := kh P "sides", key := sv "sides" 422, val := rv 198 }, { hash := kh P "count", key := sv "count" 430, val := rv 205 }, { hash := kh P "__static_attributes__", key := sv "__static_attributes__" 433, val := rv 206 }, { hash := kh P "__dict__", key := sv "__dict__" 435, val := rv 209 }, { hash := kh P "__weakref__", key := sv "__weakref__" 437, val := rv 210 }, { hash := kh P "__doc__", key := sv "__doc__" 438, val := .none }] 4 }),
  (208, { cls := .type "type", data := .cls { name := "Judge", bases := [.type "object"], mro := [rv 208, .type "object"], ns := 207, qualname := "Judge" }, slots := #[none, none, some (sv "Judge" 375), some (sv "Judge" 383), some (.builtin "object.__new__"), some (.bool true)] }),
  (209, { cls := .type "getset_descriptor", data := .fields #[sv "__dict__" 434, rv 208, .builtin "function.__dict__", .builtin "function.__dict__#set"] }),
  (210, { cls := .type "getset_descriptor", data := .fields #[sv "__weakref__" 436, rv 208, .builtin "ExceptionGroup.__weakref__", .none] }),
  (220, { cls := .type "tuple", data := .seq #[] }),
  (223, { cls := .type "code", data := .fields #[sv "__init__" 455, sv "Rule.__init__" 456, sv "/claim/cut.py" 457, iv 136, iv 5, iv 0, iv 0, iv 3, rv 220, .bool true, iv 181, rv 221, .none, .none, .none, rv 222, iv 458, iv 136, sv "/claim/cut.py" 459] }),
  (224, { cls := .type "function", data := .func { name := "__init__", qualname := "Rule.__init__", params := fnArgs (inCls (stAt 20) 0), body := .stmts (fnBody (inCls (stAt 20) 0)), scope := fnScope (inCls (stAt 20) 0), globals := 3, closure := [], defaults := .none, kwdefaults := .none, pyModule := sv "alikeheap.rules" 441, code := rv 223 } }),
  (225, { cls := .type "tuple", data := .seq #[] }),
  (227, { cls := .type "tuple", data := .seq #[sv "self" 464] }),
  (228, { cls := .type "tuple", data := .seq #[] }),
  (230, { cls := .type "code", data := .fields #[sv "turned" 461, sv "Rule.turned" 462, sv "/claim/cut.py" 463, iv 152, iv 1, iv 0, iv 0, iv 3, rv 225, .bool true, iv 181, rv 226, .none, rv 227, rv 228, rv 229, iv 465, iv 152, sv "/claim/cut.py" 466] }),
  (231, { cls := .type "function", data := .func { name := "turned", qualname := "Rule.turned", params := fnArgs (inCls (stAt 20) 1), body := .stmts (fnBody (inCls (stAt 20) 1)), scope := fnScope (inCls (stAt 20) 1), globals := 3, closure := [], defaults := .none, kwdefaults := .none, pyModule := sv "alikeheap.rules" 441, code := rv 230 } }),
  (232, { cls := .type "tuple", data := .seq #[sv "left" 468, sv "name" 469, sv "needs" 470, sv "right" 471] }),
  (233, { cls := .type "dict", data := .dict #[{ hash := kh P "__module__", key := sv "__module__" 450, val := sv "alikeheap.rules" 441 }, { hash := kh P "__firstlineno__", key := sv "__firstlineno__" 454, val := Value.int 134 453 }, { hash := kh P "__init__", key := sv "__init__" 460, val := rv 224 }, { hash := kh P "turned", key := sv "turned" 467, val := rv 231 }, { hash := kh P "__static_attributes__", key := sv "__static_attributes__" 472, val := rv 232 }, { hash := kh P "__dict__", key := sv "__dict__" 474, val := rv 235 }, { hash := kh P "__weakref__", key := sv "__weakref__" 476, val := rv 236 }, { hash := kh P "__doc__", key := sv "__doc__" 477, val := .none }] 4 }),
  (234, { cls := .type "type", data := .cls { name := "Rule", bases := [.type "object"], mro := [rv 234, .type "object"], ns := 233, qualname := "Rule" }, slots := #[none, none, some (sv "Rule" 443), some (sv "Rule" 451), some (.builtin "object.__new__"), some (.bool true)] }),
  (235, { cls := .type "getset_descriptor", data := .fields #[sv "__dict__" 473, rv 234, .builtin "function.__dict__", .builtin "function.__dict__#set"] }),
  (236, { cls := .type "getset_descriptor", data := .fields #[sv "__weakref__" 475, rv 234, .builtin "ExceptionGroup.__weakref__", .none] }),
  (239, { cls := .type "tuple", data := .seq #[sv "a" 482] }),
  (240, { cls := .type "tuple", data := .seq #[sv "b" 483] }),
  (241, { cls := .type "tuple", data := .seq #[sv "b" 485] }),
  (242, { cls := .type "tuple", data := .seq #[sv "f" 484, rv 241] }),
  (243, { cls := .type "tuple", data := .seq #[sv "a" 487] }),
  (244, { cls := .type "tuple", data := .seq #[sv "c" 488] }),
  (245, { cls := .type "tuple", data := .seq #[sv "g" 486, rv 243, rv 244] }),
  (246, { cls := .type "tuple", data := .seq #[rv 239, rv 240, rv 242, rv 245] }),
  (247, { cls := .type "tuple", data := .seq #[] }),
  (249, { cls := .type "tuple", data := .seq #[sv "feed" 493, sv "many" 494, sv "at" 495] }),
  (250, { cls := .type "tuple", data := .seq #[] }),
  (252, { cls := .type "code", data := .fields #[sv "_law_pick" 490, sv "_law_pick" 491, sv "/claim/cut.py" 492, iv 156, iv 2, iv 0, iv 0, iv 3, rv 247, .bool true, iv 181, rv 248, .none, rv 249, rv 250, rv 251, iv 496, iv 156, sv "/claim/cut.py" 497] }),
  (253, { cls := .type "function", data := .func { name := "_law_pick", qualname := "_law_pick", params := fnArgs (stAt 23), body := .stmts (fnBody (stAt 23)), scope := fnScope (stAt 23), globals := 3, closure := [], defaults := .none, kwdefaults := .none, pyModule := sv "law_rg0114_01" 480, code := rv 252 } }),
  (254, { cls := .type "tuple", data := .seq #[] }),
  (257, { cls := .type "code", data := .fields #[sv "_law_pattern" 499, sv "_law_pattern" 500, sv "/claim/cut.py" 501, iv 160, iv 3, iv 0, iv 0, iv 3, rv 254, .bool true, iv 181, rv 255, .none, .none, .none, rv 256, iv 502, iv 160, sv "/claim/cut.py" 503] }),
  (258, { cls := .type "function", data := .func { name := "_law_pattern", qualname := "_law_pattern", params := fnArgs (stAt 24), body := .stmts (fnBody (stAt 24)), scope := fnScope (stAt 24), globals := 3, closure := [], defaults := .none, kwdefaults := .none, pyModule := sv "law_rg0114_01" 480, code := rv 257 } }),
  (259, { cls := .type "tuple", data := .seq #[] }),
  (262, { cls := .type "code", data := .fields #[sv "_law_names" 505, sv "_law_names" 506, sv "/claim/cut.py" 507, iv 166, iv 1, iv 0, iv 0, iv 3, rv 259, .bool true, iv 181, rv 260, .none, .none, .none, rv 261, iv 508, iv 166, sv "/claim/cut.py" 509] }),
  (263, { cls := .type "function", data := .func { name := "_law_names", qualname := "_law_names", params := fnArgs (stAt 25), body := .stmts (fnBody (stAt 25)), scope := fnScope (stAt 25), globals := 3, closure := [], defaults := .none, kwdefaults := .none, pyModule := sv "law_rg0114_01" 480, code := rv 262 } }),
  (264, { cls := .type "tuple", data := .seq #[] }),
  (267, { cls := .type "code", data := .fields #[sv "_law_is_read" 511, sv "_law_is_read" 512, sv "/claim/cut.py" 513, iv 173, iv 3, iv 0, iv 0, iv 3, rv 264, .bool true, iv 181, rv 265, .none, .none, .none, rv 266, iv 514, iv 173, sv "/claim/cut.py" 515] }),
  (268, { cls := .type "function", data := .func { name := "_law_is_read", qualname := "_law_is_read", params := fnArgs (stAt 26), body := .stmts (fnBody (stAt 26)), scope := fnScope (stAt 26), globals := 3, closure := [], defaults := .none, kwdefaults := .none, pyModule := sv "law_rg0114_01" 480, code := rv 267 } }),
  (269, { cls := .type "tuple", data := .seq #[] }),
  (271, { cls := .type "tuple", data := .seq #[sv "feed" 520, sv "places" 521, sv "way" 522, sv "spot" 523] }),
  (272, { cls := .type "tuple", data := .seq #[] }),
  (274, { cls := .type "code", data := .fields #[sv "_law_bent" 517, sv "_law_bent" 518, sv "/claim/cut.py" 519, iv 179, iv 2, iv 0, iv 0, iv 3, rv 269, .bool true, iv 181, rv 270, .none, rv 271, rv 272, rv 273, iv 524, iv 179, sv "/claim/cut.py" 525] }),
  (275, { cls := .type "function", data := .func { name := "_law_bent", qualname := "_law_bent", params := fnArgs (stAt 27), body := .stmts (fnBody (stAt 27)), scope := fnScope (stAt 27), globals := 3, closure := [], defaults := .none, kwdefaults := .none, pyModule := sv "law_rg0114_01" 480, code := rv 274 } }),
  (276, { cls := .type "tuple", data := .seq #[] }),
  (278, { cls := .type "tuple", data := .seq #[sv "judge" 530, sv "name" 531, sv "places" 532, sv "place" 533, sv "fault" 534] }),
  (279, { cls := .type "tuple", data := .seq #[] }),
  (281, { cls := .type "code", data := .fields #[sv "_law_told" 527, sv "_law_told" 528, sv "/claim/cut.py" 529, iv 193, iv 4, iv 0, iv 0, iv 3, rv 276, .bool true, iv 181, rv 277, .none, rv 278, rv 279, rv 280, iv 535, iv 193, sv "/claim/cut.py" 536] }),
  (282, { cls := .type "function", data := .func { name := "_law_told", qualname := "_law_told", params := fnArgs (stAt 28), body := .stmts (fnBody (stAt 28)), scope := fnScope (stAt 28), globals := 3, closure := [], defaults := .none, kwdefaults := .none, pyModule := sv "law_rg0114_01" 480, code := rv 281 } }),
  (283, { cls := .type "tuple", data := .seq #[] }),
  (286, { cls := .type "code", data := .fields #[sv "law" 538, sv "law" 539, sv "/claim/cut.py" 540, iv 198, iv 1, iv 0, iv 0, iv 3, rv 283, .bool true, iv 181, rv 284, .none, .none, .none, rv 285, iv 541, iv 198, sv "/claim/cut.py" 542] }),
  (287, { cls := .type "function", data := .func { name := "law", qualname := "law", params := fnArgs (stAt 29), body := .stmts (fnBody (stAt 29)), scope := fnScope (stAt 29), globals := 3, closure := [], defaults := .none, kwdefaults := .none, pyModule := sv "law_rg0114_01" 480, code := rv 286 } })]
def adds : List Nat := [2, 3, 15, 17, 18, 20, 21, 22, 25, 30, 31, 33, 34, 36, 37, 38, 40, 41, 43, 44, 45, 46, 47, 48, 51, 58, 59, 60, 63, 70, 71, 72, 75, 78, 83, 84, 86, 87, 89, 90, 91, 93, 94, 96, 97, 98, 99, 100, 103, 105, 106, 108, 109, 110, 113, 114, 115, 118, 119, 120, 123, 124, 125, 127, 128, 130, 131, 132, 134, 135, 137, 138, 139, 142, 143, 144, 146, 147, 149, 150, 151, 154, 155, 156, 158, 159, 161, 162, 170, 172, 173, 175, 176, 177, 179, 180, 182, 183, 184, 187, 188, 189, 192, 193, 194, 197, 198, 199, 201, 202, 204, 205, 206, 207, 208, 209, 210, 220, 223, 224, 225, 227, 228, 230, 231, 232, 233, 234, 235, 236, 239, 240, 241, 242, 243, 244, 245, 246, 247, 249, 250, 252, 253, 254, 257, 258, 259, 262, 263, 264, 267, 268, 269, 271, 272, 274, 275, 276, 278, 279, 281, 282, 283, 286, 287]
/-- the text without its lines of a name -/
noncomputable def view_39 : Program := view PySem.Challenge.pw_rg0114_01 [0, 2, 3, 4, 5, 7, 8, 9, 10, 12, 13, 14, 15, 16, 17, 18, 20, 22, 23, 24, 25, 26, 27, 28, 29]
end hd
end Mine
end
section
/-! base: states, ambient, frames -/
open PySem PySem.W PyProof.Rows PySem.Calls
set_option autoImplicit false
namespace Rg
abbrev PR : Program := PySem.Challenge.rw_rg0114_01.row.prog
noncomputable abbrev KF (w : World) : Frag := Mine.hd.heap_39 w.params
@[reducible] def upd (s : Shared) (h : Heap) (t : Nat) : Shared := { s with heap := h, toks := t }

structure Amb (A : Around) (d u : Nat) : Prop where
  handled : A.handled = none
  depth : A.depth + d < recursionLimit
  units : A.units + u < cLine
theorem Amb.mono {A : Around} {d u d' u' : Nat} (a : Amb A d u) (hd : d' ≤ d) (hu : u' ≤ u) : Amb A d' u' :=
  ⟨a.handled, Nat.lt_of_le_of_lt (Nat.add_le_add_left hd _) a.depth, Nat.lt_of_le_of_lt (Nat.add_le_add_left hu _) a.units⟩
theorem Amb.deeper {A : Around} {d u : Nat} {env : Env} (a : Amb A (d + 1) (u + 3)) : Amb (A.deeper env) d u :=
  ⟨a.handled, by have := a.depth; show A.depth + 1 + d < _; omega, by have := a.units; show A.units + 3 + u < _; omega⟩
theorem Amb.in1 {A : Around} {d u : Nat} (a : Amb A d (u + 1)) : Amb A.in1 d u :=
  ⟨a.handled, a.depth, by have := a.units; show A.units + 1 + u < _; omega⟩
theorem Amb.room {A : Around} {d u : Nat} (a : Amb A d u) : A.depth < recursionLimit := Nat.lt_of_le_of_lt (Nat.le_add_right _ _) a.depth
theorem Amb.hu {A : Around} {d u : Nat} (a : Amb A d u) : A.units < cLine := Nat.lt_of_le_of_lt (Nat.le_add_right _ _) a.units

/-- all of h stands in h' -/
def Le (h h' : Heap) : Prop := ∀ b o, h.get? b = some o → h'.get? b = some o
theorem Le.refl (h : Heap) : Le h h := fun _ _ e => e
theorem Le.trans {a b c : Heap} (x : Le a b) (y : Le b c) : Le a c := fun p o e => y p o (x p o e)
theorem Le.push (h : Heap) (o : Obj) : Le h (h.push o) := fun _ _ e => Heap.get?_push_of_some _ e
/-- all of h but X stands in h' -/
def LeX (X : List Addr) (h h' : Heap) : Prop := ∀ b o, b ∉ X → h.get? b = some o → h'.get? b = some o
theorem Le.toX {X : List Addr} {h h' : Heap} (x : Le h h') : LeX X h h' := fun b o _ e => x b o e
theorem LeX.le {h h' : Heap} (x : LeX [] h h') : Le h h' := fun b o e => x b o (by simp) e
theorem LeX.refl (X : List Addr) (h : Heap) : LeX X h h := fun _ _ _ e => e
theorem LeX.trans {X : List Addr} {a b c : Heap} (x : LeX X a b) (y : LeX X b c) : LeX X a c := fun p o n e => y p o n (x p o n e)
theorem LeX.mono {X Y : List Addr} {h h' : Heap} (x : LeX X h h') (k : ∀ a ∈ X, a ∈ Y) : LeX Y h h' := fun b o n e => x b o (fun q => n (k b q)) e
theorem le_of_sameBut {a : Addr} {h h' : Heap} (x : Heap.SameBut a h h') : LeX [a] h h' := fun b o n e => (x.2 b (by simpa using n)).trans e
/-- g grows to g' by objects at n and above -/
structure Grow (n : Nat) (g g' : Heap) : Prop where
  le : Le g g'
  new : ∀ b o, g'.get? b = some o → g.get? b = some o ∨ n ≤ b
theorem Grow.refl (n : Nat) (g : Heap) : Grow n g g := ⟨Le.refl g, fun _ _ e => .inl e⟩
theorem Grow.trans {n n' : Nat} {a b c : Heap} (x : Grow n a b) (y : Grow n' b c) (h : n ≤ n') : Grow n a c :=
  ⟨x.le.trans y.le, fun p o e => (y.new p o e).elim (fun e' => x.new p o e') fun e' => .inr (Nat.le_trans h e')⟩
theorem Grow.weaken {n n' : Nat} {a b : Heap} (x : Grow n a b) (h : n' ≤ n) : Grow n' a b := ⟨x.le, fun p o e => (x.new p o e).imp id fun e' => Nat.le_trans h e'⟩

/-- the part of h at the addresses of p -/
noncomputable def restr (h : Heap) (p : Addr → Prop) : Heap := open Classical in
  hideAll h ((List.range h.objs.size).filter fun a => decide (¬ p a))
theorem restr_get {h : Heap} {p : Addr → Prop} {a : Addr} {o : Obj} : (restr h p).get? a = some o ↔ h.get? a = some o ∧ p a := by
  classical
  unfold restr
  constructor
  · intro e
    have e1 := of_hideAll _ e
    refine ⟨e1, ?_⟩
    by_cases hp : p a
    · exact hp
    · have : (hideAll h ((List.range h.objs.size).filter fun a => decide (¬ p a))).get? a = none :=
        hideAll_none _ (List.mem_filter.mpr ⟨List.mem_range.mpr (Heap.lt_size e1), by simpa using hp⟩)
      have e' : (hideAll h ((List.range h.objs.size).filter fun a => decide (¬ p a))).get? a = some o := e
      rw [this] at e'; cases e'
  · rintro ⟨e, hp⟩
    exact hideAll_get _ e fun m => by
      have := (List.mem_filter.mp m).2
      simp [hp] at this
/-- g and the object at a -/
theorem grow_one {g h : Heap} {a : Addr} {o : Obj} {n : Nat} (k : Le g h) (e : h.get? a = some o) (hn : n ≤ a) : ∃ g', Grow n g g' ∧ Le g' h ∧ g'.get? a = some o :=
  ⟨restr h fun b => (∃ x, g.get? b = some x) ∨ b = a, ⟨fun b x e' => restr_get.mpr ⟨k b x e', .inl ⟨x, e'⟩⟩, fun b x e' => by
      obtain ⟨e1, q | q⟩ := restr_get.mp e'
      · obtain ⟨y, hy⟩ := q
        have := k b y hy
        rw [e1] at this; cases this; exact .inl hy
      · exact .inr (q ▸ hn)⟩, fun b x e' => (restr_get.mp e').1, restr_get.mpr ⟨e, .inr rfl⟩⟩

/-- the top: the text's own objects -/
structure Bs (w : World) (mg mb : Str → Option Value) (H : Heap) : Prop where
  K : (KF w).In H
  T : TopRead Mine.hd.view_39 (looseW Mine.hd.view_39 []) mg mb H
theorem Bs.le {w : World} {mg mb : Str → Option Value} {H H' : Heap} (b : Bs w mg mb H) (k : Le H H') : Bs w mg mb H' := ⟨b.K.keeps k, b.T.keeps k⟩

/-- what is said of an environment -/
structure EnvF (env : Env) (names : List (Str × NameKind)) (cl : List (Str × Addr)) (L : Addr) : Prop where
  names : env.scope.names = names
  kind : env.scope.kind = .function
  cells : env.cells = cl
  loc : env.locals = L
  glob : env.globals = mainGlobals
  blt : env.builtins = builtinsNs
theorem EnvF.kindOf {env : Env} {names cl L} (E : EnvF env names cl L) (x : Str) : env.kindOf x = names.lookup x := by rw [← E.names]; rfl


structure Cx where
  H0 : Heap
  h₀ : Heap
  g₀ : Heap
  X : List Addr

/-- a frame: locals m at L, cells cm at cl, volatile objects vol, the stable part g of h -/
structure Frm (c : Cx) (L : Addr) (cl : List (Str × Addr)) (m cm : Str → Option Value) (vol : List (Addr × (Obj → Prop))) (g h : Heap) : Prop where
  ns : h.Ns L m
  cell : ∀ n a, (n, a) ∈ cl → h.IsCell a (cm n)
  nod : (cl.map (·.1)).Nodup
  apart : cl.Pairwise fun x y => x.2 ≠ y.2
  keep : Le g h
  offL : g.get? L = none
  offC : ∀ n a, (n, a) ∈ cl → g.get? a = none ∧ a ≠ L
  volat : ∀ p ∈ vol, (∃ o, h.get? p.1 = some o ∧ p.2 o) ∧ g.get? p.1 = none ∧ p.1 ≠ L ∧ (∀ n a, (n, a) ∈ cl → a ≠ p.1) ∧ (p.1 ∈ c.X ∨ c.h₀.objs.size ≤ p.1)
  vap : (vol.map (·.1)).Pairwise (· ≠ ·)
  k0 : Le c.H0 g
  k0L : c.H0.objs.size ≤ L
  old : LeX c.X c.h₀ h
  freshL : c.h₀.objs.size ≤ L
  gr : Grow c.h₀.objs.size c.g₀ g

section
variable {c : Cx} {L : Addr} {cl : List (Str × Addr)} {m m' cm : Str → Option Value} {vol : List (Addr × (Obj → Prop))} {g g' h h' : Heap}

theorem none_of_ge {h : Heap} {a : Addr} (q : h.objs.size ≤ a) : h.get? a = none := by
  cases e : h.get? a with
  | none => rfl
  | some o => exact absurd (Heap.lt_size e) (Nat.not_lt.mpr q)
theorem none_of_le {g h : Heap} {a : Addr} (k : Le g h) (q : h.get? a = none) : g.get? a = none := by
  cases e : g.get? a with
  | none => rfl
  | some o => rw [k a o e] at q; cases q
theorem Frm.sz (F : Frm c L cl m cm vol g h) : c.h₀.objs.size ≤ h.objs.size := Nat.le_of_lt (Nat.lt_of_le_of_lt F.freshL F.ns.lt)
theorem ns_le {h h' : Heap} {L : Addr} {m : Str → Option Value} (x : h.Ns L m) (k : Le h h') : h'.Ns L m := x.keeps k
theorem Frm.clt (F : Frm c L cl m cm vol g h) {n : Str} {a : Addr} (e : (n, a) ∈ cl) : a < h.objs.size := (F.cell n a e).lt
theorem Frm.liveL (F : Frm c L cl m cm vol g h) : ∃ o, h.get? L = some o := let ⟨o, _, _, e, _⟩ := F.ns; ⟨o, e⟩

theorem Frm.vlt (F : Frm c L cl m cm vol g h) (p : Addr × (Obj → Prop)) (hp : p ∈ vol) : p.1 < h.objs.size := let ⟨_, e, _⟩ := (F.volat p hp).1; Heap.lt_size e
/-- all of h kept, but the objects of Y, that are none of ours -/
theorem Frm.extX {Y : List Addr} (F : Frm c L cl m cm vol g h) (k : LeX Y h h') (hY : ∀ a ∈ Y, g.get? a = none ∧ a ≠ L ∧ (∀ n b, (n, b) ∈ cl → b ≠ a) ∧ (∀ p ∈ vol, p.1 ≠ a) ∧ (a ∈ c.X ∨ c.h₀.objs.size ≤ a)) : Frm c L cl m cm vol g h' where
  ns := F.ns.at' fun o e => k L o (fun q => (hY _ q).2.1 rfl) e
  cell := fun n a e => let ⟨o, ho, hd⟩ := F.cell n a e; ⟨o, k a o (fun q => (hY _ q).2.2.1 n a e rfl) ho, hd⟩
  nod := F.nod
  apart := F.apart
  keep := fun b o e => k b o (fun q => by rw [(hY _ q).1] at e; cases e) (F.keep b o e)
  offL := F.offL
  offC := F.offC
  volat := fun p hp => ⟨let ⟨o, e, r⟩ := (F.volat p hp).1; ⟨o, k _ _ (fun q => (hY _ q).2.2.2.1 p hp rfl) e, r⟩, (F.volat p hp).2⟩
  vap := F.vap
  k0 := F.k0
  k0L := F.k0L
  old := fun b o n e => k b o (fun q => (hY _ q).2.2.2.2.elim n fun q' => absurd (Heap.lt_size e) (Nat.not_lt.mpr q')) (F.old b o n e)
  freshL := F.freshL
  gr := F.gr
theorem Frm.ext (F : Frm c L cl m cm vol g h) (k : Le h h') : Frm c L cl m cm vol g h' := F.extX (Y := []) k.toX (by simp)
/-- new stable objects -/
theorem Frm.grow {n : Nat} (F : Frm c L cl m cm vol g h) (G : Grow n g g') (hn : h.objs.size ≤ n) (k : Le h h') (k' : Le g' h') : Frm c L cl m cm vol g' h' :=
  have off : ∀ a, a < h.objs.size → g.get? a = none → g'.get? a = none := fun a ha e => by
    cases q : g'.get? a with
    | none => rfl
    | some o => exact (G.new a o q).elim (fun q' => by rw [e] at q'; cases q') fun q' => absurd (Nat.lt_of_lt_of_le ha hn) (Nat.not_lt.mpr q')
  let F' := F.ext k
  { F' with
    keep := k'
    offL := off L F.ns.lt F.offL
    offC := fun n a e => ⟨off a (F.clt e) (F.offC n a e).1, (F'.offC n a e).2⟩
    volat := fun p hp => ⟨(F'.volat p hp).1, off _ (F.vlt p hp) (F.volat p hp).2.1, (F'.volat p hp).2.2⟩
    k0 := F.k0.trans G.le
    gr := F.gr.trans G (Nat.le_trans F.sz hn) }
/-- a new volatile object -/
theorem Frm.vpush {a : Addr} {p : Obj → Prop} (F : Frm c L cl m cm vol g h) (k : Le h h') (e : ∃ o, h'.get? a = some o ∧ p o) (ha : h.objs.size ≤ a) : Frm c L cl m cm ((a, p) :: vol) g h' :=
  let F' := F.ext k
  { F' with
    volat := fun p hp => by
      rcases List.mem_cons.mp hp with rfl | hp
      · exact ⟨e, none_of_le F.keep (none_of_ge ha), Nat.ne_of_gt (Nat.lt_of_lt_of_le F.ns.lt ha), fun n b hb q => absurd (F.clt hb) (Nat.not_lt.mpr (q ▸ ha)), .inr (Nat.le_trans F.sz ha)⟩
      · exact F'.volat p hp
    vap := by
      rw [List.map_cons]
      exact List.pairwise_cons.mpr ⟨fun b hb q => by
        obtain ⟨p, hp, rfl⟩ := List.mem_map.mp hb
        exact absurd (F.vlt p hp) (Nat.not_lt.mpr (q ▸ ha)), F.vap⟩ }
theorem Frm.vdrop {pre : List (Addr × (Obj → Prop))} (F : Frm c L cl m cm (pre ++ vol) g h) : Frm c L cl m cm vol g h :=
  { F with
    volat := fun p hp => F.volat p (List.mem_append_right _ hp)
    vap := by have := F.vap; rw [List.map_append] at this; exact (List.pairwise_append.mp this).2.1 }
/-- a volatile object turned -/
theorem Frm.vset {a : Addr} {p₁ p₂ : Obj → Prop} {pre post : List (Addr × (Obj → Prop))} (F : Frm c L cl m cm (pre ++ (a, p₁) :: post) g h) (k : LeX [a] h h') (e : ∃ o, h'.get? a = some o ∧ p₂ o) :
    Frm c L cl m cm (pre ++ (a, p₂) :: post) g h' := by
  have A := F.volat (a, p₁) (by simp)
  have vap := F.vap
  simp only [List.map_append, List.map_cons] at vap
  have d := List.pairwise_append.mp vap
  have d2 := List.pairwise_cons.mp d.2.1
  have F0 : Frm c L cl m cm (pre ++ post) g h := { F with
    volat := fun p hp => F.volat p (by rcases List.mem_append.mp hp with q | q <;> simp [q])
    vap := by rw [List.map_append]; exact List.pairwise_append.mpr ⟨d.1, d2.2, fun x hx y hy => d.2.2 x hx y (List.mem_cons_of_mem _ hy)⟩ }
  have ne : ∀ p ∈ pre ++ post, p.1 ≠ a := fun p hp q => by
    rcases List.mem_append.mp hp with hp | hp
    · exact d.2.2 p.1 (List.mem_map_of_mem hp) a (.head _) q
    · exact d2.1 p.1 (List.mem_map_of_mem hp) q.symm
  have F' := F0.extX k (fun b hb => by
    rw [List.mem_singleton.mp hb]
    exact ⟨A.2.1, A.2.2.1, A.2.2.2.1, ne, A.2.2.2.2⟩)
  exact { F' with
    volat := fun p hp => by
      rcases List.mem_append.mp hp with q | q
      · exact F'.volat p (List.mem_append_left _ q)
      · rcases List.mem_cons.mp q with rfl | q
        · exact ⟨e, A.2⟩
        · exact F'.volat p (List.mem_append_right _ q)
    vap := by simpa [List.map_append] using vap }
/-- a volatile object becomes stable -/
theorem Frm.freeze {a : Addr} {p : Obj → Prop} {pre post : List (Addr × (Obj → Prop))} (F : Frm c L cl m cm (pre ++ (a, p) :: post) g h) (ha : c.h₀.objs.size ≤ a) :
    ∃ g', Le g g' ∧ (∃ o, g'.get? a = some o ∧ p o) ∧ Frm c L cl m cm (pre ++ post) g' h := by
  have A := F.volat (a, p) (by simp)
  have vap := F.vap
  simp only [List.map_append, List.map_cons] at vap
  have d := List.pairwise_append.mp vap
  have d2 := List.pairwise_cons.mp d.2.1
  have ne : ∀ p ∈ pre ++ post, p.1 ≠ a := fun p hp q => by
    rcases List.mem_append.mp hp with hp | hp
    · exact d.2.2 p.1 (List.mem_map_of_mem hp) a (.head _) q
    · exact d2.1 p.1 (List.mem_map_of_mem hp) q.symm
  refine ⟨restr h fun b => (∃ x, g.get? b = some x) ∨ b = a, fun b x e => restr_get.mpr ⟨F.keep b x e, .inl ⟨x, e⟩⟩, (let ⟨o, e, r⟩ := A.1; ⟨o, restr_get.mpr ⟨e, .inr rfl⟩, r⟩), ?_⟩
  have off : ∀ b, g.get? b = none → b ≠ a → (restr h fun b => (∃ x, g.get? b = some x) ∨ b = a).get? b = none := fun b e n => by
    cases q : (restr h fun b => (∃ x, g.get? b = some x) ∨ b = a).get? b with
    | none => rfl
    | some y =>
      obtain ⟨_, ⟨x, hx⟩ | q'⟩ := restr_get.mp q
      · rw [e] at hx; cases hx
      · exact absurd q' n
  exact { F with
    keep := fun b x e => (restr_get.mp e).1
    offL := off L F.offL (Ne.symm A.2.2.1)
    offC := fun n b hb => ⟨off b (F.offC n b hb).1 (A.2.2.2.1 n b hb), (F.offC n b hb).2⟩
    volat := fun p hp => by
      have P := F.volat p (by rcases List.mem_append.mp hp with q | q <;> simp [q])
      exact ⟨P.1, off _ P.2.1 (ne p hp), P.2.2⟩
    vap := by rw [List.map_append]; exact List.pairwise_append.mpr ⟨d.1, d2.2, fun x hx y hy => d.2.2 x hx y (List.mem_cons_of_mem _ hy)⟩
    k0 := F.k0.trans fun b x e => restr_get.mpr ⟨F.keep b x e, .inl ⟨x, e⟩⟩
    gr := ⟨F.gr.le.trans fun b x e => restr_get.mpr ⟨F.keep b x e, .inl ⟨x, e⟩⟩, fun b x e => by
      obtain ⟨e1, ⟨y, hy⟩ | q⟩ := restr_get.mp e
      · have := F.keep b y hy
        rw [e1] at this; cases this; exact F.gr.new b x hy
      · exact .inr (q ▸ ha)⟩ }
/-- a local stored -/
theorem Frm.setL (F : Frm c L cl m cm vol g h) (hn : h'.Ns L m') (hs : LeX [L] h h') : Frm c L cl m' cm vol g h' :=
  have k : ∀ b o, b ≠ L → h.get? b = some o → h'.get? b = some o := fun b o n e => hs b o (by simpa using n) e
  { ns := hn
    cell := fun n a e => let ⟨o, ho, hd⟩ := F.cell n a e; ⟨o, k a o (F.offC n a e).2 ho, hd⟩
    nod := F.nod
    apart := F.apart
    keep := fun b o e => k b o (fun q => by rw [q, F.offL] at e; cases e) (F.keep b o e)
    offL := F.offL
    offC := F.offC
    volat := fun p hp => ⟨let ⟨o, e, r⟩ := (F.volat p hp).1; ⟨o, k _ _ (F.volat p hp).2.2.1 e, r⟩, (F.volat p hp).2⟩
    vap := F.vap
    k0 := F.k0
    k0L := F.k0L
    old := fun b o n e => k b o (fun q => absurd (Heap.lt_size e) (Nat.not_lt.mpr (q ▸ F.freshL))) (F.old b o n e)
    freshL := F.freshL
    gr := F.gr }
/-- a cell stored -/
theorem Frm.setC {x : Str} {a : Addr} {v : Value} (F : Frm c L cl m cm vol g h) (hx : cl.lookup x = some a) (ha : c.h₀.objs.size ≤ a) (hc : h'.IsCell a (some v)) (hs : Heap.SameBut a h h') :
    Frm c L cl m (fun y => if y = x then some v else cm y) vol g h' where
  ns := F.ns.sameBut hs (Ne.symm (F.offC x a (mem_of_lookup hx)).2)
  cell := fun n b e => by
    by_cases q : n = x
    · subst q; have := (lookup_of_mem_nodup F.nod e).symm.trans hx; cases this; simpa using hc
    · rw [if_neg q]
      exact (F.cell n b e).sameBut hs fun z => q (name_of_addr F.apart e (z ▸ mem_of_lookup hx))
  nod := F.nod
  apart := F.apart
  keep := fun b o e => (hs.2 b fun q => by rw [q, (F.offC x a (mem_of_lookup hx)).1] at e; cases e).trans (F.keep b o e)
  offL := F.offL
  offC := F.offC
  volat := fun p hp => ⟨let ⟨o, e, r⟩ := (F.volat p hp).1; ⟨o, (hs.2 _ fun q => (F.volat p hp).2.2.2.1 x a (mem_of_lookup hx) q.symm).trans e, r⟩, (F.volat p hp).2⟩
  vap := F.vap
  k0 := F.k0
  k0L := F.k0L
  old := fun b o n e => (hs.2 b fun q => absurd (Heap.lt_size e) (Nat.not_lt.mpr (q ▸ ha))).trans (F.old b o n e)
  freshL := F.freshL
  gr := F.gr
end
end Rg
end
section
/-! the defs of the text as the top leaves them; entering a def -/
open PySem PySem.W PyProof.Rows PySem.Calls
set_option autoImplicit false
set_option maxRecDepth 100000
namespace Rg
noncomputable def fdAt (P : Params) (a : Addr) : FuncData := match (Mine.hd.heap_39 P).lookup a with
  | some ⟨_, _, .func f, _⟩ => f
  | _ => default
noncomputable def bodyAt (P : Params) (a : Addr) : List Stmt := match (fdAt P a).body with
  | .stmts b => b
  | _ => []
structure DefF (P : Params) (a : Addr) (names : List (Str × NameKind)) : Prop where
  at_ : (Mine.hd.heap_39 P).lookup a = some ⟨.type "function", none, .func (fdAt P a), #[]⟩
  body : (fdAt P a).body = .stmts (bodyAt P a)
  names : (fdAt P a).scope.names = names
  code : codeIn (Mine.hd.heap_39 P) (fdAt P a).code (fdAt P a).qualname = true
  clo : (fdAt P a).closure = []
  glob : (fdAt P a).globals = mainGlobals
  blt : (fdAt P a).builtins = builtinsNs
  co : (fdAt P a).scope.isCoroutine = false
  gen : (fdAt P a).scope.isGenerator = false
  kind : (fdAt P a).scope.kind = .function
abbrev N_pick : List (Str × NameKind) := [("feed", NameKind.local), ("many", NameKind.local), ("at", NameKind.local), ("len", NameKind.globalImplicit)]
theorem D_pick (P : Params) : DefF P 253 N_pick := ⟨by kernel_rfl, by kernel_rfl, by kernel_rfl, by kernel_rfl, by kernel_rfl, by kernel_rfl, by kernel_rfl, by kernel_rfl, by kernel_rfl, by kernel_rfl⟩
theorem A_pick (P : Params) (v0 v1 : Value) : bindArgs (fdAt P 253) ⟨[v0, v1], []⟩ = pure ([("feed", v0), ("many", v1)] : List (Str × Value)) := by kernel_rfl
abbrev N_pattern : List (Str × NameKind) := [("feed", NameKind.cell), ("floors", NameKind.cell), ("names", NameKind.cell), ("way", NameKind.local), ("kind", NameKind.local), ("_law_pick", NameKind.globalImplicit), ("len", NameKind.globalImplicit), ("tuple", NameKind.globalImplicit), ("range", NameKind.globalImplicit)]
theorem D_pattern (P : Params) : DefF P 258 N_pattern := ⟨by kernel_rfl, by kernel_rfl, by kernel_rfl, by kernel_rfl, by kernel_rfl, by kernel_rfl, by kernel_rfl, by kernel_rfl, by kernel_rfl, by kernel_rfl⟩
theorem A_pattern (P : Params) (v0 v1 v2 : Value) : bindArgs (fdAt P 258) ⟨[v0, v1, v2], []⟩ = pure ([("feed", v0), ("floors", v1), ("names", v2)] : List (Str × Value)) := by kernel_rfl
abbrev N_names : List (Str × NameKind) := [("pattern", NameKind.local), ("found", NameKind.cell), ("kid", NameKind.local), ("_law_names", NameKind.globalImplicit), ("sorted", NameKind.globalImplicit)]
theorem D_names (P : Params) : DefF P 263 N_names := ⟨by kernel_rfl, by kernel_rfl, by kernel_rfl, by kernel_rfl, by kernel_rfl, by kernel_rfl, by kernel_rfl, by kernel_rfl, by kernel_rfl, by kernel_rfl⟩
theorem A_names (P : Params) (v0 : Value) : bindArgs (fdAt P 263) ⟨[v0], []⟩ = pure ([("pattern", v0)] : List (Str × Value)) := by kernel_rfl
abbrev N_isread : List (Str × NameKind) := [("pattern", NameKind.local), ("term", NameKind.local), ("table", NameKind.cell), ("len", NameKind.globalImplicit), ("zip", NameKind.globalImplicit)]
theorem D_isread (P : Params) : DefF P 268 N_isread := ⟨by kernel_rfl, by kernel_rfl, by kernel_rfl, by kernel_rfl, by kernel_rfl, by kernel_rfl, by kernel_rfl, by kernel_rfl, by kernel_rfl, by kernel_rfl⟩
theorem A_isread (P : Params) (v0 v1 v2 : Value) : bindArgs (fdAt P 268) ⟨[v0, v1, v2], []⟩ = pure ([("pattern", v0), ("term", v1), ("table", v2)] : List (Str × Value)) := by kernel_rfl
abbrev N_bent : List (Str × NameKind) := [("feed", NameKind.local), ("places", NameKind.local), ("way", NameKind.local), ("spot", NameKind.local), ("_law_pick", NameKind.globalImplicit), ("len", NameKind.globalImplicit)]
theorem D_bent (P : Params) : DefF P 275 N_bent := ⟨by kernel_rfl, by kernel_rfl, by kernel_rfl, by kernel_rfl, by kernel_rfl, by kernel_rfl, by kernel_rfl, by kernel_rfl, by kernel_rfl, by kernel_rfl⟩
theorem A_bent (P : Params) (v0 v1 : Value) : bindArgs (fdAt P 275) ⟨[v0, v1], []⟩ = pure ([("feed", v0), ("places", v1)] : List (Str × Value)) := by kernel_rfl
abbrev N_told : List (Str × NameKind) := [("judge", NameKind.local), ("name", NameKind.local), ("places", NameKind.local), ("place", NameKind.local), ("fault", NameKind.local), ("PaperFault", NameKind.globalImplicit)]
theorem D_told (P : Params) : DefF P 282 N_told := ⟨by kernel_rfl, by kernel_rfl, by kernel_rfl, by kernel_rfl, by kernel_rfl, by kernel_rfl, by kernel_rfl, by kernel_rfl, by kernel_rfl, by kernel_rfl⟩
theorem A_told (P : Params) (v0 v1 v2 v3 : Value) : bindArgs (fdAt P 282) ⟨[v0, v1, v2, v3], []⟩ = pure ([("judge", v0), ("name", v1), ("places", v2), ("place", v3)] : List (Str × Value)) := by kernel_rfl
abbrev N_isvar : List (Str × NameKind) := [("t", NameKind.local), ("len", NameKind.globalImplicit)]
theorem D_isvar (P : Params) : DefF P 109 N_isvar := ⟨by kernel_rfl, by kernel_rfl, by kernel_rfl, by kernel_rfl, by kernel_rfl, by kernel_rfl, by kernel_rfl, by kernel_rfl, by kernel_rfl, by kernel_rfl⟩
theorem A_isvar (P : Params) (v0 : Value) : bindArgs (fdAt P 109) ⟨[v0], []⟩ = pure ([("t", v0)] : List (Str × Value)) := by kernel_rfl
abbrev N_vars : List (Str × NameKind) := [("t", NameKind.local), ("sorted", NameKind.globalImplicit), ("set", NameKind.globalImplicit), ("parts", NameKind.globalImplicit)]
theorem D_vars (P : Params) : DefF P 114 N_vars := ⟨by kernel_rfl, by kernel_rfl, by kernel_rfl, by kernel_rfl, by kernel_rfl, by kernel_rfl, by kernel_rfl, by kernel_rfl, by kernel_rfl, by kernel_rfl⟩
theorem A_vars (P : Params) (v0 : Value) : bindArgs (fdAt P 114) ⟨[v0], []⟩ = pure ([("t", v0)] : List (Str × Value)) := by kernel_rfl
abbrev N_placed : List (Str × NameKind) := [("pattern", NameKind.local), ("table", NameKind.cell), ("is_variable", NameKind.globalImplicit), ("tuple", NameKind.globalImplicit), ("TermFault", NameKind.globalImplicit)]
theorem D_placed (P : Params) : DefF P 119 N_placed := ⟨by kernel_rfl, by kernel_rfl, by kernel_rfl, by kernel_rfl, by kernel_rfl, by kernel_rfl, by kernel_rfl, by kernel_rfl, by kernel_rfl, by kernel_rfl⟩
theorem A_placed (P : Params) (v0 v1 : Value) : bindArgs (fdAt P 119) ⟨[v0, v1], []⟩ = pure ([("pattern", v0), ("table", v1)] : List (Str × Value)) := by kernel_rfl
abbrev N_parts : List (Str × NameKind) := [("t", NameKind.local), ("found", NameKind.local), ("k", NameKind.cell), ("kid", NameKind.local), ("enumerate", NameKind.globalImplicit), ("parts", NameKind.globalImplicit)]
theorem D_parts (P : Params) : DefF P 124 N_parts := ⟨by kernel_rfl, by kernel_rfl, by kernel_rfl, by kernel_rfl, by kernel_rfl, by kernel_rfl, by kernel_rfl, by kernel_rfl, by kernel_rfl, by kernel_rfl⟩
theorem A_parts (P : Params) (v0 : Value) : bindArgs (fdAt P 124) ⟨[v0], []⟩ = pure ([("t", v0)] : List (Str × Value)) := by kernel_rfl
abbrev N_partsof : List (Str × NameKind) := [("paper", NameKind.local)]
theorem D_partsof (P : Params) : DefF P 131 N_partsof := ⟨by kernel_rfl, by kernel_rfl, by kernel_rfl, by kernel_rfl, by kernel_rfl, by kernel_rfl, by kernel_rfl, by kernel_rfl, by kernel_rfl, by kernel_rfl⟩
theorem A_partsof (P : Params) (v0 : Value) : bindArgs (fdAt P 131) ⟨[v0], []⟩ = pure ([("paper", v0)] : List (Str × Value)) := by kernel_rfl
abbrev N_plain : List (Str × NameKind) := [("thing", NameKind.local), ("waiting", NameKind.local), ("one", NameKind.local), ("len", NameKind.globalImplicit), ("isinstance", NameKind.globalImplicit), ("tuple", NameKind.globalImplicit), ("str", NameKind.globalImplicit)]
theorem D_plain (P : Params) : DefF P 138 N_plain := ⟨by kernel_rfl, by kernel_rfl, by kernel_rfl, by kernel_rfl, by kernel_rfl, by kernel_rfl, by kernel_rfl, by kernel_rfl, by kernel_rfl, by kernel_rfl⟩
theorem A_plain (P : Params) (v0 : Value) : bindArgs (fdAt P 138) ⟨[v0], []⟩ = pure ([("thing", v0)] : List (Str × Value)) := by kernel_rfl
abbrev N_places : List (Str × NameKind) := [("thing", NameKind.local), ("names", NameKind.local), ("isinstance", NameKind.globalImplicit), ("tuple", NameKind.globalImplicit), ("sorted", NameKind.globalImplicit), ("set", NameKind.globalImplicit)]
theorem D_places (P : Params) : DefF P 143 N_places := ⟨by kernel_rfl, by kernel_rfl, by kernel_rfl, by kernel_rfl, by kernel_rfl, by kernel_rfl, by kernel_rfl, by kernel_rfl, by kernel_rfl, by kernel_rfl⟩
theorem A_places (P : Params) (v0 : Value) : bindArgs (fdAt P 143) ⟨[v0], []⟩ = pure ([("thing", v0)] : List (Str × Value)) := by kernel_rfl
abbrev N_hasform : List (Str × NameKind) := [("thing", NameKind.local), ("kind", NameKind.local), ("many", NameKind.local), ("isinstance", NameKind.globalImplicit), ("tuple", NameKind.globalImplicit), ("len", NameKind.globalImplicit), ("str", NameKind.globalImplicit), ("is_plain_term", NameKind.globalImplicit), ("are_places", NameKind.globalImplicit)]
theorem D_hasform (P : Params) : DefF P 150 N_hasform := ⟨by kernel_rfl, by kernel_rfl, by kernel_rfl, by kernel_rfl, by kernel_rfl, by kernel_rfl, by kernel_rfl, by kernel_rfl, by kernel_rfl, by kernel_rfl⟩
theorem A_hasform (P : Params) (v0 : Value) : bindArgs (fdAt P 150) ⟨[v0], []⟩ = pure ([("thing", v0)] : List (Str × Value)) := by kernel_rfl
abbrev N_inorder : List (Str × NameKind) := [("paper", NameKind.local), ("found", NameKind.local), ("waiting", NameKind.local), ("path", NameKind.cell), ("one", NameKind.local), ("len", NameKind.globalImplicit), ("has_form", NameKind.globalImplicit), ("enumerate", NameKind.globalImplicit), ("parts_of", NameKind.globalImplicit)]
theorem D_inorder (P : Params) : DefF P 155 N_inorder := ⟨by kernel_rfl, by kernel_rfl, by kernel_rfl, by kernel_rfl, by kernel_rfl, by kernel_rfl, by kernel_rfl, by kernel_rfl, by kernel_rfl, by kernel_rfl⟩
theorem A_inorder (P : Params) (v0 : Value) : bindArgs (fdAt P 155) ⟨[v0], []⟩ = pure ([("paper", v0)] : List (Str × Value)) := by kernel_rfl
abbrev N_want : List (Str × NameKind) := [("paper", NameKind.local), ("path", NameKind.local), ("has_form", NameKind.globalImplicit), ("PaperFault", NameKind.globalImplicit)]
theorem D_want (P : Params) : DefF P 162 N_want := ⟨by kernel_rfl, by kernel_rfl, by kernel_rfl, by kernel_rfl, by kernel_rfl, by kernel_rfl, by kernel_rfl, by kernel_rfl, by kernel_rfl, by kernel_rfl⟩
theorem A_want (P : Params) (v0 v1 : Value) : bindArgs (fdAt P 162) ⟨[v0, v1], []⟩ = pure ([("paper", v0), ("path", v1)] : List (Str × Value)) := by kernel_rfl
abbrev N_jinit : List (Str × NameKind) := [("self", NameKind.local), ("rules", NameKind.local), ("told", NameKind.local)]
theorem D_jinit (P : Params) : DefF P 176 N_jinit := ⟨by kernel_rfl, by kernel_rfl, by kernel_rfl, by kernel_rfl, by kernel_rfl, by kernel_rfl, by kernel_rfl, by kernel_rfl, by kernel_rfl, by kernel_rfl⟩
theorem A_jinit (P : Params) (v0 v1 v2 : Value) : bindArgs (fdAt P 176) ⟨[v0, v1, v2], []⟩ = pure ([("self", v0), ("rules", v1), ("told", v2)] : List (Str × Value)) := by kernel_rfl
abbrev N_rsides : List (Str × NameKind) := [("self", NameKind.local), ("name", NameKind.local), ("places", NameKind.local), ("place", NameKind.local), ("rule", NameKind.local), ("PaperFault", NameKind.globalImplicit), ("variables", NameKind.globalImplicit), ("placed", NameKind.globalImplicit), ("dict", NameKind.globalImplicit), ("TermFault", NameKind.globalImplicit)]
theorem D_rsides (P : Params) : DefF P 188 N_rsides := ⟨by kernel_rfl, by kernel_rfl, by kernel_rfl, by kernel_rfl, by kernel_rfl, by kernel_rfl, by kernel_rfl, by kernel_rfl, by kernel_rfl, by kernel_rfl⟩
theorem A_rsides (P : Params) (v0 v1 v2 v3 : Value) : bindArgs (fdAt P 188) ⟨[v0, v1, v2, v3], []⟩ = pure ([("self", v0), ("name", v1), ("places", v2), ("place", v3)] : List (Str × Value)) := by kernel_rfl
abbrev N_sidesof : List (Str × NameKind) := [("self", NameKind.local), ("paper", NameKind.local), ("path", NameKind.local), ("sides", NameKind.local), ("kind", NameKind.local), ("PaperFault", NameKind.globalImplicit), ("tuple", NameKind.globalImplicit)]
theorem D_sidesof (P : Params) : DefF P 193 N_sidesof := ⟨by kernel_rfl, by kernel_rfl, by kernel_rfl, by kernel_rfl, by kernel_rfl, by kernel_rfl, by kernel_rfl, by kernel_rfl, by kernel_rfl, by kernel_rfl⟩
theorem A_sidesof (P : Params) (v0 v1 v2 v3 : Value) : bindArgs (fdAt P 193) ⟨[v0, v1, v2, v3], []⟩ = pure ([("self", v0), ("paper", v1), ("path", v2), ("sides", v3)] : List (Str × Value)) := by kernel_rfl
abbrev N_sides : List (Str × NameKind) := [("self", NameKind.local), ("paper", NameKind.local), ("known", NameKind.cell), ("path", NameKind.cell), ("one", NameKind.local), ("in_order", NameKind.globalImplicit), ("want_form", NameKind.globalImplicit), ("range", NameKind.globalImplicit), ("len", NameKind.globalImplicit), ("parts_of", NameKind.globalImplicit)]
theorem D_sides (P : Params) : DefF P 198 N_sides := ⟨by kernel_rfl, by kernel_rfl, by kernel_rfl, by kernel_rfl, by kernel_rfl, by kernel_rfl, by kernel_rfl, by kernel_rfl, by kernel_rfl, by kernel_rfl⟩
theorem A_sides (P : Params) (v0 v1 : Value) : bindArgs (fdAt P 198) ⟨[v0, v1], []⟩ = pure ([("self", v0), ("paper", v1)] : List (Str × Value)) := by kernel_rfl
abbrev N_rinit : List (Str × NameKind) := [("self", NameKind.local), ("name", NameKind.local), ("left", NameKind.local), ("right", NameKind.local), ("needs", NameKind.local), ("known", NameKind.cell), ("asked", NameKind.local), ("kind", NameKind.local), ("one", NameKind.local), ("other", NameKind.local), ("lost", NameKind.local), ("is_variable", NameKind.globalImplicit), ("RuleFault", NameKind.globalImplicit), ("variables", NameKind.globalImplicit), ("list", NameKind.globalImplicit), ("tuple", NameKind.globalImplicit)]
theorem D_rinit (P : Params) : DefF P 224 N_rinit := ⟨by kernel_rfl, by kernel_rfl, by kernel_rfl, by kernel_rfl, by kernel_rfl, by kernel_rfl, by kernel_rfl, by kernel_rfl, by kernel_rfl, by kernel_rfl⟩
theorem A_rinit (P : Params) (v0 v1 v2 v3 v4 : Value) : bindArgs (fdAt P 224) ⟨[v0, v1, v2, v3, v4], []⟩ = pure ([("self", v0), ("name", v1), ("left", v2), ("right", v3), ("needs", v4)] : List (Str × Value)) := by kernel_rfl
theorem G_law_pick (P : Params) : nsIn (Mine.hd.heap_39 P) mainGlobals "_law_pick" = some (some (.ref 253)) := by kernel_rfl
theorem G_law_pattern (P : Params) : nsIn (Mine.hd.heap_39 P) mainGlobals "_law_pattern" = some (some (.ref 258)) := by kernel_rfl
theorem G_law_names (P : Params) : nsIn (Mine.hd.heap_39 P) mainGlobals "_law_names" = some (some (.ref 263)) := by kernel_rfl
theorem G_law_is_read (P : Params) : nsIn (Mine.hd.heap_39 P) mainGlobals "_law_is_read" = some (some (.ref 268)) := by kernel_rfl
theorem G_law_bent (P : Params) : nsIn (Mine.hd.heap_39 P) mainGlobals "_law_bent" = some (some (.ref 275)) := by kernel_rfl
theorem G_law_told (P : Params) : nsIn (Mine.hd.heap_39 P) mainGlobals "_law_told" = some (some (.ref 282)) := by kernel_rfl
theorem G_is_variable (P : Params) : nsIn (Mine.hd.heap_39 P) mainGlobals "is_variable" = some (some (.ref 109)) := by kernel_rfl
theorem G_variables (P : Params) : nsIn (Mine.hd.heap_39 P) mainGlobals "variables" = some (some (.ref 114)) := by kernel_rfl
theorem G_placed (P : Params) : nsIn (Mine.hd.heap_39 P) mainGlobals "placed" = some (some (.ref 119)) := by kernel_rfl
theorem G_parts (P : Params) : nsIn (Mine.hd.heap_39 P) mainGlobals "parts" = some (some (.ref 124)) := by kernel_rfl
theorem G_parts_of (P : Params) : nsIn (Mine.hd.heap_39 P) mainGlobals "parts_of" = some (some (.ref 131)) := by kernel_rfl
theorem G_is_plain_term (P : Params) : nsIn (Mine.hd.heap_39 P) mainGlobals "is_plain_term" = some (some (.ref 138)) := by kernel_rfl
theorem G_are_places (P : Params) : nsIn (Mine.hd.heap_39 P) mainGlobals "are_places" = some (some (.ref 143)) := by kernel_rfl
theorem G_has_form (P : Params) : nsIn (Mine.hd.heap_39 P) mainGlobals "has_form" = some (some (.ref 150)) := by kernel_rfl
theorem G_in_order (P : Params) : nsIn (Mine.hd.heap_39 P) mainGlobals "in_order" = some (some (.ref 155)) := by kernel_rfl
theorem G_want_form (P : Params) : nsIn (Mine.hd.heap_39 P) mainGlobals "want_form" = some (some (.ref 162)) := by kernel_rfl
theorem G_Judge (P : Params) : nsIn (Mine.hd.heap_39 P) mainGlobals "Judge" = some (some (.ref 208)) := by kernel_rfl
theorem G_Rule (P : Params) : nsIn (Mine.hd.heap_39 P) mainGlobals "Rule" = some (some (.ref 234)) := by kernel_rfl
theorem G_PaperFault (P : Params) : nsIn (Mine.hd.heap_39 P) mainGlobals "PaperFault" = some (some (.ref 100)) := by kernel_rfl
theorem G_TermFault (P : Params) : nsIn (Mine.hd.heap_39 P) mainGlobals "TermFault" = some (some (.ref 60)) := by kernel_rfl
theorem G_RuleFault (P : Params) : nsIn (Mine.hd.heap_39 P) mainGlobals "RuleFault" = some (some (.ref 72)) := by kernel_rfl
theorem G_law_terms (P : Params) : nsIn (Mine.hd.heap_39 P) mainGlobals "_law_terms" = some (some (.ref 246)) := by kernel_rfl
theorem G0_len (P : Params) : nsIn (Mine.hd.heap_39 P) mainGlobals "len" = some none := by kernel_rfl
theorem G0_tuple (P : Params) : nsIn (Mine.hd.heap_39 P) mainGlobals "tuple" = some none := by kernel_rfl
theorem G0_range (P : Params) : nsIn (Mine.hd.heap_39 P) mainGlobals "range" = some none := by kernel_rfl
theorem G0_sorted (P : Params) : nsIn (Mine.hd.heap_39 P) mainGlobals "sorted" = some none := by kernel_rfl
theorem G0_zip (P : Params) : nsIn (Mine.hd.heap_39 P) mainGlobals "zip" = some none := by kernel_rfl
theorem G0_set (P : Params) : nsIn (Mine.hd.heap_39 P) mainGlobals "set" = some none := by kernel_rfl
theorem G0_isinstance (P : Params) : nsIn (Mine.hd.heap_39 P) mainGlobals "isinstance" = some none := by kernel_rfl
theorem G0_str (P : Params) : nsIn (Mine.hd.heap_39 P) mainGlobals "str" = some none := by kernel_rfl
theorem G0_enumerate (P : Params) : nsIn (Mine.hd.heap_39 P) mainGlobals "enumerate" = some none := by kernel_rfl
theorem G0_dict (P : Params) : nsIn (Mine.hd.heap_39 P) mainGlobals "dict" = some none := by kernel_rfl
theorem G0_list (P : Params) : nsIn (Mine.hd.heap_39 P) mainGlobals "list" = some none := by kernel_rfl
theorem G0_int (P : Params) : nsIn (Mine.hd.heap_39 P) mainGlobals "int" = some none := by kernel_rfl
theorem G0_super (P : Params) : nsIn (Mine.hd.heap_39 P) mainGlobals "super" = some none := by kernel_rfl
end Rg
end
section
/-! entering a def; names, stores, constants -/
open PySem PySem.W PyProof.Rows PySem.Calls
set_option autoImplicit false
set_option maxRecDepth 100000
namespace Rg
section
variable {w : World} {mg mb : Str → Option Value} {A : Around} {s : Shared} {h g H0 : Heap} {t : Nat} {X : List Addr} {vol : List (Addr × (Obj → Prop))} {a : Addr} {names : List (Str × NameKind)} {args : Args} {binds : List (Str × Value)}

def retOf : Flow → Value
  | .ret v => v
  | _ => .none

/-- what every call starts from -/
structure Pre (w : World) (mg mb : Str → Option Value) (H0 g h : Heap) : Prop where
  B : Bs w mg mb H0
  k0 : Le H0 g
  k : Le g h
  z : H0.objs.size ≤ h.objs.size

theorem enterE {R : Result → Shared → Prop} (D : DefF w.params a names) (P : Pre w mg mb H0 g h) (room : A.depth < recursionLimit)
    (hbind : bindArgs (fdAt w.params a) args = pure binds) (hkind : (binds.all fun y => names.lookup y.1 == some .local || names.lookup y.1 == some .cell) = true)
    (hnd : ((cellsFrom 0 names []).map (·.1)).Nodup)
    (hvol : ∀ p ∈ vol, (∃ o, h.get? p.1 = some o ∧ p.2 o) ∧ g.get? p.1 = none ∧ p.1 ∈ X) (hvap : (vol.map (·.1)).Pairwise (· ≠ ·))
    (H : ∀ env L h₁ t₁, h.objs.size = L → EnvF env names (cellsFrom (L + 1) names []) L →
      Frm ⟨H0, h, g, X⟩ L (cellsFrom (L + 1) names []) (bindL (fun x => names.lookup x) binds fun _ => none) (bindC (fun x => names.lookup x) binds fun _ => none) vol g h₁ →
      (∀ n c, (n, c) ∈ cellsFrom (L + 1) names [] → h.objs.size ≤ c) → env.frame = some L →
      wpAny (model PR w) (A.deeper env) (execs (bodyAt w.params a) env) (fun fl s' => R (.ok (.ret (retOf fl))) s')
        (fun e s' => wpAny (model PR w) (A.deeper env) (leaving env e) (fun _ s'' => R (.error e) s'') (fun e' s'' => R (.error e') s'') s') (upd s h₁ t₁)) :
    codeAny (model PR w) A (.call (.ref a) args) R (upd s h t) := by
  obtain ⟨B, k0, k, hz⟩ := P
  have hH : Le H0 h := k0.trans k
  have hlim : h.NoLimit := B.T.nolimit.keeps hH
  have hkind' : (binds.all fun y => (fdAt w.params a).scope.names.lookup y.1 == some .local || (fdAt w.params a).scope.names.lookup y.1 == some .cell) = true := by rw [D.names]; exact hkind
  refine codeAny_call_function room (hH _ _ (B.K _ _ D.at_)) rfl D.co D.gen D.body (codeRec_of (B.K.keeps hH) D.code) ?_
  rw [hbind, D.clo]
  refine wpAny_pure (wpAny_newFunctionEnv_cells D.kind (kindsX hkind' _) fun env he s' x => ?_)
  have hE : EnvF env names (cellsFrom (h.objs.size + 1) names []) h.objs.size := by
    subst he
    exact ⟨D.names, D.kind, by show cellsFrom _ (fdAt w.params a).scope.names [] = _; rw [D.names], rfl, D.glob, D.blt⟩
  have hf : env.frame = some h.objs.size := by subst he; rfl
  have hko : env.kindOf = fun y => names.lookup y := funext fun y => hE.kindOf y
  have x1 := x
  rw [hE.loc, hE.cells, hko] at x1
  obtain ⟨h₁, tk, rfl⟩ := x1.toInCall.same
  refine ⟨hlim.keeps x1.toInCall.keep, codeAny_func (wpAny_mono (H env h.objs.size h₁ tk rfl hE ?_ ?_ hf) (fun fl s' q => ?_) fun _ _ q => q)⟩
  · have hk : Le h h₁ := x1.toInCall.keep
    have above := x1.above
    exact { ns := x1.toInCall.ns
            cell := fun n c hc => x1.cell n c (lookup_of_mem_nodup (cellsFrom_names names 0 (h.objs.size + 1) [] [] rfl ▸ hnd) hc)
            nod := cellsFrom_names names 0 (h.objs.size + 1) [] [] rfl ▸ hnd
            apart := x1.apart
            keep := k.trans hk
            offL := none_of_le k (none_of_ge (Nat.le_refl _))
            offC := fun n c hc => ⟨none_of_le k (none_of_ge (Nat.le_of_lt (above n c hc))), Nat.ne_of_gt (above n c hc)⟩
            volat := fun p hp => by
              obtain ⟨⟨o, e, r⟩, h2, h3⟩ := hvol p hp
              exact ⟨⟨o, hk _ _ e, r⟩, h2, Nat.ne_of_lt (Heap.lt_size e), fun n c hc q => absurd (above n c hc) (Nat.not_lt.mpr (q ▸ Nat.le_of_lt (Heap.lt_size e))), .inl h3⟩
            vap := hvap
            k0 := k0
            k0L := hz
            old := hk.toX
            freshL := Nat.le_refl _
            gr := Grow.refl _ _ }
  · exact fun n c hc => Nat.le_of_lt (x1.above n c hc)
  · cases fl <;> exact q

theorem enter {E : Value → Shared → Prop} {Q : Value → Shared → Prop} {as : List Value} (D : DefF w.params a names) (P : Pre w mg mb H0 g h) (room : A.depth < recursionLimit)
    (hbind : bindArgs (fdAt w.params a) ⟨as, []⟩ = pure binds) (hkind : (binds.all fun y => names.lookup y.1 == some .local || names.lookup y.1 == some .cell) = true)
    (hnd : ((cellsFrom 0 names []).map (·.1)).Nodup)
    (hvol : ∀ p ∈ vol, (∃ o, h.get? p.1 = some o ∧ p.2 o) ∧ g.get? p.1 = none ∧ p.1 ∈ X) (hvap : (vol.map (·.1)).Pairwise (· ≠ ·))
    (H : ∀ env L h₁ t₁ E', h.objs.size = L → EnvF env names (cellsFrom (L + 1) names []) L →
      Frm ⟨H0, h, g, X⟩ L (cellsFrom (L + 1) names []) (bindL (fun x => names.lookup x) binds fun _ => none) (bindC (fun x => names.lookup x) binds fun _ => none) vol g h₁ →
      wpAny (model PR w) (A.deeper env) (execs (bodyAt w.params a) env) (fun fl s' => Q (retOf fl) s') E' (upd s h₁ t₁)) :
    wpAny (model PR w) A (call (.ref a) as) Q E (upd s h t) :=
  wpAny_call (enterE D P room hbind hkind hnd hvol hvap fun env L h₁ t₁ hL EF F _ _ => H env L h₁ t₁ _ hL EF F)
end
end Rg
end
section
/-! names, stores, constants, calls of the text's defs -/
open PySem PySem.W PyProof.Rows PySem.Calls
set_option autoImplicit false
set_option maxRecDepth 100000
namespace Rg
section
variable {w : World} {mg mb : Str → Option Value} {A : Around} {E : Value → Shared → Prop} {s : Shared} {h g : Heap} {t : Nat} {vol : List (Addr × (Obj → Prop))} {names : List (Str × NameKind)} {env : Env}
  {c : Cx} {L : Addr} {cl : List (Str × Addr)} {m cm : Str → Option Value} {Q : Value → Shared → Prop}

theorem ldL {x : Str} {pos : Pos} {v : Value} (EF : EnvF env names cl L) (F : Frm c L cl m cm vol g h) (hl : names.lookup x = some .local) (hv : m x = some v) (q : Q v (upd s h t))
    (hd : (x == ("__debug__" : Str)) = false := by decide) : wpAny (model PR w) A (eval (.Name x pos) env) Q E (upd s h t) :=
  wpAny_Name (wpAny_loadName_local EF.kind ((EF.kindOf x).trans hl) (by rw [EF.loc]; exact F.ns) hv q) hd
theorem ldC {x : Str} {pos : Pos} {v : Value} {a : Addr} (EF : EnvF env names cl L) (F : Frm c L cl m cm vol g h) (hl : names.lookup x = some .cell) (ha : cl.lookup x = some a) (hv : cm x = some v) (q : Q v (upd s h t))
    (hd : (x == ("__debug__" : Str)) = false := by decide) : wpAny (model PR w) A (eval (.Name x pos) env) Q E (upd s h t) :=
  wpAny_Name (wpAny_loadName_cell EF.kind ((EF.kindOf x).trans hl) (by rw [EF.cells]; exact ha) (hv ▸ F.cell x a (mem_of_lookup ha)) q) hd
theorem ldF {x : Str} {pos : Pos} {v : Value} {a : Addr} (EF : EnvF env names cl L) (F : Frm c L cl m cm vol g h) (hl : names.lookup x = some .free) (ha : cl.lookup x = some a) (hv : cm x = some v) (q : Q v (upd s h t))
    (hd : (x == ("__debug__" : Str)) = false := by decide) (hn : (x == ("__classdict__" : Str)) = false := by decide) : wpAny (model PR w) A (eval (.Name x pos) env) Q E (upd s h t) :=
  wpAny_Name (wpAny_loadName_free EF.kind ((EF.kindOf x).trans hl) (by rw [EF.cells]; exact ha) (hv ▸ F.cell x a (mem_of_lookup ha)) q hn) hd
theorem Frm.H (F : Frm c L cl m cm vol g h) : Le c.H0 h := F.k0.trans F.keep
theorem ldG {x : Str} {pos : Pos} {v : Value} (B : Bs w mg mb c.H0) (EF : EnvF env names cl L) (F : Frm c L cl m cm vol g h) (hl : names.lookup x = some .globalImplicit) (hg : nsIn (KF w) mainGlobals x = some (some v)) (q : Q v (upd s h t))
    (hd : (x == ("__debug__" : Str)) = false := by decide) : wpAny (model PR w) A (eval (.Name x pos) env) Q E (upd s h t) :=
  Name_function_global EF.kind ((EF.kindOf x).trans hl) (loadGlobal_global (by rw [EF.glob]; exact B.T.g.keeps F.H) (mg_of B.K B.T.g hg) q) hd
theorem ldB {x : Str} {pos : Pos} {v : Value} (B : Bs w mg mb c.H0) (EF : EnvF env names cl L) (F : Frm c L cl m cm vol g h) (hl : names.lookup x = some .globalImplicit) (hg : nsIn (KF w) mainGlobals x = some none) (hv : bootBuiltins x = some v) (q : Q v (upd s h t))
    (hn : x ≠ "__name__" := by decide) (hd : (x == ("__debug__" : Str)) = false := by decide) : wpAny (model PR w) A (eval (.Name x pos) env) Q E (upd s h t) :=
  Name_function_global EF.kind ((EF.kindOf x).trans hl) (loadGlobal_builtin (by rw [EF.glob]; exact B.T.g.keeps F.H) (mg_none_of B.K B.T.g hg) (by rw [EF.blt]; exact B.T.b.keeps F.H) ((B.T.builtins x hn).trans hv) q) hd

theorem stL {x : Str} {v : Value} {Q : Unit → Shared → Prop} (EF : EnvF env names cl L) (F : Frm c L cl m cm vol g h) (hl : names.lookup x = some .local)
    (q : ∀ h' t', Frm c L cl (fun y => if y = x then some v else m y) cm vol g h' → Q () (upd s h' t')) : wpAny (model PR w) A (storeName env x v) Q E (upd s h t) :=
  wpAny_storeName_local ((EF.kindOf x).trans hl) (by rw [EF.loc]; exact F.ns) (fun h' hn hs => by
    rw [EF.loc] at hn hs
    exact q h' (t + 1) (F.setL hn (le_of_sameBut hs))) (by rw [EF.kind]; rfl)
theorem stC {x : Str} {v : Value} {a : Addr} {Q : Unit → Shared → Prop} (EF : EnvF env names cl L) (F : Frm c L cl m cm vol g h) (hl : names.lookup x = some .cell) (ha : cl.lookup x = some a) (hf : c.h₀.objs.size ≤ a)
    (q : ∀ h', Frm c L cl m (fun y => if y = x then some v else cm y) vol g h' → Q () (upd s h' t)) : wpAny (model PR w) A (storeName env x v) Q E (upd s h t) :=
  wpAny_storeName_cell EF.kind ((EF.kindOf x).trans hl) (by rw [EF.cells]; exact ha) (F.cell x a (mem_of_lookup ha)) fun h' hc hs => q h' (F.setC ha hf hc hs)

theorem eInt {i : Int} {k : Nat} {pos : Pos} (q : ∀ tk t', Q (.int i tk) (upd s h t')) : wpAny (model PR w) A (eval (.Constant (.int i) k pos) env) Q E (upd s h t) := wpAny_Constant_int (q t (t + 1))
theorem eStr {x : Str} {k : Nat} {pos : Pos} (q : ∀ tk t', Q (.str x tk) (upd s h t')) : wpAny (model PR w) A (eval (.Constant (.str x) k pos) env) Q E (upd s h t) := Calls.Constant_str (q t (t + 1))
theorem eBool {b : Bool} {k : Nat} {pos : Pos} (q : Q (.bool b) (upd s h t)) : wpAny (model PR w) A (eval (.Constant (.bool b) k pos) env) Q E (upd s h t) := fun _ _ _ => q

theorem spl0 {pos : Pos} {Q : List Value → Shared → Prop} {s : Shared} (q : Q [] s) : wpAny (model PR w) A (spliced (backTo pos (starEach [] env))) Q E s := Calls.spliced_nil q
theorem spl {pos : Pos} {e : Expr} {rest : List Expr} {Q : List Value → Shared → Prop} {s : Shared}
    (q : wpAny (model PR w) A (eval e env) (fun v s₁ => wpAny (model PR w) A (spliced (backTo pos (starEach rest env))) (fun vs s₂ => Q (v :: vs) s₂) E s₁) E s)
    (he : starEach (e :: rest) env = (false, eval e env) :: starEach rest env := by rfl) : wpAny (model PR w) A (spliced (backTo pos (starEach (e :: rest) env))) Q E s := by
  rw [he]
  exact Calls.spliced_cons q

/-- f(e, ..) with f a def of the text -/
theorem callDef {x : Str} {np pos : Pos} {e : Expr} {args : List Expr} {a : Addr} {ns : List (Str × NameKind)} (B : Bs w mg mb c.H0) (EF : EnvF env names cl L) (F : Frm c L cl m cm vol g h) (hl : names.lookup x = some .globalImplicit)
    (hg : nsIn (KF w) mainGlobals x = some (some (.ref a))) (D : DefF w.params a ns)
    (q : wpAny (model PR w) A (spliced (backTo pos (starEach (e :: args) env))) (fun vs s₁ => Le c.H0 s₁.heap ∧ wpAny (model PR w) A (call (.ref a) vs) Q E s₁) E (upd s h t))
    (he : starEach (e :: args) env = (false, eval e env) :: starEach args env := by rfl)
    (hd : (x == ("__debug__" : Str)) = false := by decide) : wpAny (model PR w) A (eval (.Call (.Name x np) (e :: args) [] pos) env) Q E (upd s h t) := by
  refine wpAny_Call_NameR (ldG B EF F hl hg ?_ hd)
  refine callWith_function (o := ⟨.type "function", none, .func (fdAt w.params a), #[]⟩) (fd := fdAt w.params a) ?_
  rw [he] at q ⊢
  exact evalArgs_plain (wpAny_mono q (fun vs s₁ z => ⟨⟨z.1 _ _ (B.K _ _ D.at_), rfl⟩, z.2⟩) fun _ _ z => z)
/-- f(e, ..) with f a built-in -/
theorem callBlt {x : Str} {np pos : Pos} {e : Expr} {args : List Expr} {id : String} (B : Bs w mg mb c.H0) (EF : EnvF env names cl L) (F : Frm c L cl m cm vol g h) (hl : names.lookup x = some .globalImplicit)
    (hg : nsIn (KF w) mainGlobals x = some none) (hv : bootBuiltins x = some (.builtin id))
    (q : wpAny (model PR w) A (spliced (backTo pos (starEach (e :: args) env))) (fun vs s₁ => wpAny (model PR w) A (call (.builtin id) vs) Q E s₁) E (upd s h t))
    (he : starEach (e :: args) env = (false, eval e env) :: starEach args env := by rfl) (hp : (backTo pos (starEach (e :: args) env)).any (·.1) = false := by rfl)
    (hn : x ≠ "__name__" := by decide) (hd : (x == ("__debug__" : Str)) = false := by decide) : wpAny (model PR w) A (eval (.Call (.Name x np) (e :: args) [] pos) env) Q E (upd s h t) := by
  refine wpAny_Call_NameR (ldB B EF F hl hg hv ?_ hn hd)
  refine callWith_builtin hp ?_
  rw [he] at q ⊢
  exact evalArgs_plain q
end
end Rg
end
section
/-! operations, first part; the draw -/
open PySem PySem.W PyProof.Rows PySem.Calls
set_option autoImplicit false
set_option maxRecDepth 100000
namespace Rg
/-- a dict of texts' keys, a list, a tuple -/
def pD (w : World) (kvs : List (Str × Value)) : Obj → Prop := fun o => o.IsDictOf (strKind PR w) kvs
def pL (items : Array Value) : Obj → Prop := fun o => o.cls = .type "list" ∧ ∃ n, o.data = .seq items n
def At (h : Heap) (a : Addr) (p : Obj → Prop) : Prop := ∃ o, h.get? a = some o ∧ p o
theorem At.le {h h' : Heap} {a : Addr} {p : Obj → Prop} (x : At h a p) (k : Le h h') : At h' a p := let ⟨_, e, r⟩ := x; ⟨_, k _ _ e, r⟩
theorem At.dict {w : World} {h : Heap} {d : Addr} {kvs : List (Str × Value)} (x : At h d (pD w kvs)) : h.DictOf (strKind PR w) d kvs := let ⟨_, e, _, _, r⟩ := x; ⟨_, _, _, e, r⟩
theorem At.of_dict {w : World} {h : Heap} {d : Addr} {kvs : List (Str × Value)} (x : h.DictOf (strKind PR w) d kvs) : At h d (pD w kvs) := let ⟨_, _, _, e, r⟩ := x; ⟨_, e, _, _, r⟩
theorem At.list {h : Heap} {d : Addr} {items : Array Value} (x : At h d (pL items)) : h.IsList d items := x
theorem isList_le {h h' : Heap} {a : Addr} {items : Array Value} (x : h.IsList a items) (k : Le h h') : h'.IsList a items := x.at fun o e => k _ _ e
theorem isTup_le {h h' : Heap} {a : Addr} {items : Array Value} (x : IsTup h a items) (k : Le h h') : IsTup h' a items := let ⟨_, e, r⟩ := x; ⟨_, k _ _ e, r⟩

section
variable {w : World} {mg mb : Str → Option Value} {A : Around} {E : Value → Shared → Prop} {s : Shared} {h g : Heap} {t : Nat} {vol : List (Addr × (Obj → Prop))} {names : List (Str × NameKind)} {env : Env}
  {c : Cx} {L : Addr} {cl : List (Str × Addr)} {m cm : Str → Option Value} {Q : Value → Shared → Prop}
theorem dGet {value slice : Expr} {d : Addr} {kvs : List (Str × Value)} {x : Str} {tk : Tok} {v : Value} (hd : At h d (pD w kvs)) (hv : valueAt kvs x = some v) (q : ∀ t', Q v (upd s h t'))
    (hs : subscripted slice false (.ref d) (.str x tk) = operate [.ref d, .str x tk] (getItem (.ref d) (.str x tk)) := by rfl) :
    wpAny (model PR w) A (subscriptTail value slice (.ref d) (.str x tk)) Q E (upd s h t) :=
  tail_any (s := upd s h t) (Heap.MapOf.typeIs (s := upd s h t) hd.dict.mapOf) slot_dict_getitem.lookup (wpAny_getItem_of (s := upd s h t) (strKind_is PR w x tk) hd.dict.mapOf hv (q (t + 1))) hs
theorem dSet {d : Addr} {kvs : List (Str × Value)} {x : Str} {tk : Tok} {v : Value} {Q : Unit → Shared → Prop} (hd : At h d (pD w kvs)) (hz : kvs.length ≤ 1000)
    (q : ∀ h' t', At h' d (pD w (stored kvs x v)) → Heap.SameBut d h h' → Q () (upd s h' t')) : wpAny (model PR w) A (setItem (.ref d) (.str x tk) v) Q E (upd s h t) :=
  wpAny_setItem_pairs (s := upd s h t) (strKind_is PR w x tk) hd.dict (fun h' hm hs => q h' (t + 1) (At.of_dict hm) hs) (by rw [sizeLine_eq]; omega)
theorem lGet {value slice : Expr} {a : Addr} {l : List Value} {k : Int} {u : Tok} {x : Value} (hl : h.IsList a l.toArray) (h0 : 0 ≤ k) (hfit : k < 2 ^ 63) (hx : l[k.toNat]? = some x) (q : Q x (upd s h t))
    (hs : subscripted slice false (.ref a) (.int k u) = operate [.ref a, .int k u] (getItem (.ref a) (.int k u)) := by rfl) :
    wpAny (model PR w) A (subscriptTail value slice (.ref a) (.int k u)) Q E (upd s h t) :=
  tail_any (s := upd s h t) (Heap.IsList.typeIs (s := upd s h t) hl) slot_list_getitem.lookup (wpAny_getItem_list (s := upd s h t) hl h0 hfit (by simpa using hx) q) hs
theorem lLen {a : Addr} {items : Array Value} (hl : h.IsList a items) (hfit : items.size ≤ 2 ^ 24) (q : ∀ tk t', Q (.int items.size tk) (upd s h t')) :
    wpAny (model PR w) A (call (.builtin "len") [.ref a]) Q E (upd s h t) := call_len_list (s := upd s h t) hl (by omega) (q _ _)
theorem tLen {a : Addr} {items : Array Value} (hl : IsTup h a items) (hfit : items.size ≤ 2 ^ 24) (q : ∀ tk t', Q (.int items.size tk) (upd s h t')) :
    wpAny (model PR w) A (call (.builtin "len") [.ref a]) Q E (upd s h t) := PyProof.Rows.len_tuple (s := upd s h t) hl (by omega) (q _ _)
theorem oAdd {a b : Int} {x y : Tok} (q : ∀ tk t', Q (.int (a + b) tk) (upd s h t')) : wpAny (model PR w) A (binaryOp .Add (.int a x) (.int b y)) Q E (upd s h t) := PyProof.Rows.add_int (s := upd s h t) (q _ _)
theorem oSub {a b : Int} {x y : Tok} (q : ∀ tk t', Q (.int (a - b) tk) (upd s h t')) : wpAny (model PR w) A (binaryOp .Sub (.int a x) (.int b y)) Q E (upd s h t) := PyProof.Rows.sub_int (s := upd s h t) (q _ _)
theorem mulOk {a b : Int} (ha : a.natAbs < 2 ^ 64) : IntMulOk a b := IntMulOk.of_left (intBits_le ha)
theorem oMul {a b : Int} {x y : Tok} (ha : a.natAbs < 2 ^ 64) (q : ∀ tk t', Q (.int (a * b) tk) (upd s h t')) : wpAny (model PR w) A (binaryOp .Mult (.int a x) (.int b y)) Q E (upd s h t) :=
  PyProof.Rows.mul_int (s := upd s h t) (q _ _) (mulOk ha)
theorem oDiv {a b : Int} {x y : Tok} (hb : b ≠ 0) (hb' : b.natAbs < 1000) (q : ∀ tk t', Q (.int (a.fdiv b) tk) (upd s h t')) : wpAny (model PR w) A (binaryOp .FloorDiv (.int a x) (.int b y)) Q E (upd s h t) :=
  PyProof.Rows.floordiv_int (s := upd s h t) hb (q _ _) (Or.inl (PyProof.noPylong_small (by omega)))
theorem oMod {a b : Int} {x y : Tok} (hb : b ≠ 0) (q : ∀ tk t', Q (.int (a.fmod b) tk) (upd s h t')) : wpAny (model PR w) A (binaryOp .Mod (.int a x) (.int b y)) Q E (upd s h t) :=
  PyProof.Rows.mod_int (s := upd s h t) hb (q _ _)
theorem cLt {a b : Int} {x y : Tok} (q : Q (.bool (decide (a < b))) (upd s h t)) : wpAny (model PR w) A (compareOp .Lt (.int a x) (.int b y)) Q E (upd s h t) := PyProof.Rows.lt_int (s := upd s h t) q
theorem cGt {a b : Int} {x y : Tok} (q : Q (.bool (decide (b < a))) (upd s h t)) : wpAny (model PR w) A (compareOp .Gt (.int a x) (.int b y)) Q E (upd s h t) := PyProof.Rows.gt_int (s := upd s h t) q
theorem cEq {a b : Int} {x y : Tok} (q : Q (.bool (a == b)) (upd s h t)) : wpAny (model PR w) A (compareOp .Eq (.int a x) (.int b y)) Q E (upd s h t) := PyProof.Rows.eq_int (s := upd s h t) q
theorem cNe {a b : Int} {x y : Tok} (q : Q (.bool (a != b)) (upd s h t)) : wpAny (model PR w) A (compareOp .NotEq (.int a x) (.int b y)) Q E (upd s h t) := PyProof.Rows.ne_int (s := upd s h t) q
theorem cEqS {a b : Str} {x y : Tok} (q : Q (.bool (a == b)) (upd s h t)) : wpAny (model PR w) A (compareOp .Eq (.str a x) (.str b y)) Q E (upd s h t) := PyProof.Rows.eq_str (s := upd s h t) q
theorem cNeS {a b : Str} {x y : Tok} (q : Q (.bool (a != b)) (upd s h t)) : wpAny (model PR w) A (compareOp .NotEq (.str a x) (.str b y)) Q E (upd s h t) := PyProof.Rows.ne_str (s := upd s h t) q
theorem tru {b : Bool} {Q : Bool → Shared → Prop} (q : Q b (upd s h t)) : wpAny (model PR w) A (truthy (.bool b)) Q E (upd s h t) := wpAny_truthy_bool q
end

/-- the feed: its row and where it stands -/
def pF (w : World) (row : Addr) (i : Int) : Obj → Prop := fun o => ∃ tk, pD w [("row", .ref row), ("at", .int i tk)] o
def RowOk (g : Heap) (row : Addr) : Prop := ∃ vs ns, g.IsList row vs.toArray ∧ IntsAre vs ns ∧ ns.length ≤ 1000
theorem RowOk.le {g g' : Heap} {row : Addr} (x : RowOk g row) (k : Le g g') : RowOk g' row := let ⟨vs, ns, a, b, c⟩ := x; ⟨vs, ns, isList_le a k, b, c⟩

section
variable {w : World} {mg mb : Str → Option Value} {A : Around} {E : Value → Shared → Prop} {s : Shared} {H0 h g : Heap} {t : Nat} {Q : Value → Shared → Prop}
theorem pick_spec {fd row : Addr} {i many : Int} {tm : Tok} (am : Amb A 1 10) (P : Pre w mg mb H0 g h) (hf : At h fd (pF w row i)) (hg : g.get? fd = none) (hr : RowOk g row) (h0 : 0 ≤ i) (h1 : i ≤ 10000) (m0 : 1 ≤ many) (m1 : many ≤ 1000)
    (q : ∀ r tk h' t', 0 ≤ r → r < many → LeX [fd] h h' → At h' fd (pF w row (i + 1)) → Q (.int r tk) (upd s h' t')) :
    wpAny (model PR w) A (call (.ref 253) [.ref fd, .int many tm]) Q E (upd s h t) := by
  obtain ⟨o, ho, tk0, hD⟩ := hf
  obtain ⟨vs, ns, hl, hns, hlen⟩ := hr
  refine enter (D_pick w.params) P (X := [fd]) (vol := [(fd, pD w [("row", .ref row), ("at", .int i tk0)])]) am.room (A_pick _ _ _) (by rfl) (by decide) ?_ (by simp) ?_
  · intro p hp
    rw [List.mem_singleton.mp hp]
    exact ⟨⟨o, ho, hD⟩, hg, by simp⟩
  · intro env L h₁ t₁ E' hL EF F
    refine wpAny_execs_cons ?_
    refine wpAny_Assign_Name ?_
    refine Subscript_ (ldL EF F rfl rfl ?_)
    refine eStr fun k1 t2 => ?_
    refine dGet (F.volat _ (.head _)).1 rfl fun t3 => ?_
    refine stL EF F rfl fun h2 t4 F2 => ?_
    have hrow := isList_le hl F.keep
    have hsz : vs.toArray.size = ns.length := by rw [List.size_toArray, hns.length]
    refine wpAny_execs_cons (wpAny_Assign_Subscript ?_)
    refine wpAny_BinOp (ldL EF F2 rfl rfl (eInt fun k2 t5 => oAdd fun k3 t6 => ?_))
    refine ldL EF F2 rfl rfl (eStr fun k4 t7 => ?_)
    refine dSet (F2.volat _ (.head _)).1 (by simp) fun h3 t8 d3 s3 => ?_
    have F3 := F2.vset (pre := []) (le_of_sameBut s3) d3
    have hlist : h3.IsList row vs.toArray := isList_le hl F3.keep
    have fin : ∀ r tk t', 0 ≤ r → r < many → Q (.int r tk) (upd s h3 t') := fun r tk t' a b => q r tk h3 t' a b F3.old ⟨_, d3.choose_spec.1, k3, d3.choose_spec.2⟩
    have modq : ∀ (x : Int) tk t', Q (.int (x.fmod many) tk) (upd s h3 t') := fun x tk t' => fin _ _ _ (Int.fmod_nonneg_of_pos _ (by omega)) (Int.fmod_lt_of_pos _ (by omega))
    refine wpAny_execs_cons (wpAny_Return_some (wpAny_BinOp (wpAny_IfExp (wpAny_isTrue_Compare1 ?_))))
    refine ldL EF F3 rfl rfl ?_
    refine callBlt P.B EF F3 rfl (G0_len _) (by boot_by_name) (spl (Subscript_ (ldL EF F3 rfl rfl (eStr fun k5 t9 => dGet (F3.volat _ (.head _)).1 rfl fun t10 => ?_))))
    refine spl0 (lLen hlist (by omega) fun k6 t11 => cLt (tru ?_))
    split
    · rename_i hlt
      have hlt' : i < (vs.toArray.size : Int) := of_decide_eq_true hlt
      refine Subscript_ (Subscript_ (ldL EF F3 rfl rfl (eStr fun k5 t9 => dGet (F3.volat _ (.head _)).1 rfl fun t10 => ?_)))
      refine ldL EF F3 rfl rfl ?_
      have hi : i.toNat < vs.length := by rw [List.size_toArray] at hlt'; omega
      obtain ⟨n, u, hx, _⟩ := hns.at i.toNat _ (List.getElem?_eq_getElem hi)
      refine lGet hlist h0 (by omega) ((List.getElem?_eq_getElem hi).trans (congrArg some hx)) ?_
      refine ldL EF F3 rfl rfl (oMod (by omega) fun k7 t12 => modq _ _ _)
    · refine wpAny_BinOp (wpAny_BinOp (wpAny_BinOp (eInt fun k7 t12 => ldL EF F3 rfl rfl (oMul (by decide) fun k8 t13 => ?_))))
      refine wpAny_BinOp (wpAny_BinOp (ldL EF F3 rfl rfl (ldL EF F3 rfl rfl (oMul (by omega) fun k9 t14 => ?_))))
      refine eInt fun ka ta => oDiv (by decide) (by decide) fun kb tb => oAdd fun kc tc => eInt fun kd td => oAdd fun ke te => ?_
      refine ldL EF F3 rfl rfl (oMod (by omega) fun k7 t12 => modq _ _ _)
end
end Rg
end
section
/-! list comprehensions by an invariant -/
open PySem PySem.W PyProof.Rows PySem.Calls
set_option autoImplicit false
set_option maxRecDepth 100000
namespace Rg
abbrev Vol := List (Addr × (Obj → Prop))
def Vat (h : Heap) (v : Vol) : Prop := ∀ p ∈ v, At h p.1 p.2

/-- the names of a block within -/
def relN (sn pn : List (Str × NameKind)) : List (Str × NameKind) := sn.map fun x => if (x.2 == .free && pn.lookup x.1 == some .cell) then (x.1, .cell) else x
def cloN (sn : List (Str × NameKind)) (cl : List (Str × Addr)) : List (Str × Addr) := sn.foldl (fun acc x => if x.2 == .free then (x.1, (cl.lookup x.1).getD 0) :: acc else acc) []

theorem relabel_names {env : Env} {names : List (Str × NameKind)} {cl : List (Str × Addr)} {L : Addr} (EF : EnvF env names cl L) (scope : Scope) : (relabel scope env).names = relN scope.names names := by
  unfold relabel relN
  refine List.map_congr_left fun x _ => ?_
  obtain ⟨n, k⟩ := x
  simp only [EF.kind, EF.kindOf, beq_self_eq_true, Bool.and_true]

theorem cellOf_eq {env : Env} {n : Str} {a : Addr} (h : env.cells.lookup n = some a) : cellOf env n = pure a := by unfold cellOf; rw [h]
theorem clo_fold {env : Env} {cl : List (Str × Addr)} (hc : env.cells = cl) : ∀ (sn : List (Str × NameKind)) (acc : List (Str × Addr)), (∀ x ∈ sn, x.2 = .free → (cl.lookup x.1).isSome = true) →
    (forIn sn acc fun x r => (if (x.2 == NameKind.free) = true then (do let a ← cellOf env x.1; pure (ForInStep.yield ((x.1, a) :: r))) else pure (ForInStep.yield r) : Sem (ForInStep (List (Str × Addr))))) =
      pure (sn.foldl (fun acc x => if x.2 == .free then (x.1, (cl.lookup x.1).getD 0) :: acc else acc) acc)
  | [], acc, _ => by rw [List.forIn_nil]; rfl
  | (n, k) :: r, acc, h => by
    rw [List.forIn_cons, List.foldl_cons]
    have hr : ∀ x ∈ r, x.2 = .free → (cl.lookup x.1).isSome = true := fun x hx => h x (List.mem_cons_of_mem _ hx)
    by_cases hk : k = .free
    · subst hk
      obtain ⟨a, ha⟩ := Option.isSome_iff_exists.mp (h (n, .free) (.head _) rfl)
      simp only [beq_self_eq_true, if_true, ha, Option.getD_some]
      rw [cellOf_eq (by rw [hc]; exact ha)]
      exact clo_fold hc r _ hr
    · have : (k == NameKind.free) = false := by simpa using hk
      simp only [this, Bool.false_eq_true, if_false]
      exact clo_fold hc r _ hr
theorem closure_eq {env : Env} {names : List (Str × NameKind)} {cl : List (Str × Addr)} {L : Addr} (EF : EnvF env names cl L) (scope : Scope) (h : ∀ x ∈ scope.names, x.2 = .free → (cl.lookup x.1).isSome = true) :
    closureFor scope env = pure (cloN scope.names cl) := by
  unfold closureFor cloN
  have := clo_fold EF.cells scope.names [] h
  simp only [bind_pure_comp] at this ⊢
  rw [show (forIn scope.names ([] : List (Str × Addr)) fun x r => (match x with | (name, kind) => if (kind == NameKind.free) = true then (fun a => ForInStep.yield ((name, a) :: r)) <$> cellOf env name else pure (ForInStep.yield r) : Sem (ForInStep (List (Str × Addr))))) =
    pure (scope.names.foldl (fun acc x => if x.2 == .free then (x.1, (cl.lookup x.1).getD 0) :: acc else acc) []) from this]
  rfl
theorem cloN_mem {sn : List (Str × NameKind)} {cl : List (Str × Addr)} (h : ∀ x ∈ sn, x.2 = .free → (cl.lookup x.1).isSome = true) : ∀ p ∈ cloN sn cl, cl.lookup p.1 = some p.2 := by
  unfold cloN
  have gen : ∀ (sn : List (Str × NameKind)) (acc : List (Str × Addr)), (∀ x ∈ sn, x.2 = .free → (cl.lookup x.1).isSome = true) → (∀ p ∈ acc, cl.lookup p.1 = some p.2) →
      ∀ p ∈ sn.foldl (fun acc x => if x.2 == .free then (x.1, (cl.lookup x.1).getD 0) :: acc else acc) acc, cl.lookup p.1 = some p.2 := by
    intro sn
    induction sn with
    | nil => intro acc _ ha; exact ha
    | cons x r ih =>
      intro acc hs ha
      rw [List.foldl_cons]
      refine ih _ (fun y hy => hs y (List.mem_cons_of_mem _ hy)) ?_
      by_cases hk : x.2 = .free
      · obtain ⟨a, e⟩ := Option.isSome_iff_exists.mp (hs x (.head _) hk)
        rw [if_pos (by simpa using hk)]
        intro p hp
        rcases List.mem_cons.mp hp with rfl | hp
        · simp [e]
        · exact ha p hp
      · rw [if_neg (by simpa using hk)]
        exact ha
  exact gen sn [] h (by simp)

section
variable {w : World} {A : Around} {s : Shared} {R : Result → Shared → Prop}
/-- one loop of a block: the turn with its letting go and its tests -/
theorem compLoop_gen {elt target iter : Expr} {ifs : List Expr} {scope : Scope} {pos : Pos} {it acc : Value} {env : Env} (I : Nat → Shared → Prop)
    (turn : ∀ n s, I n s → ∃ E', wpAny (model PR w) A (pyNext it) (fun r s₁ => match r with
      | none => R (.ok .next) s₁
      | some v => wpAny (model PR w) A (letOwnedTupleGo target it v) (fun _ s₁' => wpAny (model PR w) A (assign target env v) (fun _ s₂ =>
          wpAny (model PR w) A (forIn ifs true fun c r => if r = true then do let ok ← isTrue c env (eval c env); pure (ForInStep.yield ok) else pure (ForInStep.yield r)) (fun ok s₃ =>
            if ok = true then wpAny (model PR w) A (eval elt env) (fun x s₄ =>
              wpAny (model PR w) A (call (.builtin "list.append") [acc, x]) (fun _ s₅ => ∃ m, m < n ∧ I m s₅) E' s₄) E' s₃
            else ∃ m, m < n ∧ I m s₃) E' s₂) E' s₁') E' s₁) E' s ∧ ∀ e s', E' e s' → notedBy (model PR w) A env (fun e s' => R (.error e) s') e s')
    (n : Nat) (h : I n s) : codeAny (model PR w) A (.compLoop (.ListComp elt [⟨target, iter, ifs, 0⟩] scope pos) 0 it acc env) R s := by
  refine codeAny_loop rfl I (fun n s hI => ?_) n h
  obtain ⟨E', T, hE⟩ := turn n s hI
  show wpAny _ A ((compTurn (.ListComp elt [⟨target, iter, ifs, 0⟩] scope pos) 0 it acc env).onRaise (fun x => do noteFrame x env; theTreesLotGoes x)) _ _ s
  refine wpAny_noted ?_
  rw [compTurn_list]
  refine wpAny_bind (wpAny_standAt (wpAny_bind (wpAny_mono T (fun r s₁ h₁ => ?_) hE)))
  cases r with
  | none => exact wpAny_pure h₁
  | some v =>
    refine wpAny_bind (wpAny_mono h₁ (fun _ s₁' h₁' => ?_) hE)
    refine wpAny_bind (wpAny_mono h₁' (fun _ s₂ h₂ => wpAny_bind (wpAny_mono h₂ (fun ok s₃ h₃ => ?_) hE)) hE)
    cases ok with
    | false => exact wpAny_pure ⟨rfl, h₃⟩
    | true =>
      exact wpAny_bind (wpAny_bind (wpAny_mono h₃ (fun x s₄ h₄ => wpAny_bind (wpAny_mono h₄ (fun _ s₅ h₅ => wpAny_pure (wpAny_pure ⟨rfl, h₅⟩)) hE)) hE))
end
end Rg
end
section
/-! segments of volatile objects; iterators; the block -/
open PySem PySem.W PyProof.Rows PySem.Calls
set_option autoImplicit false
set_option maxRecDepth 100000
namespace Rg
section
variable {c : Cx} {L : Addr} {cl : List (Str × Addr)} {m m' cm : Str → Option Value} {g g' h h' : Heap}
theorem Frm.vat {vol : Vol} (F : Frm c L cl m cm vol g h) : Vat h vol := fun p hp => (F.volat p hp).1
theorem Frm.sub {vol vol' : Vol} (F : Frm c L cl m cm vol g h) (hs : List.Sublist vol' vol) : Frm c L cl m cm vol' g h :=
  { F with
    volat := fun p hp => F.volat p (hs.subset hp)
    vap := F.vap.sublist (hs.map _) }
theorem grow_off {n : Nat} {a : Addr} (G : Grow n g g') (e : g.get? a = none) (ha : a < n) : g'.get? a = none := by
  cases q : g'.get? a with
  | none => rfl
  | some o => exact (G.new a o q).elim (fun q' => by rw [e] at q'; cases q') fun q' => absurd ha (Nat.not_lt.mpr q')
theorem Frm.perm {vol vol' : Vol} (F : Frm c L cl m cm vol g h) (hp : List.Perm vol' vol) : Frm c L cl m cm vol' g h :=
  { F with
    volat := fun p q => F.volat p (hp.mem_iff.mp q)
    vap := (hp.map (·.1)).pairwise_iff (fun {_ _} q => Ne.symm q) |>.mpr F.vap }
/-- some volatile objects turned, some let go, the stable part grown -/
theorem Frm.after {vI vx vx' vr : Vol} {n : Nat} (F : Frm c L cl m cm (vI ++ (vx ++ vr)) g h) (k : LeX (vI.map (·.1) ++ vx.map (·.1)) h h') (hv : Vat h' vx') (ha : vx'.map (·.1) = vx.map (·.1))
    (G : Grow n g g') (hn : h.objs.size ≤ n) (k' : Le g' h') : Frm c L cl m cm (vx' ++ vr) g' h' := by
  have F0 : Frm c L cl m cm vr g h := F.sub (by rw [← List.append_assoc]; exact List.sublist_append_right _ _)
  have vap := F.vap
  rw [← List.append_assoc, List.map_append, List.map_append] at vap
  have d := List.pairwise_append.mp vap
  have inA : ∀ a ∈ vI.map (·.1) ++ vx.map (·.1), ∃ p ∈ vI ++ (vx ++ vr), p.1 = a := fun a q => by
    rcases List.mem_append.mp q with q | q <;> obtain ⟨p, hp, rfl⟩ := List.mem_map.mp q
    · exact ⟨p, List.mem_append_left _ hp, rfl⟩
    · exact ⟨p, List.mem_append_right _ (List.mem_append_left _ hp), rfl⟩
  have F1 := F0.extX k (fun a q => by
    obtain ⟨p, hp, rfl⟩ := inA a q
    have P := F.volat p hp
    exact ⟨P.2.1, P.2.2.1, P.2.2.2.1, fun r hr e => d.2.2 p.1 q r.1 (List.mem_map_of_mem hr) e.symm, P.2.2.2.2⟩)
  have lt : ∀ p ∈ vI ++ (vx ++ vr), p.1 < n := fun p hp => Nat.lt_of_lt_of_le (F.vlt p hp) hn
  have off : ∀ a, a < h.objs.size → g.get? a = none → g'.get? a = none := fun a q e => grow_off G e (Nat.lt_of_lt_of_le q hn)
  have back : ∀ p ∈ vx', ∃ q ∈ vx, q.1 = p.1 := fun p hp => by
    have : p.1 ∈ vx.map (·.1) := ha ▸ List.mem_map_of_mem hp
    obtain ⟨q, hq, e⟩ := List.mem_map.mp this
    exact ⟨q, hq, e⟩
  exact { F1 with
    keep := k'
    offL := off L F.ns.lt F.offL
    offC := fun x a e => ⟨off a (F.clt e) (F.offC x a e).1, (F1.offC x a e).2⟩
    volat := fun p hp => by
      rcases List.mem_append.mp hp with q | q
      · obtain ⟨r, hr, e⟩ := back p q
        have hm : r ∈ vI ++ (vx ++ vr) := List.mem_append_right _ (List.mem_append_left _ hr)
        have P := F.volat r hm
        rw [e] at P
        exact ⟨hv p q, off p.1 (e ▸ F.vlt r hm) P.2.1, P.2.2⟩
      · have P := F1.volat p q
        have Q := F.volat p (List.mem_append_right _ (List.mem_append_right _ q))
        exact ⟨P.1, off p.1 (F.vlt p (List.mem_append_right _ (List.mem_append_right _ q))) Q.2.1, P.2.2⟩
    vap := by
      rw [List.map_append, ha]
      have d1 := List.pairwise_append.mp d.1
      exact List.pairwise_append.mpr ⟨d1.2.1, d.2.1, fun x hx y hy => d.2.2 x (List.mem_append_right _ hx) y hy⟩
    k0 := F.k0.trans G.le
    gr := F.gr.trans G (Nat.le_trans F.sz hn) }
/-- a segment turned -/
theorem Frm.vseg {pre v v' post : Vol} (F : Frm c L cl m cm (pre ++ (v ++ post)) g h) (k : LeX (v.map (·.1)) h h') (hv : Vat h' v') (ha : v'.map (·.1) = v.map (·.1)) :
    Frm c L cl m cm (pre ++ (v' ++ post)) g h' := by
  have vap := F.vap
  rw [List.map_append, List.map_append] at vap
  have d := List.pairwise_append.mp vap
  have d2 := List.pairwise_append.mp d.2.1
  have F0 : Frm c L cl m cm (pre ++ post) g h := F.sub (by
    refine List.Sublist.append (List.Sublist.refl _) (List.sublist_append_right _ _))
  have F1 := F0.extX k (fun a q => by
    obtain ⟨p, hp, rfl⟩ := List.mem_map.mp q
    have P := F.volat p (List.mem_append_right _ (List.mem_append_left _ hp))
    refine ⟨P.2.1, P.2.2.1, P.2.2.2.1, fun r hr e => ?_, P.2.2.2.2⟩
    rcases List.mem_append.mp hr with hr | hr
    · exact d.2.2 r.1 (List.mem_map_of_mem hr) p.1 (List.mem_append_left _ (List.mem_map_of_mem hp)) e
    · exact d2.2.2 p.1 (List.mem_map_of_mem hp) r.1 (List.mem_map_of_mem hr) e.symm)
  exact { F1 with
    volat := fun p hp => by
      rcases List.mem_append.mp hp with q | q
      · exact F1.volat p (List.mem_append_left _ q)
      · rcases List.mem_append.mp q with q | q
        · have : p.1 ∈ v.map (·.1) := ha ▸ List.mem_map_of_mem q
          obtain ⟨r, hr, e⟩ := List.mem_map.mp this
          have P := F.volat r (List.mem_append_right _ (List.mem_append_left _ hr))
          rw [e] at P
          exact ⟨hv p q, P.2⟩
        · exact F1.volat p (List.mem_append_right _ q)
    vap := by rw [List.map_append, List.map_append, ha]; exact vap }
/-- one more volatile object that stands -/
theorem Frm.vadd {vol : Vol} {a : Addr} {p : Obj → Prop} (F : Frm c L cl m cm vol g h) (e : At h a p) (hg : g.get? a = none) (hL : a ≠ L) (hc : ∀ n b, (n, b) ∈ cl → b ≠ a) (hv : ∀ q ∈ vol, q.1 ≠ a) (hX : a ∈ c.X ∨ c.h₀.objs.size ≤ a) :
    Frm c L cl m cm ((a, p) :: vol) g h :=
  { F with
    volat := fun q hq => by
      rcases List.mem_cons.mp hq with rfl | hq
      · exact ⟨e, hg, hL, hc, hX⟩
      · exact F.volat q hq
    vap := by
      rw [List.map_cons]
      exact List.pairwise_cons.mpr ⟨fun b hb q => by
        obtain ⟨r, hr, rfl⟩ := List.mem_map.mp hb
        exact hv r hr q.symm, F.vap⟩ }
end

/-- g and the object at a, no more -/
theorem grow_one' {g h : Heap} {a : Addr} {o : Obj} {n : Nat} (k : Le g h) (e : h.get? a = some o) (hn : n ≤ a) : ∃ g', Grow n g g' ∧ Le g' h ∧ g'.get? a = some o ∧ ∀ b, g.get? b = none → b ≠ a → g'.get? b = none :=
  ⟨restr h fun b => (∃ x, g.get? b = some x) ∨ b = a, ⟨fun b x e' => restr_get.mpr ⟨k b x e', .inl ⟨x, e'⟩⟩, fun b x e' => by
      obtain ⟨e1, q | q⟩ := restr_get.mp e'
      · obtain ⟨y, hy⟩ := q
        have := k b y hy
        rw [e1] at this; cases this; exact .inl hy
      · exact .inr (q ▸ hn)⟩, fun b x e' => (restr_get.mp e').1, restr_get.mpr ⟨e, .inr rfl⟩, fun b e' n' => by
      cases q : (restr h fun b => (∃ x, g.get? b = some x) ∨ b = a).get? b with
      | none => rfl
      | some y =>
        obtain ⟨_, ⟨x, hx⟩ | q'⟩ := restr_get.mp q
        · rw [e'] at hx; cases hx
        · exact absurd q' n'⟩

/-- an iterator: the addresses that turn, what stands there, what it gives -/
structure ItR (w : World) (A : Around) (I : Addr) (n : Nat) (g : Heap) (P : Nat → Value → Heap → Prop) (V : Nat → Vol) (tgt : Expr) : Prop where
  adr : ∀ i, (V i).map (·.1) = (V 0).map (·.1)
  item : ∀ i s h t (Q : Value → Shared → Prop) (E : Value → Shared → Prop), i < n → Vat h (V i) → Le g h →
    (∀ v h' t', P i v h' → Vat h' (V (i + 1)) → LeX ((V 0).map (·.1)) h h' → Q v (upd s h' t')) →
    wpAny (model PR w) A (pyNext (.ref I)) (fun r s₁ => match r with | none => False | some v => wpAny (model PR w) A (letOwnedTupleGo tgt (.ref I) v) (fun _ s₂ => Q v s₂) E s₁) E (upd s h t)
  done : ∀ s h t (N : Shared → Prop) (E : Value → Shared → Prop), Vat h (V n) → Le g h → (∀ h' t', LeX ((V 0).map (·.1)) h h' → N (upd s h' t')) →
    wpAny (model PR w) A (pyNext (.ref I)) (fun r s₁ => match r with | none => N s₁ | some _ => False) E (upd s h t)
  self : ∀ i s h t (Q : Value → Shared → Prop) (E : Value → Shared → Prop), Vat h (V i) → Le g h → Q (.ref I) (upd s h t) → wpAny (model PR w) A (pyIter (.ref I)) Q E (upd s h t)
end Rg
end
section
/-! a list of our own making: append -/
open PySem PySem.W PyProof.Rows PySem.Calls
set_option autoImplicit false
set_option maxRecDepth 100000
namespace Rg
/-- a list of our own making -/
def pM (items : List Value) : Obj → Prop := fun o => ∃ n, o = { cls := .type "list", data := .seq items.toArray n }
theorem pM.l {items : List Value} {o : Obj} (x : pM items o) : pL items.toArray o := by obtain ⟨n, rfl⟩ := x; exact ⟨rfl, n, rfl⟩
theorem pM.at {h : Heap} {a : Addr} {items : List Value} (x : At h a (pM items)) : h.IsList a items.toArray := let ⟨o, e, r⟩ := x; ⟨o, e, r.l⟩
section
variable {w : World} {A : Around} {E : Value → Shared → Prop} {s : Shared} {h : Heap} {t : Nat} {Q : Value → Shared → Prop}
/-- a list of ours turned by f -/
theorem pM_update {l : Addr} {items : List Value} (hv : At h l (pM items)) (f : Array Value → Array Value) {new : List Value} (hf : f items.toArray = new.toArray) : At (h.update l (Obj.mapSeq f)) l (pM new) ∧ LeX [l] h (h.update l (Obj.mapSeq f)) := by
  obtain ⟨o, ho, n, rfl⟩ := hv
  refine ⟨⟨_, get?_update_seq (c := "list") ho f, ?_⟩, fun b o hb e => (Heap.get?_update_other _ _ (fun q => hb (by simp [q]))).trans e⟩
  rw [hf]
  exact ⟨_, rfl⟩
theorem appL {l : Addr} {items : List Value} {x : Value} (hv : At h l (pM items)) (hz : items.length ≤ 2 ^ 23) (q : ∀ h', At h' l (pM (items ++ [x])) → LeX [l] h h' → Q .none (upd s h' t)) :
    wpAny (model PR w) A (call (.builtin "list.append") [.ref l, x]) Q E (upd s h t) := by
  have hu := pM_update hv (·.push x) (new := items ++ [x]) (by simp)
  obtain ⟨o, ho, n, rfl⟩ := hv
  exact call_meets PySem.F.slot_list_append ⟨_, ho, rfl⟩ PySem.F.entry_list_append (PySem.F.args_list_append_2 _ _) (PySem.list_append l items.toArray n x (by rw [List.size_toArray]; rw [sizeLine_eq]; omega)) ⟨ho, q _ hu.1 hu.2⟩
end
end Rg
end
section
/-! the block of a list comprehension -/
open PySem PySem.W PyProof.Rows PySem.Calls
set_option autoImplicit false
set_option maxRecDepth 100000
namespace Rg
theorem lt_sizeLine {n : Nat} (h : n ≤ 2 ^ 23) : n ≤ sizeLine := by rw [sizeLine_eq]; omega
def pNs (m : Str → Option Value) : Obj → Prop := fun o => ∃ es ep, o.data = .dict es ep ∧ StrKeys es ∧ ∀ name, nsFind es name = m name
theorem at_ns {h : Heap} {C : Addr} {m : Str → Option Value} (x : h.Ns C m) : At h C (pNs m) := let ⟨_, _, _, e, r⟩ := x; ⟨_, e, _, _, r⟩
theorem ns_at {h : Heap} {C : Addr} {m : Str → Option Value} (x : At h C (pNs m)) : h.Ns C m := let ⟨_, e, _, _, r⟩ := x; ⟨_, _, _, e, r⟩
def freeN (sn : List (Str × NameKind)) : List Str := sn.foldl (fun acc x => if x.2 == .free then x.1 :: acc else acc) []
theorem cloN_names (sn : List (Str × NameKind)) (cl : List (Str × Addr)) : (cloN sn cl).map (·.1) = freeN sn := by
  unfold cloN freeN
  have gen : ∀ (sn : List (Str × NameKind)) (acc : List (Str × Addr)), (sn.foldl (fun acc x => if x.2 == .free then (x.1, (cl.lookup x.1).getD 0) :: acc else acc) acc).map (·.1) = sn.foldl (fun acc x => if x.2 == .free then x.1 :: acc else acc) (acc.map (·.1)) := by
    intro sn
    induction sn with
    | nil => intro acc; rfl
    | cons x r ih =>
      intro acc
      rw [List.foldl_cons, List.foldl_cons, ih]
      by_cases hk : (x.2 == NameKind.free) = true
      · rw [if_pos hk, if_pos hk]; rfl
      · rw [if_neg hk, if_neg hk]
  exact gen sn []
def freeOk (sn : List (Str × NameKind)) (cl : List (Str × Addr)) : Bool := sn.all fun x => x.2 != .free || (cl.lookup x.1).isSome
theorem freeOk_of {sn : List (Str × NameKind)} {cl : List (Str × Addr)} (h : freeOk sn cl = true) : ∀ x ∈ sn, x.2 = .free → (cl.lookup x.1).isSome = true := fun x hx e => by
  have := List.all_eq_true.mp h x hx
  rw [e] at this
  simpa using this
def tests (ifs : List Expr) (env : Env) : Sem Bool := forIn ifs true fun c r => if r = true then do let ok ← isTrue c env (eval c env); pure (ForInStep.yield ok) else pure (ForInStep.yield r)

section
variable {w : World} {A : Around} {E : Value → Shared → Prop} {s : Shared} {h g : Heap} {t : Nat} {names : List (Str × NameKind)} {env : Env}
  {c : Cx} {L : Addr} {cl : List (Str × Addr)} {m cm : Str → Option Value}

/-- what one turn of a block hands on -/
def TurnOk (c' : Cx) (s : Shared) (C : Addr) (cl' : List (Str × Addr)) (cm : Str → Option Value) (D : Addr) (ys : List Value) (Vi : Vol) (J : List Value → Heap → Vol → Prop) (ys' : List Value) (s₄ : Shared) : Prop :=
  ∃ h₄ t₄ g₄ vx₄ m₄, s₄ = upd s h₄ t₄ ∧ Frm c' C cl' m₄ cm ((D, pM ys) :: (Vi ++ vx₄)) g₄ h₄ ∧ J ys' g₄ vx₄

theorem lc_block {elt tgt iter : Expr} {ifs : List Expr} {scope : Scope} {pos : Pos} {I : Addr} {n : Nat} {P : Nat → Value → Heap → Prop} {V : Nat → Vol} {vx vr : Vol} {RR : Value → Addr → Result → Shared → Prop}
    (EF : EnvF env names cl L) (F : Frm c L cl m cm (V 0 ++ (vx ++ vr)) g h) (W : ItR w A I n g P V tgt) (hn : n ≤ 2 ^ 23)
    (hkind : scope.kind = .function) (hcell : ∀ y ∈ scope.names, y.2 ≠ .cell) (hfree : ∀ x ∈ scope.names, x.2 = .free → (cl.lookup x.1).isSome = true) (hnd : ((cloN scope.names cl).map (·.1)).Nodup)
    (J : Nat → List Value → Heap → Vol → Prop) (hJ : J 0 [] g vx) (hvx : ∀ i ys g' vx', J i ys g' vx' → vx'.map (·.1) = vx.map (·.1))
    (turn : ∀ C D cenv i ys g' vx' mC h' t' v, i < n → J i ys g' vx' → EnvF cenv (relN scope.names names) (cloN scope.names cl) C → Le g g' →
      Frm ⟨c.H0, h, g, (V 0).map (·.1) ++ vx.map (·.1)⟩ C (cloN scope.names cl) mC cm ((D, pM ys) :: (V (i + 1) ++ vx')) g' h' → P i v h' →
      wpAny (model PR w) A (assign tgt cenv v) (fun _ s₂ => wpAny (model PR w) A (tests ifs cenv) (fun ok s₃ =>
        if ok = true then wpAny (model PR w) A (eval elt cenv) (fun y s₄ => TurnOk ⟨c.H0, h, g, (V 0).map (·.1) ++ vx.map (·.1)⟩ s C (cloN scope.names cl) cm D ys (V (i + 1)) (J (i + 1)) (ys ++ [y]) s₄) (fun _ _ => False) s₃
        else TurnOk ⟨c.H0, h, g, (V 0).map (·.1) ++ vx.map (·.1)⟩ s C (cloN scope.names cl) cm D ys (V (i + 1)) (J (i + 1)) ys s₃) (fun _ _ => False) s₂) (fun _ _ => False) (upd s h' t'))
    (fin : ∀ C D ys g' gg vx' mC h₁ t₁, Frm c L cl m cm ((C, pNs mC) :: (vx' ++ vr)) gg h₁ → Le g g' → Le g' gg → At gg D (pM ys) → J n ys g' vx' → RR (.ref D) C (.ok .next) (upd s h₁ t₁)) :
    wpAny (model PR w) A (newList []) (fun acc s₃ => wpAny (model PR w) A (newFunctionEnv scope env.globals (cloN scope.names cl) [] env.qual none .none (some env)) (fun cenv s₄ =>
      codeAny (model PR w) A (.compStart (.ListComp elt [⟨tgt, iter, ifs, 0⟩] scope pos) 0 (.ref I) acc { cenv with scope := relabel scope env }) (RR acc cenv.locals) s₄) E s₃) E (upd s h t) := by
  refine wpAny_newObj_type (wpAny_newFunctionEnv hcell (by intro y hy; simp at hy) (fun h₁ hns₁ hsb₁ => ?_) hkind)
  dsimp only at hns₁ hsb₁ ⊢
  generalize hH2 : h.push { cls := .type "list", dict := none, data := .seq ([] : List Value).toArray } = H2 at hns₁ hsb₁ ⊢
  have hC : H2.objs.size = h.objs.size + 1 := by rw [← hH2, Heap.size_push]
  generalize hCC : H2.objs.size = C at hns₁ hsb₁ ⊢
  have hCD : h.objs.size < C := by omega
  have old : Le h h₁ := fun b o e => hsb₁.extBut b o (Nat.ne_of_lt (Nat.lt_trans (Heap.lt_size e) hCD)) (Heap.get?_push_of_some _ (hH2 ▸ Heap.get?_push_of_some _ e))
  have hD1 : h₁.get? h.objs.size = some { cls := .type "list", dict := none, data := .seq ([] : List Value).toArray } :=
    hsb₁.extBut _ _ (Nat.ne_of_lt hCD) (Heap.get?_push_of_some _ (hH2 ▸ Heap.get?_push_size _ rfl))
  have hs1 : h.objs.size ≤ h₁.objs.size := by rw [hsb₁.1, Heap.size_push, hCC]; omega
  have hcloM := cloN_mem hfree
  have cloIn : ∀ n a, (n, a) ∈ cloN scope.names cl → cl.lookup n = some a := fun n a q => hcloM (n, a) q
  have Fi := F.sub (vol' := V 0 ++ vx) (by rw [← List.append_assoc]; exact List.sublist_append_left _ _)
  have hmapX : (V 0 ++ vx).map (·.1) = (V 0).map (·.1) ++ vx.map (·.1) := List.map_append
  generalize hc' : (⟨c.H0, h, g, (V 0).map (·.1) ++ vx.map (·.1)⟩ : Cx) = c' at turn
  have hcenv : ∀ qual bl, EnvF (⟨relabel scope env, C, env.globals, cloN scope.names cl, qual, none, env.code, env.frame, bl⟩ : Env) (relN scope.names names) (cloN scope.names cl) C ∨ True := fun _ _ => .inr trivial
  have EC : EnvF { newEnv scope C env.globals (cloN scope.names cl) env.qual none .none (some env) builtinsNs with scope := relabel scope env } (relN scope.names names) (cloN scope.names cl) C :=
    ⟨relabel_names EF scope, hkind, rfl, rfl, EF.glob, EF.blt⟩
  have F1 : Frm c' C (cloN scope.names cl) (fun x => ([] : List (Str × Value)).reverse.lookup x) cm ((h.objs.size, pM []) :: (V 0 ++ vx)) g h₁ := by
    subst hc'
    refine ⟨hns₁, fun x a e => (F.cell x a (mem_of_lookup (cloIn x a e))).keeps old, hnd, ?_, F.keep.trans old, none_of_le F.keep (none_of_ge (Nat.le_of_lt hCD)), fun x a e => ?_, ?_, ?_, F.k0, ?_, old.toX, Nat.le_of_lt hCD, Grow.refl _ _⟩
    · have nd : (cloN scope.names cl).Pairwise fun x y => x.1 ≠ y.1 := List.pairwise_map.mp hnd
      refine List.Pairwise.imp_of_mem (fun {x y} hx hy hxy e => ?_) nd
      exact hxy (name_of_addr F.apart (mem_of_lookup (cloIn x.1 x.2 hx)) (e ▸ mem_of_lookup (cloIn y.1 y.2 hy)))
    · have q := F.offC x a (mem_of_lookup (cloIn x a e))
      exact ⟨q.1, Nat.ne_of_lt (Nat.lt_trans (F.clt (mem_of_lookup (cloIn x a e))) hCD)⟩
    · intro p hp
      rcases List.mem_cons.mp hp with rfl | hp
      · exact ⟨⟨_, hD1, 0, rfl⟩, none_of_le F.keep (none_of_ge (Nat.le_refl _)), Nat.ne_of_lt hCD, fun x a e => Nat.ne_of_lt (F.clt (mem_of_lookup (cloIn x a e))), .inr (Nat.le_refl _)⟩
      · have P := Fi.volat p hp
        refine ⟨At.le P.1 old, P.2.1, Nat.ne_of_lt (Nat.lt_trans (Fi.vlt p hp) hCD), fun x a e => P.2.2.2.1 x a (mem_of_lookup (cloIn x a e)), .inl ?_⟩
        rw [← hmapX]; exact List.mem_map_of_mem hp
    · rw [List.map_cons]
      refine List.pairwise_cons.mpr ⟨fun b hb q => ?_, Fi.vap⟩
      obtain ⟨p, hp, rfl⟩ := List.mem_map.mp hb
      exact absurd (Fi.vlt p hp) (Nat.not_lt.mpr (Nat.le_of_eq q))
    · exact Nat.le_trans (Nat.le_of_lt (Nat.lt_of_le_of_lt F.k0L F.ns.lt)) (Nat.le_of_lt hCD)
  have loop : ∀ s₃ : Shared, s₃ = upd s h₁ (t + ([] : List (Str × Value)).length) →
      codeAny (model PR w) A (.compLoop (.ListComp elt [⟨tgt, iter, ifs, 0⟩] scope pos) 0 (.ref I) (.ref h.objs.size) { newEnv scope C env.globals (cloN scope.names cl) env.qual none .none (some env) builtinsNs with scope := relabel scope env })
        (RR (.ref h.objs.size) C) s₃ := by
    rintro s₃ rfl
    refine compLoop_gen (fun k s' => ∃ h' t' i ys g' vx' mC, s' = upd s h' t' ∧ i ≤ n ∧ k = n + 1 - i ∧ ys.length ≤ i ∧ Le g g' ∧ Frm c' C (cloN scope.names cl) mC cm ((h.objs.size, pM ys) :: (V i ++ vx')) g' h' ∧ J i ys g' vx') ?_ (n + 1)
      ⟨h₁, _, 0, [], g, vx, _, rfl, Nat.zero_le _, rfl, Nat.le_refl _, Le.refl _, F1, hJ⟩
    rintro k s' ⟨h', t', i, ys, g', vx', mC, rfl, hi, rfl, hys, hgg, F', hJ'⟩
    refine ⟨fun _ _ => False, ?_, fun _ _ f => f.elim⟩
    by_cases hlt : i < n
    · have vi : Vat h' (V i) := fun p hp => F'.vat p (List.mem_cons_of_mem _ (List.mem_append_left _ hp))
      refine wpAny_mono (W.item i s h' t' (fun v s₂ => wpAny (model PR w) A (assign tgt { newEnv scope C env.globals (cloN scope.names cl) env.qual none .none (some env) builtinsNs with scope := relabel scope env } v) (fun _ s₂ => wpAny (model PR w) A (tests ifs { newEnv scope C env.globals (cloN scope.names cl) env.qual none .none (some env) builtinsNs with scope := relabel scope env }) (fun ok s₃ =>
            if ok = true then wpAny (model PR w) A (eval elt { newEnv scope C env.globals (cloN scope.names cl) env.qual none .none (some env) builtinsNs with scope := relabel scope env }) (fun x s₄ =>
              wpAny (model PR w) A (call (.builtin "list.append") [.ref h.objs.size, x]) (fun _ s₅ => ∃ m, m < n + 1 - i ∧ ∃ h' t' i ys g' vx' mC, s₅ = upd s h' t' ∧ i ≤ n ∧ m = n + 1 - i ∧ ys.length ≤ i ∧ Le g g' ∧ Frm c' C (cloN scope.names cl) mC cm ((h.objs.size, pM ys) :: (V i ++ vx')) g' h' ∧ J i ys g' vx') (fun _ _ => False) s₄) (fun _ _ => False) s₃
            else ∃ m, m < n + 1 - i ∧ ∃ h' t' i ys g' vx' mC, s₃ = upd s h' t' ∧ i ≤ n ∧ m = n + 1 - i ∧ ys.length ≤ i ∧ Le g g' ∧ Frm c' C (cloN scope.names cl) mC cm ((h.objs.size, pM ys) :: (V i ++ vx')) g' h' ∧ J i ys g' vx') (fun _ _ => False) s₂) (fun _ _ => False) s₂) (fun _ _ => False) hlt vi (hgg.trans F'.keep) ?_) (fun r s₁ z => ?_) fun _ _ f => f.elim
      · intro v h₂ t₂ hPv hV hX
        have F2 := F'.vseg (pre := [(h.objs.size, pM ys)]) (v := V i) (v' := V (i + 1)) (post := vx') ((W.adr i).symm ▸ hX) hV ((W.adr (i + 1)).trans (W.adr i).symm)
        refine wpAny_mono (turn C h.objs.size _ i ys g' vx' mC h₂ t₂ v hlt hJ' EC hgg F2 hPv) (fun _ s₂ z => wpAny_mono z (fun ok s₃ z => ?_) fun _ _ f => f.elim) fun _ _ f => f.elim
        cases ok with
        | false =>
          simp only [Bool.false_eq_true, if_false] at z ⊢
          obtain ⟨h₄, t₄, g₄, vx₄, m₄, rfl, F4, hJ4⟩ := z
          exact ⟨n + 1 - (i + 1), by omega, h₄, t₄, i + 1, ys, g₄, vx₄, m₄, rfl, hlt, rfl, by omega, (by have := F4.gr.le; subst hc'; exact this), F4, hJ4⟩
        | true =>
          simp only [if_true] at z ⊢
          refine wpAny_mono z (fun y s₄ z => ?_) fun _ _ f => f.elim
          obtain ⟨h₄, t₄, g₄, vx₄, m₄, rfl, F4, hJ4⟩ := z
          refine appL (F4.vat _ (.head _)) (by omega) fun h₅ hl5 hs5 => ?_
          have F5 := F4.vset (pre := []) (p₂ := pM (ys ++ [y])) hs5 hl5
          exact ⟨n + 1 - (i + 1), by omega, h₅, t₄, i + 1, ys ++ [y], g₄, vx₄, m₄, rfl, hlt, rfl, by rw [List.length_append, List.length_singleton]; omega, (by have := F4.gr.le; subst hc'; exact this), F5, hJ4⟩
      · cases r with
        | none => exact z.elim
        | some v => exact z
    · have hin : i = n := by omega
      subst hin
      have vi : Vat h' (V i) := fun p hp => F'.vat p (List.mem_cons_of_mem _ (List.mem_append_left _ hp))
      refine wpAny_mono (W.done s h' t' (fun s₁ => RR (.ref h.objs.size) C (.ok .next) s₁) (fun _ _ => False) vi (hgg.trans F'.keep) ?_) (fun r s₁ z => ?_) fun _ _ f => f.elim
      · intro h₂ t₂ hX
        have ax := hvx _ _ _ _ hJ'
        have Fp := F'.perm (vol' := V i ++ (([] : Vol) ++ ((h.objs.size, pM ys) :: vx'))) (by rw [List.nil_append]; exact List.perm_middle)
        have Fv := Fp.after (vx' := []) (g' := g') (by rw [W.adr i, List.map_nil, List.append_nil]; exact hX) (fun _ q => by cases q) rfl (Grow.refl h'.objs.size g') (Nat.le_refl _) (fun b o e => hX b o (fun q => by
          obtain ⟨p, hp, rfl⟩ := List.mem_map.mp ((W.adr i).symm ▸ q)
          have := (F'.volat p (List.mem_cons_of_mem _ (List.mem_append_left _ hp))).2.1
          rw [this] at e; cases e) (F'.keep b o e))
        rw [List.nil_append] at Fv
        obtain ⟨oD, hoD, hlD⟩ := Fv.vat _ (.head _)
        obtain ⟨gg, G1, kgg, hgD, offgg⟩ := grow_one' (n := h.objs.size) Fv.keep hoD (Nat.le_refl _)
        have G0 : Grow h.objs.size g g' := by have := F'.gr; subst hc'; exact this
        have hold : LeX ((V 0).map (·.1) ++ vx.map (·.1)) h h₂ := by
          have := F'.old
          subst hc'
          exact this.trans (hX.mono fun a q => List.mem_append_left _ q)
        have FF := F.after hold (fun p hp => Fv.vat p (List.mem_cons_of_mem _ hp)) ax (G0.trans G1 (Nat.le_refl _)) (Nat.le_refl _) kgg
        have FC := FF.vadd (a := C) (at_ns Fv.ns) (offgg C Fv.offL (Nat.ne_of_gt hCD)) (Nat.ne_of_gt (Nat.lt_trans F.ns.lt hCD))
          (fun x b q => Nat.ne_of_lt (Nat.lt_trans (F.clt q) hCD)) (fun q hq => by
            rcases List.mem_append.mp hq with hq | hq
            · have : q.1 ∈ vx.map (·.1) := ax ▸ List.mem_map_of_mem hq
              obtain ⟨r, hr, e⟩ := List.mem_map.mp this
              exact e ▸ Nat.ne_of_lt (Nat.lt_trans (F.vlt r (List.mem_append_right _ (List.mem_append_left _ hr))) hCD)
            · exact Nat.ne_of_lt (Nat.lt_trans (F.vlt q (List.mem_append_right _ (List.mem_append_right _ hq))) hCD)) (.inr (Nat.le_trans F.sz (Nat.le_of_lt hCD)))
        exact fin C h.objs.size ys g' gg vx' mC h₂ t₂ FC hgg G1.le ⟨oD, hgD, hlD⟩ hJ'
      · cases r with
        | none => exact z
        | some v => exact z.elim
  exact codeAny_compStart_list (loop _ rfl) (W.self 0 s h₁ _ _ _ (fun p hp => F1.vat p (List.mem_cons_of_mem _ (List.mem_append_left _ hp))) F1.keep (loop _ rfl))

/-- the block behind the first iterator -/
def Blk (w : World) (A : Around) (E : Value → Shared → Prop) (env : Env) (cl : List (Str × Addr)) (elt tgt iter : Expr) (ifs : List Expr) (scope : Scope) (pos : Pos) (use : Option (Value → Sem Unit)) (Q : Value → Shared → Prop) (it : Value) (s₂ : Shared) : Prop :=
  wpAny (model PR w) A (newList []) (fun acc s₃ => wpAny (model PR w) A (newFunctionEnv scope env.globals (cloN scope.names cl) [] env.qual none .none (some env)) (fun cenv s₄ =>
      codeAny (model PR w) A (.compStart (.ListComp elt [⟨tgt, iter, ifs, 0⟩] scope pos) 0 it acc { cenv with scope := relabel scope env }) (compPost (model PR w) A E use Q acc cenv.locals) s₄) E s₃) E s₂

theorem lc_open {elt tgt iter : Expr} {ifs : List Expr} {scope : Scope} {pos : Pos} {Q : Value → Shared → Prop} {s : Shared} (EF : EnvF env names cl L)
    (q : wpAny (model PR w) A (eval iter env) (fun x s₁ => wpAny (model PR w) A (pyIter x) (Blk w A E env cl elt tgt iter ifs scope pos none Q) E s₁) E s)
    (hfree : freeOk scope.names cl = true := by rfl) (hkind : scope.kind = .function := by rfl)
    (hnames : ∀ x ∈ scope.names, x.2 = .local → scope.names.lookup x.1 = some .local := by decide)
    (hs : ∀ x, foldedSetIterable iter env x = pure x := by intro _; rfl) :
    wpAny (model PR w) A (eval (.ListComp elt [⟨tgt, iter, ifs, 0⟩] scope pos) env) Q E s := by
  rw [eval_ListComp]
  exact wpAny_comprehension_free (use := none) rfl hs (closure_eq EF scope (freeOk_of hfree)) hkind hnames q

theorem lc_close {elt tgt iter : Expr} {ifs : List Expr} {scope : Scope} {pos : Pos} {I : Addr} {n : Nat} {P : Nat → Value → Heap → Prop} {V : Nat → Vol} {vx vr : Vol} {Q : Value → Shared → Prop}
    (EF : EnvF env names cl L) (F : Frm c L cl m cm (V 0 ++ (vx ++ vr)) g h) (W : ItR w A I n g P V tgt) (hn : n ≤ 2 ^ 23)
    (J : Nat → List Value → Heap → Vol → Prop) (hJ : J 0 [] g vx) (hvx : ∀ i ys g' vx', J i ys g' vx' → vx'.map (·.1) = vx.map (·.1))
    (turn : ∀ C D cenv i ys g' vx' mC h' t' v, i < n → J i ys g' vx' → EnvF cenv (relN scope.names names) (cloN scope.names cl) C → Le g g' →
      Frm ⟨c.H0, h, g, (V 0).map (·.1) ++ vx.map (·.1)⟩ C (cloN scope.names cl) mC cm ((D, pM ys) :: (V (i + 1) ++ vx')) g' h' → P i v h' →
      wpAny (model PR w) A (assign tgt cenv v) (fun _ s₂ => wpAny (model PR w) A (tests ifs cenv) (fun ok s₃ =>
        if ok = true then wpAny (model PR w) A (eval elt cenv) (fun y s₄ => TurnOk ⟨c.H0, h, g, (V 0).map (·.1) ++ vx.map (·.1)⟩ s C (cloN scope.names cl) cm D ys (V (i + 1)) (J (i + 1)) (ys ++ [y]) s₄) (fun _ _ => False) s₃
        else TurnOk ⟨c.H0, h, g, (V 0).map (·.1) ++ vx.map (·.1)⟩ s C (cloN scope.names cl) cm D ys (V (i + 1)) (J (i + 1)) ys s₃) (fun _ _ => False) s₂) (fun _ _ => False) (upd s h' t'))
    (fin : ∀ D ys g' gg vx' hh tt, Frm c L cl m cm (vx' ++ vr) gg hh → Le g g' → Le g' gg → gg.IsList D ys.toArray → J n ys g' vx' → Q (.ref D) (upd s hh tt))
    (hkind : scope.kind = .function := by rfl) (hcell : ∀ y ∈ scope.names, y.2 ≠ .cell := by decide) (hnd : (freeN scope.names).Nodup := by decide) (hfree : freeOk scope.names cl = true := by rfl) :
    Blk w A E env cl elt tgt iter ifs scope pos none Q (.ref I) (upd s h t) := by
  refine lc_block (RR := fun acc C => compPost (model PR w) A E none Q acc C) EF F W hn hkind hcell (freeOk_of hfree) (by rw [cloN_names]; exact hnd) J hJ hvx turn ?_
  intro C D ys g' gg vx' mC h₁ t₁ FC k1 k2 hl hJ'
  refine ⟨mC, ns_at (FC.vat _ (.head _)), fun h'' hs => ?_⟩
  have F2 := FC.after (vI := [(C, pNs mC)]) (vx := []) (vx' := []) (vr := vx' ++ vr) (le_of_sameBut hs |>.mono (by simp)) (fun _ q => by cases q) rfl (Grow.refl h₁.objs.size gg) (Nat.le_refl _)
    (fun b o e => (hs.2 b fun q => by rw [q, (FC.volat _ (.head _)).2.1] at e; cases e).trans (FC.keep b o e))
  exact fin D ys g' gg vx' h'' t₁ F2 k1 k2 (pM.at hl) hJ'

/-- the block, its list without a dict of its own -/
theorem lc_closeN {elt tgt iter : Expr} {ifs : List Expr} {scope : Scope} {pos : Pos} {I : Addr} {n : Nat} {P : Nat → Value → Heap → Prop} {V : Nat → Vol} {vx vr : Vol} {Q : Value → Shared → Prop}
    (EF : EnvF env names cl L) (F : Frm c L cl m cm (V 0 ++ (vx ++ vr)) g h) (W : ItR w A I n g P V tgt) (hn : n ≤ 2 ^ 23)
    (J : Nat → List Value → Heap → Vol → Prop) (hJ : J 0 [] g vx) (hvx : ∀ i ys g' vx', J i ys g' vx' → vx'.map (·.1) = vx.map (·.1))
    (turn : ∀ C D cenv i ys g' vx' mC h' t' v, i < n → J i ys g' vx' → EnvF cenv (relN scope.names names) (cloN scope.names cl) C → Le g g' →
      Frm ⟨c.H0, h, g, (V 0).map (·.1) ++ vx.map (·.1)⟩ C (cloN scope.names cl) mC cm ((D, pM ys) :: (V (i + 1) ++ vx')) g' h' → P i v h' →
      wpAny (model PR w) A (assign tgt cenv v) (fun _ s₂ => wpAny (model PR w) A (tests ifs cenv) (fun ok s₃ =>
        if ok = true then wpAny (model PR w) A (eval elt cenv) (fun y s₄ => TurnOk ⟨c.H0, h, g, (V 0).map (·.1) ++ vx.map (·.1)⟩ s C (cloN scope.names cl) cm D ys (V (i + 1)) (J (i + 1)) (ys ++ [y]) s₄) (fun _ _ => False) s₃
        else TurnOk ⟨c.H0, h, g, (V 0).map (·.1) ++ vx.map (·.1)⟩ s C (cloN scope.names cl) cm D ys (V (i + 1)) (J (i + 1)) ys s₃) (fun _ _ => False) s₂) (fun _ _ => False) (upd s h' t'))
    (fin : ∀ D ys g' gg vx' hh tt, Frm c L cl m cm (vx' ++ vr) gg hh → Le g g' → Le g' gg → At gg D (pM ys) → J n ys g' vx' → Q (.ref D) (upd s hh tt))
    (hkind : scope.kind = .function := by rfl) (hcell : ∀ y ∈ scope.names, y.2 ≠ .cell := by decide) (hnd : (freeN scope.names).Nodup := by decide) (hfree : freeOk scope.names cl = true := by rfl) :
    Blk w A E env cl elt tgt iter ifs scope pos none Q (.ref I) (upd s h t) := by
  refine lc_block (RR := fun acc C => compPost (model PR w) A E none Q acc C) EF F W hn hkind hcell (freeOk_of hfree) (by rw [cloN_names]; exact hnd) J hJ hvx turn ?_
  intro C D ys g' gg vx' mC h₁ t₁ FC k1 k2 hl hJ'
  refine ⟨mC, ns_at (FC.vat _ (.head _)), fun h'' hs => ?_⟩
  have F2 := FC.after (vI := [(C, pNs mC)]) (vx := []) (vx' := []) (vr := vx' ++ vr) (le_of_sameBut hs |>.mono (by simp)) (fun _ q => by cases q) rfl (Grow.refl h₁.objs.size gg) (Nat.le_refl _)
    (fun b o e => (hs.2 b fun q => by rw [q, (FC.volat _ (.head _)).2.1] at e; cases e).trans (FC.keep b o e))
  exact fin D ys g' gg vx' h'' t₁ F2 k1 k2 hl hJ'

/-- a block stored into a local -/
theorem lc_openA {elt tgt iter : Expr} {ifs : List Expr} {scope : Scope} {pos spos py : Pos} {y : Str} {Q : Flow → Shared → Prop} {s : Shared} (EF : EnvF env names cl L) (hy : names.lookup y = some .local)
    (q : wpAny (model PR w) A (eval iter env) (fun x s₁ => wpAny (model PR w) A (pyIter x) (Blk w A E env cl elt tgt iter ifs scope pos (some (assign (.Name y py) env)) (fun _ s' => Q .next s')) E s₁) E s)
    (hfree : freeOk scope.names cl = true := by rfl)
    (hline : (py.line == pos.line && !(scope.names.any fun (n, k) => n == y && (k == .local || k == .cell))) = true := by rfl) (hkind : scope.kind = .function := by rfl)
    (hnames : ∀ x ∈ scope.names, x.2 = .local → scope.names.lookup x.1 = some .local := by decide)
    (hs : ∀ x, foldedSetIterable iter env x = pure x := by intro _; rfl) :
    wpAny (model PR w) A (exec (.Assign [.Name y py] (.ListComp elt [⟨tgt, iter, ifs, 0⟩] scope pos) spos) env) Q E s := by
  have hsw : swapsWith (.ListComp elt [⟨tgt, iter, ifs, 0⟩] scope pos) (some (.Name y py)) spos.line env = pure true := by
    show (pure (env.blockKind == .function && env.kindOf y == some .local && py.line == pos.line && !(scope.names.any fun (n, k) => n == y && (k == .local || k == .cell))) : Sem Bool) = pure true
    rw [EF.kindOf, hy]
    have hb : env.blockKind = .function := by unfold Env.blockKind; rw [EF.kind]; rfl
    rw [hb]
    have := Bool.and_eq_true_iff.mp hline
    rw [this.1, this.2]
    rfl
  rw [exec_Assign_Name_used _ _ _ _ hsw]
  refine wpAny_bind (wpAny_standAt (wpAny_bind ?_))
  show wpAny _ A (do let _ ← comprehension (.ListComp elt [⟨tgt, iter, ifs, 0⟩] scope pos) scope env _ (newList []) false (eval iter env) (some (assign (.Name y py) env))) _ _ s
  exact wpAny_bind (wpAny_mono (wpAny_comprehension_free (use := some (assign (.Name y py) env)) (Q := fun _ s' => Q .next s') rfl hs (closure_eq EF scope (freeOk_of hfree)) hkind hnames q) (fun _ s' hq => wpAny_pure (wpAny_pure hq)) fun _ _ e => e)

theorem lc_closeA {elt tgt iter : Expr} {ifs : List Expr} {scope : Scope} {pos py : Pos} {y : Str} {I : Addr} {n : Nat} {P : Nat → Value → Heap → Prop} {V : Nat → Vol} {vx vr : Vol} {Q : Value → Shared → Prop}
    (EF : EnvF env names cl L) (hy : names.lookup y = some .local) (F : Frm c L cl m cm (V 0 ++ (vx ++ vr)) g h) (W : ItR w A I n g P V tgt) (hn : n ≤ 2 ^ 23)
    (J : Nat → List Value → Heap → Vol → Prop) (hJ : J 0 [] g vx) (hvx : ∀ i ys g' vx', J i ys g' vx' → vx'.map (·.1) = vx.map (·.1))
    (turn : ∀ C D cenv i ys g' vx' mC h' t' v, i < n → J i ys g' vx' → EnvF cenv (relN scope.names names) (cloN scope.names cl) C → Le g g' →
      Frm ⟨c.H0, h, g, (V 0).map (·.1) ++ vx.map (·.1)⟩ C (cloN scope.names cl) mC cm ((D, pM ys) :: (V (i + 1) ++ vx')) g' h' → P i v h' →
      wpAny (model PR w) A (assign tgt cenv v) (fun _ s₂ => wpAny (model PR w) A (tests ifs cenv) (fun ok s₃ =>
        if ok = true then wpAny (model PR w) A (eval elt cenv) (fun y s₄ => TurnOk ⟨c.H0, h, g, (V 0).map (·.1) ++ vx.map (·.1)⟩ s C (cloN scope.names cl) cm D ys (V (i + 1)) (J (i + 1)) (ys ++ [y]) s₄) (fun _ _ => False) s₃
        else TurnOk ⟨c.H0, h, g, (V 0).map (·.1) ++ vx.map (·.1)⟩ s C (cloN scope.names cl) cm D ys (V (i + 1)) (J (i + 1)) ys s₃) (fun _ _ => False) s₂) (fun _ _ => False) (upd s h' t'))
    (fin : ∀ D ys g' gg vx' hh tt, Frm c L cl (fun x => if x = y then some (.ref D) else m x) cm (vx' ++ vr) gg hh → Le g g' → Le g' gg → gg.IsList D ys.toArray → J n ys g' vx' → Q .none (upd s hh tt))
    (hkind : scope.kind = .function := by rfl) (hcell : ∀ y ∈ scope.names, y.2 ≠ .cell := by decide) (hnd : (freeN scope.names).Nodup := by decide) (hfree : freeOk scope.names cl = true := by rfl) :
    Blk w A E env cl elt tgt iter ifs scope pos (some (assign (.Name y py) env)) Q (.ref I) (upd s h t) := by
  refine lc_block (RR := fun acc C => compPost (model PR w) A E (some (assign (.Name y py) env)) Q acc C) EF F W hn hkind hcell (freeOk_of hfree) (by rw [cloN_names]; exact hnd) J hJ hvx turn ?_
  intro C D ys g' gg vx' mC h₁ t₁ FC k1 k2 hl hJ'
  show wpAny _ A (assign (.Name y py) env (.ref D)) _ _ _
  refine wpAny_assign_Name (stL EF FC hy fun h₂ t₂ FD => ?_)
  refine ⟨mC, ns_at (FD.vat _ (.head _)), fun h'' hs => ?_⟩
  have F2 := FD.after (vI := [(C, pNs mC)]) (vx := []) (vx' := []) (vr := vx' ++ vr) (le_of_sameBut hs |>.mono (by simp)) (fun _ q => by cases q) rfl (Grow.refl h₂.objs.size gg) (Nat.le_refl _)
    (fun b o e => (hs.2 b fun q => by rw [q, (FD.volat _ (.head _)).2.1] at e; cases e).trans (FD.keep b o e))
  exact fin D ys g' gg vx' h'' t₂ F2 k1 k2 (pM.at hl) hJ'
theorem lc_closeAN {elt tgt iter : Expr} {ifs : List Expr} {scope : Scope} {pos py : Pos} {y : Str} {I : Addr} {n : Nat} {P : Nat → Value → Heap → Prop} {V : Nat → Vol} {vx vr : Vol} {Q : Value → Shared → Prop}
    (EF : EnvF env names cl L) (hy : names.lookup y = some .local) (F : Frm c L cl m cm (V 0 ++ (vx ++ vr)) g h) (W : ItR w A I n g P V tgt) (hn : n ≤ 2 ^ 23)
    (J : Nat → List Value → Heap → Vol → Prop) (hJ : J 0 [] g vx) (hvx : ∀ i ys g' vx', J i ys g' vx' → vx'.map (·.1) = vx.map (·.1))
    (turn : ∀ C D cenv i ys g' vx' mC h' t' v, i < n → J i ys g' vx' → EnvF cenv (relN scope.names names) (cloN scope.names cl) C → Le g g' →
      Frm ⟨c.H0, h, g, (V 0).map (·.1) ++ vx.map (·.1)⟩ C (cloN scope.names cl) mC cm ((D, pM ys) :: (V (i + 1) ++ vx')) g' h' → P i v h' →
      wpAny (model PR w) A (assign tgt cenv v) (fun _ s₂ => wpAny (model PR w) A (tests ifs cenv) (fun ok s₃ =>
        if ok = true then wpAny (model PR w) A (eval elt cenv) (fun y s₄ => TurnOk ⟨c.H0, h, g, (V 0).map (·.1) ++ vx.map (·.1)⟩ s C (cloN scope.names cl) cm D ys (V (i + 1)) (J (i + 1)) (ys ++ [y]) s₄) (fun _ _ => False) s₃
        else TurnOk ⟨c.H0, h, g, (V 0).map (·.1) ++ vx.map (·.1)⟩ s C (cloN scope.names cl) cm D ys (V (i + 1)) (J (i + 1)) ys s₃) (fun _ _ => False) s₂) (fun _ _ => False) (upd s h' t'))
    (fin : ∀ D ys g' gg vx' hh tt, Frm c L cl (fun x => if x = y then some (.ref D) else m x) cm (vx' ++ vr) gg hh → Le g g' → Le g' gg → At gg D (pM ys) → J n ys g' vx' → Q .none (upd s hh tt))
    (hkind : scope.kind = .function := by rfl) (hcell : ∀ y ∈ scope.names, y.2 ≠ .cell := by decide) (hnd : (freeN scope.names).Nodup := by decide) (hfree : freeOk scope.names cl = true := by rfl) :
    Blk w A E env cl elt tgt iter ifs scope pos (some (assign (.Name y py) env)) Q (.ref I) (upd s h t) := by
  refine lc_block (RR := fun acc C => compPost (model PR w) A E (some (assign (.Name y py) env)) Q acc C) EF F W hn hkind hcell (freeOk_of hfree) (by rw [cloN_names]; exact hnd) J hJ hvx turn ?_
  intro C D ys g' gg vx' mC h₁ t₁ FC k1 k2 hl hJ'
  show wpAny _ A (assign (.Name y py) env (.ref D)) _ _ _
  refine wpAny_assign_Name (stL EF FC hy fun h₂ t₂ FD => ?_)
  refine ⟨mC, ns_at (FD.vat _ (.head _)), fun h'' hs => ?_⟩
  have F2 := FD.after (vI := [(C, pNs mC)]) (vx := []) (vx' := []) (vr := vx' ++ vr) (le_of_sameBut hs |>.mono (by simp)) (fun _ q => by cases q) rfl (Grow.refl h₂.objs.size gg) (Nat.le_refl _)
    (fun b o e => (hs.2 b fun q => by rw [q, (FD.volat _ (.head _)).2.1] at e; cases e).trans (FD.keep b o e))
  exact fin D ys g' gg vx' h'' t₂ F2 k1 k2 hl hJ'
end
end Rg
end
section
/-! iterators: lists, tuples, ranges -/
open PySem PySem.W PyProof.Rows PySem.Calls
set_option autoImplicit false
set_option maxRecDepth 100000
namespace Rg
section
variable {w : World} {A : Around} {s : Shared} {h : Heap} {t : Nat}
def ownKinds : List String := ["enumerate", "zip", "dict_itemiterator", "dict_reverseitemiterator", "odict_iterator", "itertools.zip_longest", "itertools.pairwise"]
theorem go_none {tgt : Expr} {I : Addr} {o : Obj} {v : Value} {T : String} {E : Value → Shared → Prop} {Q : Unit → Shared → Prop} (ho : s.heap.get? I = some o) (hc : o.cls = .type T) (hT : ownKinds.contains T = false) (q : Q () s) :
    wpAny (model PR w) A (letOwnedTupleGo tgt (.ref I) v) Q E s := by
  have body : wpAny (model PR w) A (match (Value.ref I, v) with
      | (.ref r, .ref a) => load r >>= fun o => (match o.cls, o.data with
        | .type n, .fields vs => if (ownKinds.contains n && vs[0]? == some (rawInt a)) = true then (do rule "for.unpacks-the-owned-tuple"; updateField r 0 .none) else pure ()
        | _, _ => pure () : Sem Unit)
      | _ => pure () : Sem Unit) Q E s := by
    cases v <;> first | exact wpAny_pure q | skip
    refine wpAny_bind (wpAny_load ho ?_)
    rw [hc]
    cases o.data <;> first | exact wpAny_pure q | skip
    dsimp only
    rw [hT, Bool.false_and, if_neg Bool.false_ne_true]
    exact wpAny_pure q
  cases tgt <;> first | exact wpAny_pure q | skip
  all_goals (cases v <;> exact body)
end
def pLI (l : Addr) (i : Nat) : Obj → Prop := fun o => o.cls = .type "list_iterator" ∧ o.data = .fields #[.ref l, .int i 0]
def pTI (l : Addr) (i : Nat) : Obj → Prop := fun o => o.cls = .type "tuple_iterator" ∧ o.data = .fields #[.ref l, .int i 0]
def pRI (x left : Int) : Obj → Prop := fun o => o = { cls := .type "range_iterator", data := .fields #[rawInt x, rawInt left, rawInt 1] }
def V1 (I : Addr) (p : Nat → Obj → Prop) : Nat → Vol := fun i => [(I, p i)]
theorem vat1 {h : Heap} {I : Addr} {p : Obj → Prop} (x : At h I p) : Vat h [(I, p)] := fun q hq => by rw [List.mem_singleton.mp hq]; exact x
theorem extBut_le {a : Addr} {h h' : Heap} (x : Heap.ExtBut a h h') : LeX [a] h h' := fun b o n e => x b o (by simpa using n) e

theorem ItR.list {w : World} {A : Around} {I l : Addr} {items : Array Value} {g : Heap} {tgt : Expr} (hh : A.handled = none) (hI : g.get? I = none) (hl : g.IsList l items) :
    ItR w A I items.size g (fun i v _ => items[i]? = some v) (V1 I (pLI l)) tgt where
  adr := fun _ => rfl
  item := fun i s h t Q E hi hv k q => by
    have hne : l ≠ I := fun e => by obtain ⟨o, ho, _⟩ := hl; rw [e, hI] at ho; cases ho
    refine wpAny_pyNext_list_item (s := upd s h t) (hv _ (.head _)) (isList_le hl k) (x := items[i]) (by simp [hi]) fun h' hit' hs' => ?_
    obtain ⟨o, ho, hc, hd⟩ := id hit'
    exact go_none (s := upd s h' t) ho hc (by decide) (q _ h' t (by simp [hi]) (vat1 hit') (le_of_sameBut hs'))
  done := fun s h t N E hv k q => wpAny_pyNext_list_end (s := upd s h t) hh (hv _ (.head _)) (isList_le hl k) (by simp) fun h' he => q h' t (extBut_le he)
  self := fun i s h t Q E hv _ q => wpAny_pyIter_listiter (s := upd s h t) (hv _ (.head _)) q
theorem ItR.tuple {w : World} {A : Around} {I l : Addr} {items : Array Value} {g : Heap} {tgt : Expr} (hh : A.handled = none) (hI : g.get? I = none) (hl : IsTup g l items) :
    ItR w A I items.size g (fun i v _ => items[i]? = some v) (V1 I (pTI l)) tgt where
  adr := fun _ => rfl
  item := fun i s h t Q E hi hv k q => by
    refine wpAny_pyNext_tuple_item (s := upd s h t) (hv _ (.head _)) (isTup_le hl k) (x := items[i]) (by simp [hi]) fun h' hit' hs' => ?_
    obtain ⟨o, ho, hc, hd⟩ := id hit'
    exact go_none (s := upd s h' t) ho hc (by decide) (q _ h' t (by simp [hi]) (vat1 hit') (le_of_sameBut hs'))
  done := fun s h t N E hv k q => wpAny_pyNext_tuple_end (s := upd s h t) hh (hv _ (.head _)) (isTup_le hl k) (by simp) fun h' he => q h' t (extBut_le he)
  self := fun i s h t Q E hv _ q => wpAny_pyIter_tupleiter (s := upd s h t) (hv _ (.head _)) q
theorem ItR.range {w : World} {A : Around} {I : Addr} {n : Nat} {g : Heap} {tgt : Expr} (hh : A.handled = none) :
    ItR w A I n g (fun i v _ => ∃ tk, v = .int (i : Int) tk) (V1 I (fun i => pRI i ((n : Int) - (i : Nat)))) tgt where
  adr := fun _ => rfl
  item := fun i s h t Q E hi hv k q => by
    obtain ⟨o, ho, rfl⟩ := hv _ (.head _)
    refine wpAny_pyNext_range_item (s := upd s h t) (step := 1) ho (by omega) fun h' hit' hs' => ?_
    refine go_none (s := upd s h' (t + 1)) hit' rfl (by decide) (q _ h' (t + 1) ⟨_, rfl⟩ (vat1 ⟨_, hit', ?_⟩) (le_of_sameBut hs'))
    show _ = _
    congr 3
    · rw [show ((i : Int) + 1) = ((i + 1 : Nat) : Int) by omega, show ((n : Int) - (i : Nat) - 1) = (n : Int) - ((i + 1 : Nat) : Int) by omega]
  done := fun s h t N E hv k q => by
    obtain ⟨o, ho, rfl⟩ := hv _ (.head _)
    exact wpAny_pyNext_range_end (s := upd s h t) (step := 1) hh ho (by omega) fun h' he => q h' t (extBut_le he)
  self := fun i s h t Q E hv _ q => by
    obtain ⟨o, ho, rfl⟩ := hv _ (.head _)
    exact wpAny_pyIter_rangeiter (s := upd s h t) (step := 1) ho q

section
variable {w : World} {mg mb : Str → Option Value} {A : Around} {E : Value → Shared → Prop} {s : Shared} {h g : Heap} {t : Nat} {vol : Vol} {names : List (Str × NameKind)} {env : Env}
  {c : Cx} {L : Addr} {cl : List (Str × Addr)} {m cm : Str → Option Value} {Q : Value → Shared → Prop}
/-- iterators made -/
theorem itList {l : Addr} {items : Array Value} (F : Frm c L cl m cm vol g h) (hl : g.IsList l items)
    (q : ∀ I h', g.get? I = none → Frm c L cl m cm ((I, pLI l 0) :: vol) g h' → Q (.ref I) (upd s h' t)) : wpAny (model PR w) A (pyIter (.ref l)) Q E (upd s h t) :=
  wpAny_pyIter_list (s := upd s h t) (isList_le hl F.keep) (q h.objs.size _ (none_of_le F.keep (none_of_ge (Nat.le_refl _))) (F.vpush (Le.push _ _) ⟨_, Heap.get?_push_size _ rfl, rfl, rfl⟩ (Nat.le_refl _)))
theorem itTup {l : Addr} {items : Array Value} (F : Frm c L cl m cm vol g h) (hl : IsTup g l items)
    (q : ∀ I h', g.get? I = none → Frm c L cl m cm ((I, pTI l 0) :: vol) g h' → Q (.ref I) (upd s h' t)) : wpAny (model PR w) A (pyIter (.ref l)) Q E (upd s h t) :=
  wpAny_pyIter_tuple (s := upd s h t) (isTup_le hl F.keep) (q h.objs.size _ (none_of_le F.keep (none_of_ge (Nat.le_refl _))) (F.vpush (Le.push _ _) ⟨_, Heap.get?_push_size _ rfl, rfl, rfl⟩ (Nat.le_refl _)))
/-- a name stored by a target -/
theorem asgN {x : Str} {px : Pos} {v : Value} {Q : Unit → Shared → Prop} (EF : EnvF env names cl L) (F : Frm c L cl m cm vol g h) (hl : names.lookup x = some .local)
    (q : ∀ h' t', Frm c L cl (fun y => if y = x then some v else m y) cm vol g h' → Q () (upd s h' t')) : wpAny (model PR w) A (assign (.Name x px) env v) Q E (upd s h t) :=
  wpAny_assign_Name (stL EF F hl q)
theorem tests0 {Q : Bool → Shared → Prop} {s : Shared} (q : Q true s) : wpAny (model PR w) A (tests [] env) Q E s := wpAny_tests_nil q
theorem tests1 {e : Expr} {Q : Bool → Shared → Prop} {s : Shared} (q : wpAny (model PR w) A (isTrue e env (eval e env)) Q E s) : wpAny (model PR w) A (tests [e] env) Q E s := wpAny_tests_one q
end
end Rg
end
section
/-! the library's rules over a ledger of all; more operations; terms -/
open PySem PySem.W PyProof.Rows PySem.Calls
set_option autoImplicit false
set_option maxRecDepth 100000
namespace Rg
/-- all that stands, as a ledger -/
def ulist (H0 : Heap) (L : Addr) (h : Heap) : List (Addr × Obj) := (List.range h.objs.size).filterMap fun a => if a = L ∨ (H0.get? a).isSome = true then none else (h.get? a).map fun o => (a, o)
theorem ulist_mem {H0 h : Heap} {L a : Addr} {o : Obj} : (a, o) ∈ ulist H0 L h ↔ h.get? a = some o ∧ a ≠ L ∧ H0.get? a = none := by
  unfold ulist
  rw [List.mem_filterMap]
  constructor
  · rintro ⟨b, hb, e⟩
    split at e
    · cases e
    · rename_i hn
      obtain ⟨x, hx, q⟩ := Option.map_eq_some_iff.mp e
      cases q
      refine ⟨hx, fun q => hn (.inl q), ?_⟩
      cases q : H0.get? a with
      | none => rfl
      | some y => exact absurd (.inr (by rw [q]; rfl)) hn
  · rintro ⟨e, hL, h0⟩
    exact ⟨a, List.mem_range.mpr (Heap.lt_size e), by rw [if_neg (by rintro (q | q); exact hL q; rw [h0] at q; cases q), e]; rfl⟩
theorem ulist_news {H0 h : Heap} {L : Addr} : News H0 L h (ulist H0 L h) := fun p hp => by
  obtain ⟨a, o⟩ := p
  exact ⟨(ulist_mem.mp hp).1, (ulist_mem.mp hp).2.1, (ulist_mem.mp hp).2.2⟩

section
variable {c : Cx} {L : Addr} {cl : List (Str × Addr)} {m m' cm : Str → Option Value} {vol : Vol} {g h h' : Heap}
theorem Frm.fr (F : Frm c L cl m cm vol g h) : Fr c.H0 L h m := ⟨F.ns, F.H, F.k0L⟩
theorem Frm.of_fr {x : List (Addr × Obj)} (F : Frm c L cl m cm vol g h) (F' : Fr c.H0 L h' m') (N : News c.H0 L h' (x ++ ulist c.H0 L h)) : Frm c L cl m' cm vol g h' := by
  refine F.setL F'.ns fun b o n e => ?_
  cases q : c.H0.get? b with
  | some y =>
    have := F.H b y q
    rw [e] at this; cases this
    exact F'.keep b o q
  | none => exact (N (b, o) (List.mem_append_right _ (ulist_mem.mpr ⟨e, by simpa using n, q⟩))).1
theorem Frm.of_fr0 (F : Frm c L cl m cm vol g h) (F' : Fr c.H0 L h' m') (N : News c.H0 L h' (ulist c.H0 L h)) : Frm c L cl m' cm vol g h' := F.of_fr (x := []) F' N
/-- a new object made stable -/
theorem Frm.stable {a : Addr} {o : Obj} (F : Frm c L cl m cm vol g h') (e : h'.get? a = some o) (hL : a ≠ L) (hc : ∀ n b, (n, b) ∈ cl → b ≠ a) (hv : ∀ q ∈ vol, q.1 ≠ a) (ha : c.h₀.objs.size ≤ a) :
    ∃ g', Le g g' ∧ g'.get? a = some o ∧ Frm c L cl m cm vol g' h' := by
  obtain ⟨g', G, k, e', off⟩ := grow_one' (n := c.h₀.objs.size) F.keep e ha
  refine ⟨g', G.le, e', { F with
    keep := k
    offL := off L F.offL (Ne.symm hL)
    offC := fun n b q => ⟨off b (F.offC n b q).1 (hc n b q), (F.offC n b q).2⟩
    volat := fun p hp => ⟨(F.volat p hp).1, off _ (F.volat p hp).2.1 (hv p hp), (F.volat p hp).2.2⟩
    k0 := F.k0.trans G.le
    gr := F.gr.trans G (Nat.le_refl _) }⟩
/-- an object that h had not -/
theorem Frm.fresh {a : Addr} {o : Obj} (F : Frm c L cl m cm vol g h) (F' : Frm c L cl m cm vol g h') (e : h'.get? a = some o) (ha : h.objs.size ≤ a) : ∃ g', Le g g' ∧ g'.get? a = some o ∧ Frm c L cl m cm vol g' h' :=
  F'.stable e (Nat.ne_of_gt (Nat.lt_of_lt_of_le F.ns.lt ha)) (fun _ _ q => Nat.ne_of_lt (Nat.lt_of_lt_of_le (F.clt q) ha)) (fun q hq => Nat.ne_of_lt (Nat.lt_of_lt_of_le (F.vlt q hq) ha)) (Nat.le_trans F.sz ha)
theorem Frm.push (F : Frm c L cl m cm vol g h) (o : Obj) (hf : o.isFreed = false := by rfl) : ∃ g', Le g g' ∧ g'.get? h.objs.size = some o ∧ Frm c L cl m cm vol g' (h.push o) :=
  F.fresh (F.ext (Le.push _ _)) (Heap.get?_push_size _ hf) (Nat.le_refl _)
end

section
variable {w : World} {mg mb : Str → Option Value} {A : Around} {E : Value → Shared → Prop} {s : Shared} {h g : Heap} {t : Nat} {vol : Vol} {names : List (Str × NameKind)} {env : Env}
  {c : Cx} {L : Addr} {cl : List (Str × Addr)} {m cm : Str → Option Value} {Q : Value → Shared → Prop}
theorem mkTup {vs : List Value} (F : Frm c L cl m cm vol g h) (hz : vs.length ≤ 2 ^ 23) (q : ∀ a g' h', Le g g' → IsTup g' a vs.toArray → Frm c L cl m cm vol g' h' → Q (.ref a) (upd s h' t)) :
    wpAny (model PR w) A (newTuple vs) Q E (upd s h t) := by
  obtain ⟨g', k, e, F'⟩ := F.push { cls := .type "tuple", data := .seq vs.toArray }
  exact wpAny_newObj_type (s := upd s h t) (q _ g' _ k ⟨_, e, rfl, 0, rfl⟩ F') (by show vs.toArray.size ≤ sizeLine; rw [List.size_toArray]; exact lt_sizeLine hz)
theorem mkList {vs : List Value} (F : Frm c L cl m cm vol g h) (hz : vs.length ≤ 2 ^ 23) (q : ∀ a h', c.h₀.objs.size ≤ a → Frm c L cl m cm ((a, pL vs.toArray) :: vol) g h' → Q (.ref a) (upd s h' t)) :
    wpAny (model PR w) A (newList vs) Q E (upd s h t) :=
  wpAny_newObj_type (s := upd s h t) (q _ _ F.sz (F.vpush (Le.push _ _) ⟨_, Heap.get?_push_size _ rfl, rfl, 0, rfl⟩ (Nat.le_refl _))) (by show vs.toArray.size ≤ sizeLine; rw [List.size_toArray]; exact lt_sizeLine hz)
theorem eTup {elts : List Expr} {k : Nat} {pos : Pos} {s : Shared} (q : wpAny (model PR w) A (spliced (backTo pos (starEach elts env))) (fun vs s₁ => wpAny (model PR w) A (newTuple vs) Q E s₁) E s) : wpAny (model PR w) A (eval (.Tuple elts k pos) env) Q E s := PyProof.Rows.Tuple_ q
theorem eList {elts : List Expr} {pos : Pos} {s : Shared} (q : wpAny (model PR w) A (spliced (backTo pos (starEach elts env))) (fun vs s₁ => wpAny (model PR w) A (newList vs) Q E s₁) E s) : wpAny (model PR w) A (eval (.List elts pos) env) Q E s := PyProof.Rows.List_ q
theorem tGet {value slice : Expr} {a : Addr} {items : Array Value} {k : Int} {u : Tok} {j : Nat} {x : Value} (ht : IsTup h a items) (hlo : -(2 ^ 63) ≤ k) (hhi : k < 2 ^ 63) (hj : seqIndex? k items.size = some j) (hx : items[j]? = some x) (q : Q x (upd s h t))
    (hs : subscripted slice false (.ref a) (.int k u) = operate [.ref a, .int k u] (getItem (.ref a) (.int k u)) := by rfl) : wpAny (model PR w) A (subscriptTail value slice (.ref a) (.int k u)) Q E (upd s h t) :=
  tail_any (s := upd s h t) (Heap.IsTuple.typeIs (s := upd s h t) ht) slot_tuple_getitem.lookup (getItem_tuple (s := upd s h t) ht hlo hhi hj hx q) hs
/-- t[a:] of a tuple under a name -/
theorem tFrom {value : Expr} {pp p1 : Pos} {k1 : Nat} {a : Addr} {items : Array Value} {i : Nat} {ii : Int} (F : Frm c L cl m cm vol g h) (ht : IsTup g a items) (hii : ii = (i : Int)) (h1 : 1 ≤ i) (hi : i ≤ items.size) (hz : items.size ≤ 2 ^ 23)
    (q : ∀ b g' h' t', Le g g' → IsTup g' b (items.toList.drop i).toArray → Frm c L cl m cm vol g' h' → Q (.ref b) (upd s h' t'))
    (hg : ∀ r, letTemporaryGo value (.ref a) r = pure () := by intro _; rfl) :
    wpAny (model PR w) A (eval (.Slice (some (.Constant (.int ii) k1 p1)) none none pp) env) (fun i s₂ => wpAny (model PR w) A (subscriptTail value (.Slice (some (.Constant (.int ii) k1 p1)) none none pp) (.ref a) i) Q E s₂) E (upd s h t) := by
  subst hii
  refine wpAny_Slice ?_
  rw [evalPart_some, evalPart_none]
  refine eInt fun tk t1 => wpAny_pure (wpAny_pure ?_)
  refine slice_tuple_from (s := upd s h t1) F.fr ulist_news (isTup_le ht F.keep) h1 hi (fun h' F' N' => ?_) (by rfl) hg (lt_sizeLine hz)
  have Fa := F.of_fr (x := [_]) F' N'
  obtain ⟨g', k, e, Fb⟩ := F.fresh Fa (N' _ (.head _)).1 (Nat.le_succ _)
  exact q _ g' h' t1 k ⟨_, e, rfl, 0, rfl⟩ Fb
/-- x[:1] of a text -/
theorem sTo {value : Expr} {pp p1 : Pos} {k1 : Nat} {j : Int} (F : Frm c L cl m cm vol g h) {x : Str} {tk : Tok} (hz : x.length ≤ 2 ^ 20)
    (q : ∀ tk' h' t', Frm c L cl m cm vol g h' → Q (.str (Txt.slice x none (some j)) tk') (upd s h' t'))
    (hg : ∀ r, letTemporaryGo value (.str x tk) r = pure () := by intro _; rfl) :
    wpAny (model PR w) A (eval (.Slice none (some (.Constant (.int j) k1 p1)) none pp) env) (fun i s₂ => wpAny (model PR w) A (subscriptTail value (.Slice none (some (.Constant (.int j) k1 p1)) none pp) (.str x tk) i) Q E s₂) E (upd s h t) := by
  refine wpAny_Slice ?_
  rw [evalPart_some, evalPart_none]
  refine wpAny_pure (eInt fun tk2 t1 => wpAny_pure ?_)
  refine slice_strN_ns (s := upd s h t1) F.fr ulist_news (fun h' t' k F' N' => q t' h' k (F.of_fr0 F' N')) (by rfl) hg (lt_sizeLine (by omega))
theorem sGet {value slice : Expr} {x : Str} {tk : Tok} {k : Int} {u : Tok} {j c' : Nat} (hj : seqIndex? k x.length = some j) (hc : x.cps[j]? = some c') (hlo : -(2 ^ 63) ≤ k) (hhi : k < 2 ^ 63) (q : ∀ t' k', Q (.str ⟨#[c']⟩ k') (upd s h t'))
    (hs : subscripted slice false (.str x tk) (.int k u) = operate [.str x tk, .int k u] (getItem (.str x tk) (.int k u)) := by rfl) :
    wpAny (model PR w) A (subscriptTail value slice (.str x tk) (.int k u)) Q E (upd s h t) :=
  tail_any (s := upd s h t) (typeIs_str _ x tk) F.slot_str_getitem.lookup (PySem.P.getItem_str (s := upd s h t) (by rw [decide_eq_false (by omega), decide_eq_false (by omega)]; rfl) (by rw [hj]; exact hc) (q _ _)) hs
/-- t + u of tuples -/
theorem tAdd {a b : Addr} {vs ws : List Value} (F : Frm c L cl m cm vol g h) (ha : IsTup g a vs.toArray) (hb : IsTup g b ws.toArray) (hz : vs.length + ws.length ≤ 2 ^ 23)
    (q : ∀ d g' h', Le g g' → IsTup g' d (vs ++ ws).toArray → Frm c L cl m cm vol g' h' → Q (.ref d) (upd s h' t)) : wpAny (model PR w) A (binaryOp .Add (.ref a) (.ref b)) Q E (upd s h t) := by
  refine add_tuples (s := upd s h t) F.fr ulist_news (isTup_le ha F.keep) (isTup_le hb F.keep) (fun e => ?_) (fun _ e => ?_) (fun _ _ h' F' N' => ?_) (lt_sizeLine hz)
  · subst e; exact q b g h (Le.refl _) hb F
  · subst e; exact q a g h (Le.refl _) (by rw [List.append_nil]; exact ha) F
  · have Fa := F.of_fr (x := [_]) F' N'
    obtain ⟨g', k, e, Fb⟩ := F.fresh Fa (N' _ (.head _)).1 (Nat.le_refl _)
    exact q _ g' h' k ⟨_, e, rfl, 0, rfl⟩ Fb
end
end Rg
end
section
/-! terms, plainly -/
open PySem PySem.W PyProof.Rows PySem.Calls
set_option autoImplicit false
set_option maxRecDepth 100000
namespace Rg
inductive Tm where
  | node (op : Str) (kids : List Tm)
def Tm.op : Tm → Str
  | .node op _ => op
def Tm.kids : Tm → List Tm
  | .node _ ks => ks
/-- the op begins with a question mark -/
def isQ (op : Str) : Bool := op.cps[0]? == some 63
def Tm.isVar : Tm → Bool
  | .node op ks => ks.isEmpty && isQ op
mutual
def Tm.parts : Tm → List Tm
  | .node op ks => .node op ks :: partsL ks
def partsL : List Tm → List Tm
  | [] => []
  | k :: ks => k.parts ++ partsL ks
end
mutual
def Tm.pl (σ : Str → Tm) : Tm → Tm
  | .node op ks => if ks.isEmpty && isQ op then σ op else .node op (plL σ ks)
def plL (σ : Str → Tm) : List Tm → List Tm
  | [] => []
  | k :: ks => k.pl σ :: plL σ ks
end
mutual
def Tm.vs : Tm → List Str
  | .node op ks => if ks.isEmpty && isQ op then [op] else vsL ks
def vsL : List Tm → List Str
  | [] => []
  | k :: ks => k.vs ++ vsL ks
end
/-- at most n deep, at most 3 kids, texts short -/
def Tm.Dp : Nat → Tm → Prop
  | 0, _ => False
  | n + 1, .node op ks => ks.length ≤ 3 ∧ 1 ≤ op.length ∧ op.length ≤ 1000 ∧ ∀ k ∈ ks, Dp n k

theorem vsL_eq (ks : List Tm) : vsL ks = ks.flatMap Tm.vs := by
  induction ks with
  | nil => rfl
  | cons k ks ih => rw [vsL, ih, List.flatMap_cons]
theorem partsL_eq (ks : List Tm) : partsL ks = ks.flatMap Tm.parts := by
  induction ks with
  | nil => rfl
  | cons k ks ih => rw [partsL, ih, List.flatMap_cons]
theorem plL_eq (σ : Str → Tm) (ks : List Tm) : plL σ ks = ks.map (Tm.pl σ) := by
  induction ks with
  | nil => rfl
  | cons k ks ih => rw [plL, ih, List.map_cons]
theorem Tm.Dp.mono : ∀ {n m : Nat} {t : Tm}, t.Dp n → n ≤ m → t.Dp m
  | 0, _, _, h, _ => h.elim
  | _ + 1, 0, _, _, h => absurd h (by omega)
  | _ + 1, _ + 1, .node _ _, ⟨a, b, c, d⟩, h => ⟨a, b, c, fun k hk => (d k hk).mono (by omega)⟩
theorem flatMap_length_le {α β : Type} (f : α → List β) (b : Nat) : ∀ l : List α, (∀ x ∈ l, (f x).length ≤ b) → (l.flatMap f).length ≤ l.length * b
  | [], _ => by simp
  | x :: r, h => by
    rw [List.flatMap_cons, List.length_append, List.length_cons, Nat.succ_mul]
    have h1 := h x (.head _)
    have h2 := flatMap_length_le f b r fun y hy => h y (.tail _ hy)
    omega
theorem parts_len : ∀ {n : Nat} {t : Tm}, t.Dp n → t.parts.length ≤ 4 ^ n
  | 0, _, h => h.elim
  | n + 1, .node op ks, ⟨a, _, _, d⟩ => by
    rw [Tm.parts, partsL_eq, List.length_cons]
    have h1 := flatMap_length_le Tm.parts (4 ^ n) ks fun k hk => parts_len (d k hk)
    have h2 : ks.length * 4 ^ n ≤ 3 * 4 ^ n := Nat.mul_le_mul_right _ a
    have h3 : 1 ≤ 4 ^ n := Nat.pow_pos (by decide)
    rw [Nat.pow_succ]
    omega

/-- v is the term in the heap -/
inductive IsTm (h : Heap) : Value → Tm → Prop
  | mk {a : Addr} {op : Str} {tk : Tok} {vs : List Value} {kids : List Tm} : IsTup h a (Value.str op tk :: vs).toArray → vs.length = kids.length → (∀ (i : Nat) (v : Value) (k : Tm), vs[i]? = some v → kids[i]? = some k → IsTm h v k) → IsTm h (.ref a) (.node op kids)
theorem IsTm.le {h h' : Heap} {v : Value} {t : Tm} (x : IsTm h v t) (k : Le h h') : IsTm h' v t := by
  induction x with
  | mk ht hl _ ih => exact .mk (isTup_le ht k) hl fun i v t hv ht => ih i v t hv ht
theorem IsTm.inv {h : Heap} {v : Value} {op : Str} {kids : List Tm} (x : IsTm h v (.node op kids)) : ∃ a tk vs, v = .ref a ∧ IsTup h a (Value.str op tk :: vs).toArray ∧ vs.length = kids.length ∧ ∀ (i : Nat) (v : Value) (k : Tm), vs[i]? = some v → kids[i]? = some k → IsTm h v k := by
  cases x with
  | mk ht hl hk => exact ⟨_, _, _, rfl, ht, hl, hk⟩
theorem slice1 {op : Str} (h : 1 ≤ op.length) : ∃ c r, op = ⟨(c :: r).toArray⟩ ∧ Txt.slice op none (some 1) = ⟨#[c]⟩ := by
  have e := beq_iff_eq.mp (slice_closes_toL (x := op) (j := 1) (by decide) (by omega))
  obtain ⟨⟨l⟩⟩ := op
  cases l with
  | nil => exact absurd h (by simp [Str.length])
  | cons c r => exact ⟨c, r, rfl, e⟩
theorem slice1_isQ {op : Str} (h : 1 ≤ op.length) : (Txt.slice op none (some 1) == (Str.ofString "?")) = isQ op := by
  obtain ⟨c, r, rfl, e⟩ := slice1 h
  rw [e, show Str.ofString "?" = ⟨#[63]⟩ by decide +kernel]
  by_cases hc : c = 63
  · subst hc; rfl
  · rw [beq_eq_false_iff_ne.mpr (by intro q; injection q with q; simp at q; exact hc q)]
    simp [isQ, hc]
theorem first_isQ {op : Str} (h : 1 ≤ op.length) : ∃ c, op.cps[0]? = some c ∧ ((⟨#[c]⟩ : Str) == (Str.ofString "?")) = isQ op := by
  obtain ⟨c, r, rfl, e⟩ := slice1 h
  refine ⟨c, by simp, ?_⟩
  rw [← slice1_isQ h, e]
end Rg
end
section
/-! is_variable -/
open PySem PySem.W PyProof.Rows PySem.Calls
set_option autoImplicit false
set_option maxRecDepth 100000
namespace Rg
section
variable {w : World} {mg mb : Str → Option Value} {A : Around} {E : Value → Shared → Prop} {s : Shared} {H0 h g : Heap} {t : Nat} {Q : Value → Shared → Prop}
theorem isvar_spec {v : Value} {tm : Tm} {n : Nat} (am : Amb A 1 10) (P : Pre w mg mb H0 g h) (hv : IsTm g v tm) (hd : tm.Dp n) (q : ∀ h' t', Le h h' → Q (.bool tm.isVar) (upd s h' t')) :
    wpAny (model PR w) A (call (.ref 109) [v]) Q E (upd s h t) := by
  cases tm with
  | node op kids =>
  obtain ⟨a, tk, vs, rfl, ht, hl, hk⟩ := hv.inv
  cases n with
  | zero => exact hd.elim
  | succ n =>
  obtain ⟨d1, d2, d3, _⟩ := hd
  refine enter (D_isvar w.params) P (X := []) (vol := []) am.room (A_isvar _ _) (by rfl) (by decide) (by simp) (by simp) fun env L h₁ t₁ E' hL EF F => ?_
  have hsz : (Value.str op tk :: vs).toArray.size = kids.length + 1 := by rw [List.size_toArray, List.length_cons, hl]
  have ht1 := isTup_le ht F.keep
  refine wpAny_execs_cons (wpAny_Return_some (BoolOp_and (wpAny_Compare1 ?_)))
  refine callBlt P.B EF F rfl (G0_len _) (by boot_by_name) (spl (ldL EF F rfl rfl (spl0 (tLen ht1 (by omega) fun k1 t2 => eInt fun k2 t3 => cEq (tru ?_)))))
  split
  · rename_i h1
    have hk0 : kids = [] := by
      have := beq_iff_eq.mp h1
      rw [hsz] at this
      exact List.eq_nil_of_length_eq_zero (by omega)
    refine BoolOp_one (wpAny_Compare1 ?_)
    refine Subscript_ (Subscript_ (ldL EF F rfl rfl (eInt fun k3 t4 => tGet ht1 (by decide) (by decide) (j := 0) (by rw [hsz]; simp [seqIndex?]) (x := .str op tk) (by simp) ?_)))
    refine sTo F (by omega) fun tk' h2 t2 F2 => eStr fun k4 t5 => cEqS ?_
    have := q h2 t5 F2.old.le
    rw [slice1_isQ d2]
    subst hk0
    exact this
  · rename_i h1
    have := q h₁ t3 F.old.le
    have hk0 : kids.isEmpty = false := by
      cases kids with
      | nil => exact absurd (by rw [hsz]; rfl) h1
      | cons _ _ => rfl
    have e : (Tm.node op kids).isVar = false := by show (kids.isEmpty && isQ op) = false; rw [hk0]; rfl
    rw [e] at this
    simp only [h1]
    exact this
end
end Rg
end
section
/-! enumerate of a tuple, zip of two tuples -/
open PySem PySem.W PyProof.Rows PySem.Calls
set_option autoImplicit false
set_option maxRecDepth 100000
namespace Rg
section
variable {prog : Program} {w : World} {A : Around} {E : Value → Shared → Prop} {s : Shared}
theorem nextOf_tuple_item {it l : Addr} {i : Nat} {items : Array Value} {x : Value} {Q : Value → Shared → Prop} (hit : s.heap.IsTupleIter it l i) (hl : s.heap.IsTuple l items) (hx : items[i]? = some x)
    (hQ : ∀ h', h'.IsTupleIter it l (i + 1) → Heap.SameBut it s.heap h' → Q x { s with heap := h' }) : wpAny (model prog w) A (Builtin.SmallTypes.nextOf (.ref it)) Q E s := by
  obtain ⟨o, ho, hc, hd⟩ := id hit
  obtain ⟨ol, hol, _, nl, hdl⟩ := hl
  unfold Builtin.SmallTypes.nextOf
  refine wpAny_bind (wpAny_callSpecial?_slot (name := Str.ofString "__next__") hit.typeIs F.slot_tuple_iterator_next (wpAny_call_entry F.slot_tuple_iterator_next hit.typeIs F.entry_tuple_iterator_next ?_ (F.args_tuple_iterator_next_1 _)))
  show wpAny _ _ (field (.ref it) 0 >>= _) _ _ s
  refine wpAny_bind (wpAny_field ho hd (x := .ref l) rfl ?_)
  show wpAny _ _ (if (Value.ref l == Value.none) = true then _ else _) _ _ s
  rw [if_neg (show ¬ ((Value.ref l == Value.none) = true) from Bool.false_ne_true)]
  show wpAny _ _ (field (.ref it) 1 >>= _) _ _ s
  refine wpAny_bind (wpAny_field ho hd (x := .int i 0) rfl ?_)
  show wpAny _ _ (seqItems? (.ref l) >>= _) _ _ s
  refine wpAny_bind (wpAny_seqItems hol hdl ?_)
  simp only [Int.toNat_natCast, hx]
  refine wpAny_bind (wpAny_setField ho hd (by simp) (wpAny_pure ⟨x, rfl, wpAny_pure (hQ _ ?_ (Heap.SameBut.update ..))⟩))
  exact ⟨_, Heap.get?_update_self _ ho (Obj.isFreed_of_fields (Obj.data_mapFields hd _)), (Obj.cls_mapFields ..).trans hc, by rw [Obj.data_mapFields hd]; simp [rawInt]⟩
theorem nextOf_tuple_end {it l : Addr} {i : Nat} {items : Array Value} {Q : Value → Shared → Prop} (hh : A.handled = none) (hit : s.heap.IsTupleIter it l i) (hl : s.heap.IsTuple l items) (hx : items[i]? = none)
    (hE : ∀ h' e, Heap.ExtBut it s.heap h' → (∃ o, h'.get? e = some o ∧ o.cls = .type "StopIteration") → E (.ref e) { s with heap := h' }) : wpAny (model prog w) A (Builtin.SmallTypes.nextOf (.ref it)) Q E s := by
  obtain ⟨o, ho, hc, hd⟩ := id hit
  obtain ⟨ol, hol, _, nl, hdl⟩ := hl
  unfold Builtin.SmallTypes.nextOf
  refine wpAny_bind (wpAny_callSpecial?_slot (name := Str.ofString "__next__") hit.typeIs F.slot_tuple_iterator_next (wpAny_call_entry F.slot_tuple_iterator_next hit.typeIs F.entry_tuple_iterator_next ?_ (F.args_tuple_iterator_next_1 _)))
  show wpAny _ _ (field (.ref it) 0 >>= _) _ _ s
  refine wpAny_bind (wpAny_field ho hd (x := .ref l) rfl ?_)
  show wpAny _ _ (if (Value.ref l == Value.none) = true then _ else _) _ _ s
  rw [if_neg (show ¬ ((Value.ref l == Value.none) = true) from Bool.false_ne_true)]
  show wpAny _ _ (field (.ref it) 1 >>= _) _ _ s
  refine wpAny_bind (wpAny_field ho hd (x := .int i 0) rfl ?_)
  show wpAny _ _ (seqItems? (.ref l) >>= _) _ _ s
  refine wpAny_bind (wpAny_seqItems hol hdl ?_)
  simp only [Int.toNat_natCast, hx]
  refine wpAny_bind (wpAny_rule (wpAny_bind (wpAny_setField ho hd (by simp) ?_)))
  show wpAny _ _ (newExc (.type "StopIteration") [] >>= _) _ _ _
  refine wpAny_bind ?_
  simp only [newExc, newTuple]
  refine wpAny_bind (wpAny_newObj_type ?_ (by size_fits))
  refine wpAny_bind (m := firstArgMember _ _) (wpAny_of_eq (a := Value.none) (by first | rfl | (simp only [firstArgMember]; rfl)) ?_)
  refine wpAny_newObj_type ?_ (by size_fits)
  simp only [raiseNew]
  refine wpAny_bind (wpAny_handled ?_)
  first | rw [show A.in1.handled = none from hh] | rw [hh]
  refine wpAny_bind (wpAny_pure (wpAny_throw ?_))
  exact hE _ _ (((Heap.SameBut.update ..).extBut.push _).push _) ⟨_, Heap.get?_push_size _ rfl, rfl⟩
end

theorem drawsTuple {prog : Program} {w : World} {A : Around} (hh : A.handled = none) (it l : Addr) (hne : l ≠ it) (items : Array Value) :
    Draws prog w A it [it, l] items.size (fun i v => items[i]? = some v) (fun i h => h.IsTupleIter it l i ∧ h.IsTuple l items) where
  live := fun _ _ st => let ⟨o, ho, _⟩ := st.1; ⟨o, ho⟩
  frame := fun _ _ _ st hk => ⟨st.1.at fun o e => hk it (by simp) o e, st.2.at fun o e => hk l (by simp) o e⟩
  item := fun i s Q E hi st hQ => by
    refine nextOf_tuple_item st.1 st.2 (x := items[i]) (by simp [hi]) fun h' hit' hs' => ?_
    exact hQ _ h' s.toks (by simp [hi]) ⟨hit', st.2.extBut hs'.extBut hne⟩ hs'
  done := fun s Q E st hE => nextOf_tuple_end hh st.1 st.2 (by simp) hE

theorem meets_enumerate_newT (l : Addr) (items : Array Value) (n : Nat) (dct : Option Addr) (sl : Array (Option Value)) :
    Meets (Builtin.«enumerate.__new__» ⟨[.type "enumerate", .ref l], []⟩) (fun _ R s => s.heap.get? l = some { cls := .type "tuple", dict := dct, data := .seq items n, slots := sl } ∧
      R (.ok (.ret (.ref (s.heap.push { cls := .type "tuple_iterator", data := .fields #[.ref l, .int 0 0] }).objs.size)))
        { s with heap := (s.heap.push { cls := .type "tuple_iterator", data := .fields #[.ref l, .int 0 0] }).push { cls := .type "enumerate", data := .fields #[.none, .bool false, .ref s.heap.objs.size, rawInt 0, .none, .none] } }) :=
  .of_wp fun prog w A R s h => by
    obtain ⟨hp, g, d, tk, os⟩ := s; obtain ⟨hl, h⟩ := h
    have hsub := sub_enumerate
    have hL : Heap.IsTuple (Shared.heap ⟨hp, g, d, tk, os⟩) l items := ⟨_, hl, rfl, n, rfl⟩
    wp_walk using AutoSeq1.wpAny_loadPart' hl
    refine wpAny_stack_any fun st => wpAny_pure ?_
    split
    · rename_i c _ _ _ _ _
      cases (c == Value.type "enumerate")
      · wp_walk using AutoSeq1.wpAny_loadPart' hl, wpAny_pyIter_tuple hL
        exact ⟨_, rfl, h⟩
      · wp_walk using AutoSeq1.wpAny_loadPart' hl, wpAny_pyIter_tuple hL
        exact ⟨_, rfl, h⟩
    · wp_walk using AutoSeq1.wpAny_loadPart' hl, wpAny_pyIter_tuple hL
      exact ⟨_, rfl, h⟩
theorem call_enumerate_tuple {prog : Program} {w : World} {A : Around} {E : Value → Shared → Prop} {s : Shared} {l : Addr} {items : Array Value} {Q : Value → Shared → Prop} (hL : s.heap.IsTuple l items)
    (h : ∀ h', IsEnum h' (s.heap.objs.size + 1) s.heap.objs.size 0 .none → h'.IsTupleIter s.heap.objs.size l 0 → (∀ b o, s.heap.get? b = some o → h'.get? b = some o) → Q (.ref (s.heap.objs.size + 1)) { s with heap := h' }) :
    wpAny (model prog w) A (call (.type "enumerate") [.ref l]) Q E s := by
  obtain ⟨⟨c, dct, dt, sl⟩, hl, hc, n, hd⟩ := hL
  replace hc : c = .type "tuple" := hc
  replace hd : dt = .seq items n := hd
  subst hc hd
  refine callType_new F.called_enumerate (by decide) (F.typeCall_enumerate_1 _) (F.newCall_enumerate_1 _) (fun obj => F.args_object_init_2 obj _) F.entry_enumerate_new (meets_enumerate_newT l items n dct sl) ⟨hl, ?_⟩
  have hz : (s.heap.push { cls := .type "tuple_iterator", data := .fields #[.ref l, .int 0 0] }).objs.size = s.heap.objs.size + 1 := Heap.size_push ..
  show _ ∧ _
  rw [hz]
  have he : IsEnum ((s.heap.push { cls := .type "tuple_iterator", data := .fields #[.ref l, .int 0 0] }).push { cls := .type "enumerate", data := .fields #[.none, .bool false, .ref s.heap.objs.size, rawInt 0, .none, .none] }) (s.heap.objs.size + 1) s.heap.objs.size 0 .none := by
    have := Heap.get?_push_size (s.heap.push { cls := .type "tuple_iterator", data := .fields #[.ref l, .int 0 0] }) (o := { cls := .type "enumerate", data := .fields #[.none, .bool false, .ref s.heap.objs.size, rawInt 0, .none, .none] }) rfl
    rw [hz] at this; exact this
  exact ⟨⟨_, he, rfl⟩, h _ he ⟨_, Heap.get?_push_of_some _ (Heap.get?_push_size _ rfl), rfl, rfl⟩ fun b o x => Heap.get?_push_of_some _ (Heap.get?_push_of_some _ x)⟩
end Rg
end
section
/-! iterators that hand on tuples of their own -/
open PySem PySem.W PyProof.Rows PySem.Calls
set_option autoImplicit false
set_option maxRecDepth 100000
namespace Rg
theorem ItR.ofT {w : World} {A : Around} {I : Addr} {fp wr : List Addr} {n : Nat} {Pt : Nat → Array Value → Prop} {St : Nat → Heap → Prop} {Mid : Nat → Addr → Heap → Prop} {g : Heap} {V : Nat → Vol} {elts : List Expr} {k : Nat} {pos : Pos}
    (W : WalksT PR w A I fp wr n Pt St Mid) (hadr : ∀ i, (V i).map (·.1) = wr) (to : ∀ i h, Vat h (V i) → Le g h → St i h) (back : ∀ i h, St i h → Vat h (V i)) :
    ItR w A I n g (fun i v h => ∃ T vals, v = .ref T ∧ Pt i vals ∧ IsTup h T vals) V (.Tuple elts k pos) where
  adr := fun i => (hadr i).trans (hadr 0).symm
  item := fun i s h t Q E hi hv kg q => by
    refine W.item i (upd s h t) _ _ hi (to i h hv kg) fun T vals h' tk hP _ hT hM hk => ?_
    refine W.go elts k pos i T (upd s h' tk) _ _ hM fun h'' hS hk' => ?_
    have hT' := W.apart i T h' hM
    exact q (.ref T) h'' tk ⟨T, vals, rfl, hP, hT.at fun o e => hk' _ o hT' e⟩ (back _ _ hS) (by rw [hadr 0]; exact fun b o n e => hk' b o n (hk b o n e))
  done := fun s h t N E hv kg q => W.done (upd s h t) _ _ (to n h hv kg) fun h' tk hk => q h' tk (by rw [hadr 0]; exact hk)
  self := fun i s h t Q E hv kg q => W.self i (upd s h t) Q E (to i h hv kg) q
def pEn (it : Addr) (i : Nat) : Obj → Prop := fun o => ∃ old, o = { cls := .type "enumerate", dict := none, data := .fields #[.none, .bool false, .ref it, rawInt i, .none, old], slots := #[] }
def VE (e it l : Addr) : Nat → Vol := fun i => [(e, pEn it i), (it, pTI l i)]
theorem ItR.enum {w : World} {A : Around} {e it l : Addr} {items : Array Value} {g : Heap} {elts : List Expr} {k : Nat} {pos : Pos} (hh : A.handled = none) (hei : e ≠ it) (he : g.get? e = none) (hi : g.get? it = none) (hl : IsTup g l items) :
    ItR w A e items.size g (fun i v h => ∃ T tk x, v = .ref T ∧ items[i]? = some x ∧ IsTup h T #[.int i tk, x]) (VE e it l) (.Tuple elts k pos) := by
  have ne : ∀ a, g.get? a = none → l ≠ a := fun a ha q => by obtain ⟨o, ho, _⟩ := hl; rw [q, ha] at ho; cases ho
  have W := WalksT.enumerateD (prog := PR) (w := w) (A := A) (drawsTuple (A := A.in1) hh it l (ne it hi) items) e hei (by simp [hei, Ne.symm (ne e he)]) (by simp)
  have R := ItR.ofT (g := g) (V := VE e it l) (elts := elts) (k := k) (pos := pos) W (fun _ => rfl) (fun i h hv kg => ?_) (fun i h st => ?_)
  · exact { R with
      item := fun i s h t Q E hi hv kg q => R.item i s h t Q E hi hv kg fun v h' t' ⟨T, vals, e1, ⟨tk, x, e2, e3⟩, e4⟩ => q v h' t' ⟨T, tk, x, e1, e2, e3 ▸ e4⟩ }
  · obtain ⟨o, ho, old, rfl⟩ := hv _ (.head _)
    exact ⟨⟨old, ho⟩, hv _ (.tail _ (.head _)), isTup_le hl kg⟩
  · obtain ⟨⟨old, ho⟩, h1, _⟩ := st
    intro p hp
    rcases List.mem_cons.mp hp with rfl | hp
    · exact ⟨_, ho, old, rfl⟩
    · rw [List.mem_singleton.mp hp]; exact h1
section
variable {w : World} {mg mb : Str → Option Value} {A : Around} {E : Value → Shared → Prop} {s : Shared} {h g : Heap} {t : Nat} {vol : Vol} {names : List (Str × NameKind)} {env : Env}
  {c : Cx} {L : Addr} {cl : List (Str × Addr)} {m cm : Str → Option Value} {Q : Value → Shared → Prop}
theorem mkEnum {l : Addr} {items : Array Value} (F : Frm c L cl m cm vol g h) (hl : IsTup g l items)
    (q : ∀ e it h', e ≠ it → g.get? e = none → g.get? it = none → Frm c L cl m cm (VE e it l 0 ++ vol) g h' → Q (.ref e) (upd s h' t)) : wpAny (model PR w) A (call (.type "enumerate") [.ref l]) Q E (upd s h t) := by
  refine call_enumerate_tuple (s := upd s h t) (isTup_le hl F.keep) fun h' he hi hk => ?_
  have F1 := F.vpush (a := h.objs.size) (p := pTI l 0) (h' := h') hk hi (Nat.le_refl _)
  have F2 := F1.vadd (a := h.objs.size + 1) (p := pEn h.objs.size 0) ⟨_, he, _, rfl⟩ (none_of_le F.keep (none_of_ge (Nat.le_succ _))) (Nat.ne_of_gt (Nat.lt_succ_of_lt F.ns.lt)) (fun n b q => Nat.ne_of_lt (Nat.lt_succ_of_lt (F.clt q)))
    (fun q hq => by
      rcases List.mem_cons.mp hq with rfl | hq
      · exact Nat.ne_of_lt (Nat.lt_succ_self _)
      · exact Nat.ne_of_lt (Nat.lt_succ_of_lt (F.vlt q hq))) (.inr (Nat.le_succ_of_le F.sz))
  exact q (h.objs.size + 1) h.objs.size h' (Nat.ne_of_gt (Nat.lt_succ_self _)) (none_of_le F.keep (none_of_ge (Nat.le_succ _))) (none_of_le F.keep (none_of_ge (Nat.le_refl _))) F2
theorem itEnum {e it l : Addr} {i : Nat} {pre : Vol} (F : Frm c L cl m cm (VE e it l i ++ pre) g h) (q : Q (.ref e) (upd s h t)) : wpAny (model PR w) A (pyIter (.ref e)) Q E (upd s h t) := by
  obtain ⟨o, ho, old, rfl⟩ := F.vat _ (.head _)
  exact wpAny_pyIter_enum (s := upd s h t) ho q
/-- two targets over a pair -/
theorem asgP2 {e1 e2 : Expr} {k : Nat} {pos : Pos} {T : Addr} {v1 v2 : Value} {Q : Unit → Shared → Prop} (hh : A.handled = none) (F : Frm c L cl m cm vol g h) (hT : IsTup h T #[v1, v2])
    (q : ∀ h', Frm c L cl m cm vol g h' → Le h h' → wpAny (model PR w) A (assign e1 env v1) (fun _ s₁ => wpAny (model PR w) A (assign e2 env v2) Q E s₁) E (upd s h' t))
    (he : assignEach [e1, e2] env = [(false, assign e1 env), (false, assign e2 env)] := by rfl) : wpAny (model PR w) A (assign (.Tuple [e1, e2] k pos) env (.ref T)) Q E (upd s h t) := by
  refine wpAny_assign_Tuple (s := upd s h t) hh hT (by rw [he]; rfl) (by rw [he]; rfl) fun h' hx => ?_
  have hk : Le h h' := fun b o e => hx b o (Nat.ne_of_lt (Heap.lt_size e)) e
  rw [he]
  show wpAny _ _ (holding [v2] (assign e1 env v1) >>= fun _ => holding [] (assign e2 env v2) >>= fun _ => pure ()) _ _ _
  refine wpAny_bind (wpAny_holding (wpAny_mono (q h' (F.ext hk) hk) (fun _ s₁ z => ?_) fun _ _ z => z))
  exact wpAny_bind (wpAny_holding (wpAny_mono z (fun _ _ z => wpAny_pure z) fun _ _ z => z))
theorem asgP3 {e1 e2 e3 : Expr} {k : Nat} {pos : Pos} {T : Addr} {v1 v2 v3 : Value} {Q : Unit → Shared → Prop} (hh : A.handled = none) (F : Frm c L cl m cm vol g h) (hT : IsTup h T #[v1, v2, v3])
    (q : ∀ h', Frm c L cl m cm vol g h' → Le h h' → wpAny (model PR w) A (assign e1 env v1) (fun _ s₁ => wpAny (model PR w) A (assign e2 env v2) (fun _ s₂ => wpAny (model PR w) A (assign e3 env v3) Q E s₂) E s₁) E (upd s h' t))
    (he : assignEach [e1, e2, e3] env = [(false, assign e1 env), (false, assign e2 env), (false, assign e3 env)] := by rfl) : wpAny (model PR w) A (assign (.Tuple [e1, e2, e3] k pos) env (.ref T)) Q E (upd s h t) := by
  refine wpAny_assign_Tuple (s := upd s h t) hh hT (by rw [he]; rfl) (by rw [he]; rfl) fun h' hx => ?_
  have hk : Le h h' := fun b o e => hx b o (Nat.ne_of_lt (Heap.lt_size e)) e
  rw [he]
  show wpAny _ _ (holding [v2, v3] (assign e1 env v1) >>= fun _ => holding [v3] (assign e2 env v2) >>= fun _ => holding [] (assign e3 env v3) >>= fun _ => pure ()) _ _ _
  refine wpAny_bind (wpAny_holding (wpAny_mono (q h' (F.ext hk) hk) (fun _ s₁ z => ?_) fun _ _ z => z))
  refine wpAny_bind (wpAny_holding (wpAny_mono z (fun _ s₂ z => ?_) fun _ _ z => z))
  exact wpAny_bind (wpAny_holding (wpAny_mono z (fun _ _ z => wpAny_pure z) fun _ _ z => z))
theorem asgC {x : Str} {px : Pos} {v : Value} {a : Addr} {Q : Unit → Shared → Prop} (EF : EnvF env names cl L) (F : Frm c L cl m cm vol g h) (hl : names.lookup x = some .cell) (ha : cl.lookup x = some a) (hf : c.h₀.objs.size ≤ a)
    (q : ∀ h', Frm c L cl m (fun y => if y = x then some v else cm y) vol g h' → Q () (upd s h' t)) : wpAny (model PR w) A (assign (.Name x px) env v) Q E (upd s h t) :=
  wpAny_assign_Name (stC EF F hl ha hf q)

/-- a for over an iterator, by what holds between its turns -/
theorem for_close {tgt : Expr} {body : List Stmt} {I : Addr} {n : Nat} {P : Nat → Value → Heap → Prop} {V : Nat → Vol} {Q : Flow → Shared → Prop}
    (F : Frm c L cl m cm (V 0 ++ vol) g h) (W : ItR w A I n g P V tgt)
    (B : Shared → Prop) (hB : B s) (J : Nat → (Str → Option Value) → (Str → Option Value) → Vol → Heap → Prop) (hJ : J 0 m cm vol g)
    (turn : ∀ i s' m' cm' vol' g' h' t' v, B s' → i < n → J i m' cm' vol' g' → Le g g' → Frm c L cl m' cm' (V (i + 1) ++ vol') g' h' → P i v h' →
      wpAny (model PR w) A (assign tgt env v) (fun _ s₂ => wpAny (model PR w) A (execs body env) (fun f s₃ => match f with
        | .next | .cont => ∃ s₄ h₄ t₄ m₄ cm₄ vol₄ g₄, s₃ = upd s₄ h₄ t₄ ∧ B s₄ ∧ Frm c L cl m₄ cm₄ (V (i + 1) ++ vol₄) g₄ h₄ ∧ Le g' g₄ ∧ J (i + 1) m₄ cm₄ vol₄ g₄
        | .brk => False
        | .ret v => Q (.ret v) s₃) (fun _ _ => False) s₂) (fun _ _ => False) (upd s' h' t'))
    (fin : ∀ s' m' cm' vol' g' h' t', B s' → Frm c L cl m' cm' vol' g' h' → Le g g' → J n m' cm' vol' g' → Q .next (upd s' h' t')) :
    codeAny (model PR w) A (.forLoop tgt (.ref I) body [] env) (fun r s' => match r with | .ok f => Q f s' | .error e => cameBackBy (model PR w) A env E e s') (upd s h t) := by
  refine codeAny_forLoop_any (fun k s' => ∃ s₀ h' t' i m' cm' vol' g', s' = upd s₀ h' t' ∧ B s₀ ∧ i ≤ n ∧ k = n + 1 - i ∧ Le g g' ∧ Frm c L cl m' cm' (V i ++ vol') g' h' ∧ J i m' cm' vol' g') ?_ (n + 1)
    ⟨s, h, t, 0, m, cm, vol, g, rfl, hB, Nat.zero_le _, rfl, Le.refl _, F, hJ⟩
  rintro k s' ⟨s₀, h', t', i, m', cm', vol', g', rfl, hb, hi, rfl, hgg, F', hJ'⟩
  have vi : Vat h' (V i) := fun p hp => F'.vat p (List.mem_append_left _ hp)
  by_cases hlt : i < n
  · refine wpAny_mono (W.item i s₀ h' t' (fun v s₂ => wpAny (model PR w) A (assign tgt env v) (fun _ s₂ => wpAny (model PR w) A (execs body env) (fun f s₃ => match f with
        | .next | .cont => ∃ k', k' < n + 1 - i ∧ ∃ s₀ h' t' i m' cm' vol' g', s₃ = upd s₀ h' t' ∧ B s₀ ∧ i ≤ n ∧ k' = n + 1 - i ∧ Le g g' ∧ Frm c L cl m' cm' (V i ++ vol') g' h' ∧ J i m' cm' vol' g'
        | .brk => False
        | .ret v => Q (.ret v) s₃) (fun _ _ => False) s₂) (fun _ _ => False) s₂) (fun _ _ => False) hlt vi (hgg.trans F'.keep) ?_) (fun r s₁ z => ?_) fun _ _ f => f.elim
    · intro v h₂ t₂ hP hV hX
      have F2 := F'.vseg (pre := []) (v := V i) (v' := V (i + 1)) (post := vol') ((W.adr i).symm ▸ hX) hV ((W.adr (i + 1)).trans (W.adr i).symm)
      refine wpAny_mono (turn i s₀ m' cm' vol' g' h₂ t₂ v hb hlt hJ' hgg F2 hP) (fun _ s₂ z => wpAny_mono z (fun f s₃ z => ?_) fun _ _ f => f.elim) fun _ _ f => f.elim
      have nx : (∃ s₄ h₄ t₄ m₄ cm₄ vol₄ g₄, s₃ = upd s₄ h₄ t₄ ∧ B s₄ ∧ Frm c L cl m₄ cm₄ (V (i + 1) ++ vol₄) g₄ h₄ ∧ Le g' g₄ ∧ J (i + 1) m₄ cm₄ vol₄ g₄) →
          ∃ k', k' < n + 1 - i ∧ ∃ s₀ h' t' i m' cm' vol' g', s₃ = upd s₀ h' t' ∧ B s₀ ∧ i ≤ n ∧ k' = n + 1 - i ∧ Le g g' ∧ Frm c L cl m' cm' (V i ++ vol') g' h' ∧ J i m' cm' vol' g' := by
        rintro ⟨s₄, h₄, t₄, m₄, cm₄, vol₄, g₄, rfl, hb4, F4, k4, hJ4⟩
        exact ⟨n + 1 - (i + 1), by omega, s₄, h₄, t₄, i + 1, m₄, cm₄, vol₄, g₄, rfl, hb4, hlt, rfl, hgg.trans k4, F4, hJ4⟩
      cases f with
      | next => exact nx z
      | cont => exact nx z
      | brk => exact z
      | ret v => exact z
    · cases r with
      | none => exact z.elim
      | some v =>
        refine wpAny_mono z (fun _ s₁' z => wpAny_mono z (fun _ s₂ z => wpAny_mono z (fun f s₃ z => ?_) fun _ _ f => f.elim) fun _ _ f => f.elim) fun _ _ f => f.elim
        cases f with
        | next => exact z
        | cont => exact z
        | brk => exact z.elim
        | ret v => exact z
  · have hin : i = n := by omega
    subst hin
    refine wpAny_mono (W.done s₀ h' t' (fun s₁ => Q .next s₁) (fun _ _ => False) vi (hgg.trans F'.keep) ?_) (fun r s₁ z => ?_) fun _ _ f => f.elim
    · intro h₂ t₂ hX
      have F2 := (F'.after (vI := V i) (vx := []) (vx' := []) (vr := vol') (by rw [W.adr i, List.map_nil, List.append_nil]; exact hX) (fun _ q => by cases q) rfl (Grow.refl h'.objs.size g') (Nat.le_refl _) (fun b o e => hX b o (fun q => by
          obtain ⟨p, hp, rfl⟩ := List.mem_map.mp ((W.adr i).symm ▸ q)
          have := (F'.volat p (List.mem_append_left _ hp)).2.1
          rw [this] at e; cases e) (F'.keep b o e)))
      exact fin s₀ m' cm' vol' g' h₂ t₂ hb F2 hgg hJ'
    · cases r with
      | none => exact wpAny_execs_nil z
      | some v => exact z.elim
end
end Rg
end
section
/-! while loops; two names stored at once -/
open PySem PySem.W PyProof.Rows PySem.Calls
set_option autoImplicit false
set_option maxRecDepth 100000
namespace Rg
section
variable {w : World} {mg mb : Str → Option Value} {A : Around} {E : Value → Shared → Prop} {s : Shared} {h g : Heap} {t : Nat} {vol : Vol} {names : List (Str × NameKind)} {env : Env}
  {c : Cx} {L : Addr} {cl : List (Str × Addr)} {m cm : Str → Option Value}
theorem while_close {test : Expr} {body : List Stmt} {pos : Pos} {Q : Flow → Shared → Prop} (F : Frm c L cl m cm vol g h)
    (J : Nat → (Str → Option Value) → (Str → Option Value) → Vol → Heap → Prop) (n : Nat) (hJ : J n m cm vol g)
    (turn : ∀ n m' cm' vol' g' h' t', J n m' cm' vol' g' → Le g g' → Frm c L cl m' cm' vol' g' h' →
      wpAny (model PR w) A (isTrue test env (eval test env)) (fun b s₂ => if b = true then wpAny (model PR w) A (execs body env) (fun f s₃ => match f with
          | .next | .cont => ∃ h₄ t₄ n₄ m₄ cm₄ vol₄ g₄, s₃ = upd s h₄ t₄ ∧ n₄ < n ∧ Frm c L cl m₄ cm₄ vol₄ g₄ h₄ ∧ Le g' g₄ ∧ J n₄ m₄ cm₄ vol₄ g₄
          | .brk => False
          | .ret v => Q (.ret v) s₃) (fun _ _ => False) s₂ else Q .next s₂) (fun _ _ => False) (upd s h' t')) :
    wpAny (model PR w) A (exec (.While test body [] pos) env) Q E (upd s h t) := by
  refine wpAny_While (codeAny_whileLoop (fun k s' => ∃ h' t' m' cm' vol' g', s' = upd s h' t' ∧ Le g g' ∧ Frm c L cl m' cm' vol' g' h' ∧ J k m' cm' vol' g') ?_ n ⟨h, t, m, cm, vol, g, rfl, Le.refl _, F, hJ⟩)
  rintro k s' ⟨h', t', m', cm', vol', g', rfl, hgg, F', hJ'⟩
  refine wpAny_mono (turn k m' cm' vol' g' h' t' hJ' hgg F') (fun b s₂ z => ?_) fun _ _ f => f.elim
  cases b with
  | true =>
    rw [if_pos rfl] at z ⊢
    refine wpAny_mono z (fun f s₃ z => ?_) fun _ _ f => f.elim
    have nx : (∃ h₄ t₄ n₄ m₄ cm₄ vol₄ g₄, s₃ = upd s h₄ t₄ ∧ n₄ < k ∧ Frm c L cl m₄ cm₄ vol₄ g₄ h₄ ∧ Le g' g₄ ∧ J n₄ m₄ cm₄ vol₄ g₄) →
        ∃ k', k' < k ∧ ∃ h' t' m' cm' vol' g', s₃ = upd s h' t' ∧ Le g g' ∧ Frm c L cl m' cm' vol' g' h' ∧ J k' m' cm' vol' g' := by
      rintro ⟨h₄, t₄, n₄, m₄, cm₄, vol₄, g₄, rfl, hn, F4, k4, hJ4⟩
      exact ⟨n₄, hn, h₄, t₄, m₄, cm₄, vol₄, g₄, rfl, hgg.trans k4, F4, hJ4⟩
    cases f with
    | next => exact nx z
    | cont => exact nx z
    | brk => exact z.elim
    | ret v => exact z
  | false =>
    rw [if_neg Bool.false_ne_true] at z ⊢
    exact wpAny_execs_nil z
theorem EnvF.rep {env : Env} {names : List (Str × NameKind)} {cl : List (Str × Addr)} {L : Addr} (E : EnvF env names cl L) : env = { env with scope := { env.scope with names := names, kind := .function } } := by
  obtain ⟨h1, h2, _⟩ := E
  obtain ⟨sc, _⟩ := env
  obtain ⟨_⟩ := sc
  simp only at h1 h2
  subst h1 h2
  rfl
/-- x, y = (.., ..) of locals: the end -/
theorem asgSw2_end {x y : Str} {T : Addr} {v1 v2 : Value} {Q : Unit → Shared → Prop} (hh : A.handled = none) (EF : EnvF env names cl L) (F : Frm c L cl m cm vol g h) (hx : names.lookup x = some .local) (hy : names.lookup y = some .local) (hT : IsTup h T #[v1, v2])
    (q : ∀ h' t', Frm c L cl (fun z => if z = x then some v1 else if z = y then some v2 else m z) cm vol g h' → Q () (upd s h' t')) :
    wpAny (model PR w) A (unpackItems (.ref T) 2 none) (fun items s₂ => wpAny (model PR w) A (assignInOrder [bindName env y, bindName env x] items.reverse) Q E s₂) E (upd s h t) := by
  rw [show (2 : Nat) = (#[v1, v2] : Array Value).size from rfl]
  refine unpackItems_tuple (s := upd s h t) hh hT fun h' he => ?_
  have hk : Le h h' := fun b o e => he b o (Nat.ne_of_lt (Heap.lt_size e)) e
  have F1 := F.ext hk
  show wpAny _ _ (assignInOrder [bindName env y, bindName env x] [v2, v1]) _ _ _
  show wpAny _ _ (holding [v1] (bindName env y v2) >>= fun _ => holding [] (bindName env x v1) >>= fun _ => pure ()) _ _ _
  refine wpAny_bind (wpAny_holding (wpAny_bindName (stL EF F1 hy fun h₂ t₂ F2 => ?_)))
  refine wpAny_bind (wpAny_holding (wpAny_bindName (stL EF F2 hx fun h₃ t₃ F3 => wpAny_pure ?_)))
  exact q h₃ t₃ F3
end
end Rg
end
section
/-! calls of types; tuples of lists; ranges -/
open PySem PySem.W PyProof.Rows PySem.Calls
set_option autoImplicit false
set_option maxRecDepth 100000
namespace Rg
section
variable {c : Cx} {L : Addr} {cl : List (Str × Addr)} {m m' cm : Str → Option Value} {g g' h h' : Heap}
/-- what a call leaves of the frame -/
theorem Frm.called {pre v v' post : Vol} (F : Frm c L cl m cm (pre ++ (v ++ post)) g h) (k : LeX (v.map (·.1)) h h') (hv : Vat h' v') (ha : v'.map (·.1) = v.map (·.1)) (G : Grow h.objs.size g g') (k' : Le g' h') :
    Frm c L cl m cm (pre ++ (v' ++ post)) g' h' := by
  have p1 : List.Perm ([] ++ (v ++ (pre ++ post))) (pre ++ (v ++ post)) := by
    rw [List.nil_append, ← List.append_assoc, ← List.append_assoc]
    exact List.perm_append_comm.append_right _
  have F1 := (F.perm p1).after (vI := []) (vx := v) (vx' := v') (vr := pre ++ post) (by rw [List.map_nil, List.nil_append]; exact k) hv ha G (Nat.le_refl _) k'
  refine F1.perm ?_
  rw [← List.append_assoc, ← List.append_assoc]
  exact List.perm_append_comm.append_right _
/-- a call that turns nothing of ours -/
theorem Frm.called0 {vol : Vol} (F : Frm c L cl m cm vol g h) (k : Le h h') (G : Grow h.objs.size g g') (k' : Le g' h') : Frm c L cl m cm vol g' h' :=
  F.grow G (Nat.le_refl _) k k'
/-- a call that turns one -/
theorem Frm.called1 {pre post : Vol} {a : Addr} {p p' : Obj → Prop} (F : Frm c L cl m cm (pre ++ (a, p) :: post) g h) (k : LeX [a] h h') (hv : At h' a p') (G : Grow h.objs.size g g') (k' : Le g' h') :
    Frm c L cl m cm (pre ++ (a, p') :: post) g' h' :=
  Frm.called (v := [(a, p)]) (v' := [(a, p')]) F k (vat1 hv) rfl G k'
/-- a call that turns one and leaves nothing that we want -/
theorem Frm.called1s {pre post : Vol} {a : Addr} {p p' : Obj → Prop} (F : Frm c L cl m cm (pre ++ (a, p) :: post) g h) (k : LeX [a] h h') (hv : At h' a p') : Frm c L cl m cm (pre ++ (a, p') :: post) g h' :=
  F.called1 k hv (Grow.refl _ _) fun b o e => k b o (fun q => by
    rw [List.mem_singleton.mp q] at e
    have := (F.volat (a, p) (by simp)).2.1
    rw [e] at this; cases this) (F.keep b o e)
theorem Frm.pre {w : World} {mg mb : Str → Option Value} {vol : Vol} (F : Frm c L cl m cm vol g h) (B : Bs w mg mb c.H0) : Pre w mg mb c.H0 g h :=
  ⟨B, F.k0, F.keep, Nat.le_of_lt (Nat.lt_of_le_of_lt F.k0L F.ns.lt)⟩
end
section
variable {w : World} {mg mb : Str → Option Value} {A : Around} {E : Value → Shared → Prop} {s : Shared} {h g : Heap} {t : Nat} {vol : Vol} {names : List (Str × NameKind)} {env : Env}
  {c : Cx} {L : Addr} {cl : List (Str × Addr)} {m cm : Str → Option Value} {Q : Value → Shared → Prop}
theorem EnvF.inter {env : Env} {names : List (Str × NameKind)} {cl : List (Str × Addr)} {L : Addr} (E : EnvF env names cl L) : interactive env = false := by unfold interactive; rw [E.kind]; rfl
theorem cut {α : Type} {x : Sem α} {R Q : α → Shared → Prop} {s : Shared} (a : wpAny (model PR w) A x R E s) (b : ∀ v s', R v s' → Q v s') : wpAny (model PR w) A x Q E s := wpAny_mono a b fun _ _ z => z
theorem callTy {x : Str} {np pos : Pos} {e : Expr} {args : List Expr} {T : String} (B : Bs w mg mb c.H0) (EF : EnvF env names cl L) (F : Frm c L cl m cm vol g h) (hl : names.lookup x = some .globalImplicit)
    (hg : nsIn (KF w) mainGlobals x = some none) (hv : bootBuiltins x = some (.type T))
    (q : wpAny (model PR w) A (spliced (backTo pos (starEach (e :: args) env))) (fun vs s₁ => wpAny (model PR w) A (call (.type T) vs) Q E s₁) E (upd s h t))
    (he : starEach (e :: args) env = (false, eval e env) :: starEach args env := by rfl) (hp : (backTo pos (starEach args env)).any (·.1) = false := by rfl)
    (hn : x ≠ "__name__" := by decide) (hd : (x == ("__debug__" : Str)) = false := by decide) : wpAny (model PR w) A (eval (.Call (.Name x np) (e :: args) [] pos) env) Q E (upd s h t) := by
  refine wpAny_Call_NameR (ldB B EF F hl hg hv ?_ hn hd)
  exact PyProof.Rows.callWith_type1 q he hp
/-- tuple(list) -/
theorem tupL {l : Addr} {vs : List Value} (F : Frm c L cl m cm vol g h) (hl : h.IsList l vs.toArray) (hz : vs.length ≤ 2 ^ 23) (q : ∀ a g' h', Le g g' → IsTup g' a vs.toArray → Frm c L cl m cm vol g' h' → Q (.ref a) (upd s h' t)) :
    wpAny (model PR w) A (call (.type "tuple") [.ref l]) Q E (upd s h t) :=
  call_tuple_list (s := upd s h t) hl (fun h' k => by
    obtain ⟨g', k', e, F'⟩ := (F.ext (h' := h') k).push { cls := .type "tuple", data := .seq vs.toArray }
    exact q _ g' _ k' ⟨_, e, rfl, 0, rfl⟩ F') (by rw [List.size_toArray]; exact lt_sizeLine hz)
theorem tupT {a : Addr} {items : Array Value} (ht : IsTup h a items) (q : Q (.ref a) (upd s h t)) : wpAny (model PR w) A (call (.type "tuple") [.ref a]) Q E (upd s h t) := call_tuple_tup (s := upd s h t) ht q
def VR (I : Addr) (n : Nat) : Nat → Vol := V1 I (fun i => pRI i ((n : Int) - (i : Nat)))
/-- range(n) -/
theorem mkRange {n : Nat} {k : Tok} {a : Int} (ha : a = n) (F : Frm c L cl m cm vol g h) (q : ∀ r h' t', (∃ k1 k2 k3, IsRange h' r 0 n 1 k1 k2 k3) → Frm c L cl m cm vol g h' → Q (.ref r) (upd s h' t')) : wpAny (model PR w) A (call (.type "range") [.int a k]) Q E (upd s h t) := by
  subst ha
  exact call_range_1 (s := upd s h t) (q _ _ _ ⟨_, _, _, Heap.get?_push_size _ rfl⟩ (F.ext (Le.push _ _)))
theorem itRange {n : Nat} {r : Addr} (F : Frm c L cl m cm vol g h) (hr : ∃ k1 k2 k3, IsRange h r 0 n 1 k1 k2 k3) (hn : n ≤ 2 ^ 20)
    (q : ∀ I h', g.get? I = none → Frm c L cl m cm (VR I n 0 ++ vol) g h' → Q (.ref I) (upd s h' t)) : wpAny (model PR w) A (pyIter (.ref r)) Q E (upd s h t) := by
  obtain ⟨k1, k2, k3, hr⟩ := hr
  have hs : Builtin.Range.rangeSize 0 (n : Int) 1 = n := by
    rw [rangeSize_nat]; omega
  refine wpAny_pyIter_range (s := upd s h t) hr ?_ ?_
  · unfold Builtin.Range.small
    rw [hs]
    simp [Builtin.Range.rangeFitsLong]
    omega
  · rw [hs]
    refine q h.objs.size _ (none_of_le F.keep (none_of_ge (Nat.le_refl _))) (F.vpush (Le.push _ _) ⟨_, Heap.get?_push_size _ rfl, ?_⟩ (Nat.le_refl _))
    show _ = _
    simp
end
end Rg
end
section
/-! good terms -/
open PySem PySem.W PyProof.Rows PySem.Calls
set_option autoImplicit false
set_option maxRecDepth 100000
namespace Rg
def gops : List Str := ["a", "f", "g", "h"]
/-- over a, f, g, h and the variables ns, less than n deep -/
def Tm.Gd (ns : List Str) : Nat → Tm → Prop
  | 0, _ => False
  | n + 1, .node op ks => ks.length ≤ 2 ∧ ((op ∈ ns ∧ ks = []) ∨ op ∈ gops) ∧ ∀ k ∈ ks, Gd ns n k
def vns : List Str := ["?x", "?y", "?z"]
theorem Tm.Gd.mono {ns ns' : List Str} (hs : ∀ x ∈ ns, x ∈ ns') : ∀ {n m : Nat} {t : Tm}, t.Gd ns n → n ≤ m → t.Gd ns' m
  | 0, _, _, h, _ => h.elim
  | _ + 1, 0, _, _, h => absurd h (by omega)
  | _ + 1, _ + 1, .node _ _, ⟨a, b, d⟩, h => ⟨a, b.imp (fun x => ⟨hs _ x.1, x.2⟩) id, fun k hk => (d k hk).mono hs (by omega)⟩
theorem vns_len {x : Str} (h : x ∈ vns) : x.length = 2 ∧ isQ x = true := by
  revert x
  decide +kernel
theorem gops_len {x : Str} (h : x ∈ gops) : x.length = 1 ∧ isQ x = false := by
  revert x
  decide +kernel
theorem Tm.Gd.dp {ns : List Str} (hs : ∀ x ∈ ns, x ∈ vns) : ∀ {n : Nat} {t : Tm}, t.Gd ns n → t.Dp n
  | 0, _, h => h.elim
  | _ + 1, .node op _, ⟨a, b, d⟩ => by
    have hl : op.length = 2 ∨ op.length = 1 := b.elim (fun b => .inl (vns_len (hs _ b.1)).1) fun b => .inr (gops_len b).1
    exact ⟨by omega, by omega, by omega, fun k hk => (d k hk).dp hs⟩
end Rg
end
section
/-! _law_pattern -/
open PySem PySem.W PyProof.Rows PySem.Calls
set_option autoImplicit false
set_option maxRecDepth 100000
namespace Rg
/-- the names as a list of texts -/
def StrVs (vs : List Value) (ns : List Str) : Prop := vs.length = ns.length ∧ ∀ (i : Nat) (v : Value) (x : Str), vs[i]? = some v → ns[i]? = some x → ∃ tk, v = .str x tk
theorem StrVs.at {vs : List Value} {ns : List Str} (h : StrVs vs ns) {i : Nat} {x : Str} (e : ns[i]? = some x) : ∃ tk, vs[i]? = some (.str x tk) := by
  have hi : i < vs.length := by rw [h.1]; exact (List.getElem?_eq_some_iff.mp e).1
  obtain ⟨tk, q⟩ := h.2 i _ x (List.getElem?_eq_getElem hi) e
  exact ⟨tk, (List.getElem?_eq_getElem hi).trans (congrArg some q)⟩
def co (f : Nat) : Nat := 3 * 2 ^ f - 1
theorem co_pos (f : Nat) : 2 ≤ co f := by unfold co; have := Nat.pow_pos (n := f) (show 0 < 2 by decide); omega
theorem co_succ (f : Nat) : co (f + 1) = 2 * co f + 1 := by unfold co; have := Nat.pow_pos (n := f) (show 0 < 2 by decide); rw [Nat.pow_succ]; omega
/-- values that are the terms -/
def KidsOk (h : Heap) (vs : List Value) (ks : List Tm) : Prop := vs.length = ks.length ∧ ∀ (i : Nat) (v : Value) (k : Tm), vs[i]? = some v → ks[i]? = some k → IsTm h v k
theorem KidsOk.le {h h' : Heap} {vs : List Value} {ks : List Tm} (x : KidsOk h vs ks) (k : Le h h') : KidsOk h' vs ks := ⟨x.1, fun i v t a b => (x.2 i v t a b).le k⟩
theorem KidsOk.nil (h : Heap) : KidsOk h [] [] := ⟨rfl, fun i v t a b => by simp at a⟩
theorem KidsOk.snoc {h : Heap} {vs : List Value} {ks : List Tm} {v : Value} {k : Tm} (x : KidsOk h vs ks) (y : IsTm h v k) : KidsOk h (vs ++ [v]) (ks ++ [k]) := by
  refine ⟨by simp [x.1], fun i v' k' a b => ?_⟩
  by_cases hi : i < vs.length
  · rw [List.getElem?_append_left hi] at a
    rw [List.getElem?_append_left (x.1 ▸ hi)] at b
    exact x.2 i v' k' a b
  · rw [List.getElem?_append_right (by omega)] at a
    rw [List.getElem?_append_right (by have := x.1; omega)] at b
    rw [← x.1] at b
    obtain ⟨e, ea⟩ := List.getElem?_eq_some_iff.mp a
    rw [List.length_singleton] at e
    have : i - vs.length = 0 := by omega
    rw [this] at a b
    simp at a b
    subst a b; exact y
theorem KidsOk.tm {h : Heap} {a : Addr} {op : Str} {tk : Tok} {vs : List Value} {ks : List Tm} (x : KidsOk h vs ks) (ht : IsTup h a (Value.str op tk :: vs).toArray) : IsTm h (.ref a) (.node op ks) := .mk ht x.1 x.2
def PatSpec (w : World) (mg mb : Str → Option Value) (H0 : Heap) (fd row nm : Addr) (nv : List Value) (ns : List Str) (f : Nat) : Prop :=
  ∀ {A : Around} {E : Value → Shared → Prop} {s : Shared} {h g : Heap} {t : Nat} {Q : Value → Shared → Prop} {i fi : Int} {tm : Tok}, fi = f →
    Amb A (f + 2) (3 * f + 20) → Pre w mg mb H0 g h → At h fd (pF w row i) → g.get? fd = none → RowOk g row → g.IsList nm nv.toArray → 0 ≤ i → i + (co f : Int) ≤ 10000 →
    (∀ v tm g' h' t' i', i ≤ i' → i' ≤ i + (co f : Int) → Grow h.objs.size g g' → Le g' h' → LeX [fd] h h' → At h' fd (pF w row i') → IsTm g' v tm → tm.Gd ns (f + 1) → Q v (upd s h' t')) →
    wpAny (model PR w) A (call (.ref 258) [.ref fd, .int fi tm, .ref nm]) Q E (upd s h t)
section
variable {w : World} {mg mb : Str → Option Value} {H0 : Heap}
theorem pattern_step {fd row nm : Addr} {nv : List Value} {ns : List Str} (hns : StrVs nv ns) (hnl : ns.length ≤ 3) (f : Nat) (ih : ∀ f', f = f' + 1 → PatSpec w mg mb H0 fd row nm nv ns f') : PatSpec w mg mb H0 fd row nm nv ns f := by
  intro A E s h g t Q i fi tm hfi am P hf hg hr hn h0 h1 q
  obtain ⟨o, ho, hD⟩ := hf
  have hp := co_pos f
  refine enter (D_pattern w.params) P (X := [fd]) (vol := [(fd, pF w row i)]) am.room (A_pattern _ _ _ _) (by rfl) (by decide) ?_ (by simp) ?_
  · intro p hp
    rw [List.mem_singleton.mp hp]
    exact ⟨⟨o, ho, hD⟩, hg, by simp⟩
  · intro env L h₁ t₁ E' hL EF F
    refine wpAny_execs_cons ?_
    refine wpAny_Assign_Name ?_
    have rest : ∀ (way : Int) tk h₂ t₂ i₂, 0 ≤ way → way < 3 → (f = 0 → way = 0) → i ≤ i₂ → i₂ ≤ i + 1 →
        Frm ⟨H0, h, g, [fd]⟩ L (cellsFrom (L + 1) N_pattern []) (bindL (fun x => N_pattern.lookup x) [("feed", .ref fd), ("floors", .int fi tm), ("names", .ref nm)] fun _ => none) (bindC (fun x => N_pattern.lookup x) [("feed", .ref fd), ("floors", .int fi tm), ("names", .ref nm)] fun _ => none) [(fd, pF w row i₂)] g h₂ →
        wpAny (model PR w) (A.deeper env) (storeName env "way" (.int way tk)) (fun _ s₁ => wpAny (model PR w) (A.deeper env) (execs ((bodyAt w.params 258).drop 1) env) (fun fl s' => Q (retOf fl) s') E' s₁) E' (upd s h₂ t₂) := by
      intro way tk h₂ t₂ i₂ w0 w3 wf i0 i1 F2
      refine stL EF F2 rfl fun h₃ t₃ F3 => ?_
      refine wpAny_execs_cons (wpAny_If (wpAny_isTrue_Compare1 (ldL EF F3 rfl rfl (eInt fun k1 t4 => cEq (tru ?_)))))
      split
      · rename_i hw
        refine wpAny_execs_cons (wpAny_Assign_Name ?_)
        refine callDef P.B EF F3 rfl (G_law_pick _) (D_pick _) (spl (ldC EF F3 rfl rfl rfl (spl (wpAny_BinOp ?_))))
        refine callBlt P.B EF F3 rfl (G0_len _) (by boot_by_name) (spl (ldC EF F3 rfl rfl rfl (spl0 (lLen (isList_le hn F3.keep) (by rw [List.size_toArray, hns.1]; omega) fun k2 t5 => ?_))))
        refine eInt fun k3 t6 => oAdd fun k4 t7 => spl0 ⟨F3.H, ?_⟩
        refine pick_spec (am.deeper.mono (by omega) (by omega)) (F3.pre P.B) (F3.vat _ (.head _)) (F3.volat _ (.head _)).2.1 hr (by omega) (by omega) (by omega) (by rw [List.size_toArray, hns.1]; omega) fun r tk h₄ t₄ r0 r1 k hf => ?_
        have F4 := F3.called1s (pre := []) k hf
        refine stL EF F4 rfl fun h₅ t₅ F5 => ?_
        refine wpAny_execs_cons (wpAny_Return_some (wpAny_IfExp (wpAny_isTrue_Compare1 (ldL EF F5 rfl rfl (eInt fun k5 t8 => cGt (tru ?_))))))
        rw [List.size_toArray, hns.1] at r1
        split
        · rename_i hr0
          have hr0 := of_decide_eq_true hr0
          have hj : (r - 1).toNat < ns.length := by omega
          obtain ⟨tkx, hx⟩ := hns.at (List.getElem?_eq_getElem hj)
          refine eTup (spl (Subscript_ (ldC EF F5 rfl rfl rfl (wpAny_BinOp (ldL EF F5 rfl rfl (eInt fun k6 t9 => oSub fun k7 t10 => ?_))))))
          refine lGet (isList_le hn F5.keep) (by omega) (by omega) hx (spl0 ?_)
          refine mkTup F5 (by simp) fun a g' h' kg ht F6 => ?_
          exact q _ (.node ns[(r - 1).toNat] []) g' h' _ _ (by omega) (by omega) F6.gr F6.keep F6.old (F6.vat _ (.head _)) (.mk (vs := []) ht rfl fun i v k e => by simp at e) ⟨by simp, .inl ⟨List.getElem_mem hj, rfl⟩, by simp⟩
        · refine eTup (spl (eStr fun k6 t9 => spl0 ?_))
          refine mkTup F5 (by simp) fun a g' h' kg ht F6 => ?_
          exact q _ (.node "a" []) g' h' _ _ (by omega) (by omega) F6.gr F6.keep F6.old (F6.vat _ (.head _)) (.mk (vs := []) ht rfl fun i v k e => by simp at e) ⟨by simp, .inr (.head _), by simp⟩
      · rename_i hw
        have hw : way ≠ 0 := fun e => hw (by subst e; rfl)
        obtain ⟨f', rfl⟩ : ∃ f', f = f' + 1 := ⟨f - 1, by have : f ≠ 0 := fun e => hw (wf e); omega⟩
        have hcs := co_succ f'
        refine wpAny_execs_nil ?_
        refine wpAny_execs_cons (wpAny_Return_some (wpAny_BinOp (eTup (spl ?_))))
        refine cut (R := fun v s' => ∃ op tk' t₄, v = .str op tk' ∧ op ∈ gops ∧ s' = upd s h₃ t₄) (wpAny_IfExp (wpAny_isTrue_Compare1 (ldL EF F3 rfl rfl (eInt fun k1 t4 => cEq (tru ?_))))) ?_
        · split
          · exact eStr fun k t => ⟨_, _, _, rfl, by decide, rfl⟩
          · exact eStr fun k t => ⟨_, _, _, rfl, by decide, rfl⟩
        · rintro v s' ⟨op, tk', t₄, rfl, hop, rfl⟩
          refine spl0 (mkTup F3 (by simp) fun a g₄ h₄ kg ht F4 => ?_)
          refine callTy P.B EF F4 rfl (G0_tuple _) (by boot_by_name) (spl (lc_open EF ?_))
          · refine callTy P.B EF F4 rfl (G0_range _) (by boot_by_name) (spl (ldL EF F4 rfl rfl (spl0 (mkRange (n := way.toNat) (by omega) F4 fun r h₅ t₅ hr5 F5 => ?_))))
            refine itRange F5 hr5 (by omega) fun I h₆ hI F6 => ?_
            refine lc_close (n := way.toNat) (vx := [(fd, pF w row i₂)]) (vr := []) EF F6 (ItR.range am.deeper.handled) (by omega)
              (fun k ys g' vx' => ∃ i' tms, vx' = [(fd, pF w row i')] ∧ i₂ ≤ i' ∧ i' ≤ i₂ + k * (co f' : Nat) ∧ ys.length = k ∧ KidsOk g' ys tms ∧ ∀ x ∈ tms, Tm.Gd ns (f' + 1) x) ?_ ?_ ?_ ?_
            · exact ⟨i₂, [], rfl, by omega, by omega, rfl, KidsOk.nil _, by simp⟩
            · rintro _ _ _ _ ⟨i', tms, rfl, _⟩; rfl
            · rintro C D cenv k ys g' vx' mC h' t' v hk ⟨i', tms, rfl, j0, j1, hyl, hks, hgd⟩ EC kg FC ⟨tkv, rfl⟩
              refine asgN EC FC rfl fun h₇ t₇ F7 => tests0 ?_
              rw [if_pos rfl]
              refine callDef P.B EC F7 rfl (G_law_pattern _) (D_pattern _) (spl (ldC EC F7 rfl rfl rfl (spl (wpAny_BinOp ?_))))
              refine ldC EC F7 rfl rfl rfl (eInt fun k1 t8 => oSub fun k2 t9 => ?_)
              refine spl (ldC EC F7 rfl rfl rfl (spl0 ⟨F7.H, ?_⟩))
              have hmul : (k : Int) * (co f' : Nat) + (co f' : Nat) ≤ way.toNat * (co f' : Nat) := by
                have : k + 1 ≤ way.toNat := hk
                have := Nat.mul_le_mul_right (co f') this
                rw [Nat.succ_mul] at this
                omega
              have hmul2 : (way.toNat : Int) * (co f' : Nat) ≤ 2 * (co f' : Nat) := by
                have : way.toNat ≤ 2 := by omega
                have := Nat.mul_le_mul_right (co f') this
                omega
              refine ih f' rfl (by omega) (am.deeper.mono (by omega) (by omega)) (F7.pre P.B) (F7.vat (fd, pF w row i') (by simp [VR, V1])) (F7.volat (fd, pF w row i') (by simp [VR, V1])).2.1 (hr.le ?_) (isList_le hn ?_) (by omega) (by omega) ?_
              · exact F6.gr.le.trans F7.gr.le
              · exact F6.gr.le.trans F7.gr.le
              · intro v tm g₈ h₈ t₈ i₈ b0 b1 G kg8 kX hf8 htm hgd8
                have F8 := F7.called1 (pre := (D, pM ys) :: (V1 I fun i => pRI i ((way.toNat : Int) - (i : Nat))) (k + 1)) (post := []) kX hf8 G kg8
                exact ⟨h₈, t₈, g₈, [(fd, pF w row i₈)], _, rfl, F8, i₈, tms ++ [tm], rfl, by omega, by rw [Int.natCast_succ, Int.add_mul]; omega, by simp [hyl], (hks.le G.le).snoc htm, fun x hx => (List.mem_append.mp hx).elim (hgd x) fun e => by rw [List.mem_singleton.mp e]; exact hgd8⟩
            · rintro D ys g' gg vx' hh tt Ff k1 k2 hl ⟨i', tms, rfl, j0, j1, hyl, hks, hgd⟩
              have hmul2 : (way.toNat : Int) * (co f' : Nat) ≤ 2 * (co f' : Nat) := by
                have : way.toNat ≤ 2 := by omega
                have := Nat.mul_le_mul_right (co f') this
                omega
              refine spl0 (tupL Ff (isList_le hl Ff.keep) (by omega) fun b g₉ h₉ k3 ht9 F9 => ?_)
              refine tAdd (vs := [.str op tk']) F9 (isTup_le ht (k1.trans (k2.trans k3))) ht9 (by simp; omega) fun d g' h' k4 htd F10 => ?_
              exact q _ (.node op tms) g' h' _ i' (by omega) (by omega) F10.gr F10.keep F10.old (F10.vat _ (.head _)) ((hks.le (k2.trans (k3.trans k4))).tm htd) ⟨by rw [← hks.1]; omega, .inr hop, hgd⟩
    refine wpAny_IfExp (wpAny_isTrue_Compare1 ?_)
    refine ldC EF F rfl rfl rfl ?_
    refine eInt fun k1 t2 => cGt (tru ?_)
    split
    · rename_i hgt
      refine callDef P.B EF F rfl (G_law_pick _) (D_pick _) (spl (ldC EF F rfl rfl rfl (spl (eInt fun k3 t3 => spl0 ⟨F.H, ?_⟩))))
      refine pick_spec (am.deeper.mono (by omega) (by omega)) (F.pre P.B) (F.volat _ (.head _)).1 (F.volat _ (.head _)).2.1 (hr.le (Le.refl _)) h0 (by omega) (by decide) (by decide) fun r tk h₂ t₂ r0 r1 k hf => ?_
      exact rest r tk h₂ t₂ (i + 1) r0 r1 (fun e => absurd hgt (by subst hfi e; decide)) (by omega) (by omega) (F.called1s (pre := []) k hf)
    · exact eInt fun k3 t3 => rest 0 _ _ _ i (by decide) (by decide) (fun _ => rfl) (by omega) (by omega) F
theorem pattern_spec {fd row nm : Addr} {nv : List Value} {ns : List Str} (hns : StrVs nv ns) (hnl : ns.length ≤ 3) : ∀ f : Nat, PatSpec w mg mb H0 fd row nm nv ns f
  | 0 => pattern_step hns hnl 0 (fun _ e => by omega)
  | f + 1 => pattern_step hns hnl (f + 1) (fun f' e => by
      obtain rfl : f = f' := by omega
      exact fun {A E s h g t Q i fi tm} => pattern_spec hns hnl f)
end
end Rg
end
section
/-! sets of texts -/
open PySem PySem.W PyProof.Rows PySem.Calls
set_option autoImplicit false
set_option maxRecDepth 100000
namespace Rg
abbrev knS (w : World) : PySem.KeyKind PR w Str := PySem.strKind PR w
def ledOf (w : World) : Bool := !(w.params.followText "set-order")
/-- a set of the texts ks -/
def pS (w : World) (ks : List Str) : Obj → Prop := fun o => o.ExactSet ∧ ∃ es ep t, o.data = .set es ep t ∧ ElemsOf (knS w) es.toList ∧ (∃ ks', StrsAre (es.toList.map (·.2)) ks' ∧ ks'.Perm ks) ∧ ks.Nodup ∧ t.fits es.size = true ∧ t.led = ledOf w ∧ (es.size = 0 ∨ t.plain = false)
theorem strsAre_len : ∀ {vs : List Value} {ks : List Str}, StrsAre vs ks → vs.length = ks.length
  | _, _, .nil => rfl
  | _, _, .cons _ _ h => by rw [List.length_cons, List.length_cons, strsAre_len h]
theorem strsAre_app : ∀ {vs ws : List Value} {ks js : List Str}, StrsAre vs ks → StrsAre ws js → StrsAre (vs ++ ws) (ks ++ js)
  | _, _, _, _, .nil, h => h
  | _, _, _, _, .cons x t r, h => .cons x t (strsAre_app r h)
theorem strsAre_mem : ∀ {vs : List Value} {ks : List Str}, StrsAre vs ks → ∀ k, k ∈ ks ↔ ∃ t, Value.str k t ∈ vs
  | _, _, .nil, k => by simp
  | _, _, .cons x t h, k => by
    rw [List.mem_cons, strsAre_mem h k]
    constructor
    · rintro (rfl | ⟨u, hu⟩)
      · exact ⟨t, .head _⟩
      · exact ⟨u, .tail _ hu⟩
    · rintro ⟨u, hu⟩
      rcases List.mem_cons.mp hu with e | hu
      · injection e with e1 e2; exact .inl e1
      · exact .inr ⟨u, hu⟩
theorem strsAre_perm {vs vs' : List Value} (hp : vs'.Perm vs) : ∀ {ks : List Str}, StrsAre vs ks → ∃ ks', StrsAre vs' ks' ∧ ks'.Perm ks := by
  induction hp with
  | nil => intro ks h; exact ⟨ks, h, .refl _⟩
  | @cons x l1 l2 p ih =>
    intro ks h
    cases h with
    | cons y t h => obtain ⟨k', a, b⟩ := ih h; exact ⟨y :: k', .cons y t a, b.cons y⟩
  | swap x y l =>
    intro ks h
    cases h with
    | cons a t h => cases h with
      | cons b u h => exact ⟨_, .cons b u (.cons a t h), .swap _ _ _⟩
  | trans p1 p2 ih1 ih2 =>
    intro ks h
    obtain ⟨k1, a, b⟩ := ih2 h
    obtain ⟨k2, a', b'⟩ := ih1 a
    exact ⟨k2, a', b'.trans b⟩
theorem is_str {w : World} {k : Str} {v : Value} : (knS w).is k v = true ↔ ∃ t, v = .str k t := by
  constructor
  · intro h
    cases v <;> simp [PySem.strKind, Value.isStrOf] at h
    subst h; exact ⟨_, rfl⟩
  · rintro ⟨t, rfl⟩; exact strKind_is _ _ _ _

section
variable {w : World} {A : Around} {E : Value → Shared → Prop} {s : Shared} {h : Heap} {t : Nat}
theorem relaid_led {t t' : SetTable} {hs : Array Int} {n : Nat} {o : Array Nat} (e : t.relaid hs n = some (t', o)) : t'.led = t.led ∧ t'.plain = t.plain := by
  unfold SetTable.relaid SetTable.laid at e
  cases q : SetTable.layClean (SetTable.sizeAbove n - 1) hs with
  | none => rw [q] at e; simp at e
  | some ow => rw [q] at e; simp at e; obtain ⟨rfl, _⟩ := e; exact ⟨rfl, rfl⟩
theorem relayAll_led (t : SetTable) (es : Array (Int × Value)) (n : Nat) : (relayAll t es n).2.1.led = t.led ∧ ((relayAll t es n).2.1.plain = t.plain ∨ (relayAll t es n).2.1.plain = false) := by
  unfold relayAll
  cases q : t.relaid (es.map (·.1)) n with
  | none => exact ⟨rfl, .inr rfl⟩
  | some p =>
    obtain ⟨t', o⟩ := p
    dsimp only
    split
    · exact ⟨(relaid_led q).1, .inl (relaid_led q).2⟩
    · exact ⟨rfl, .inr rfl⟩
theorem orStandIn_led (t : SetTable) (n : Nat) : (t.orStandIn n).led = t.led ∧ ((t.orStandIn n).plain = t.plain ∨ (t.orStandIn n).plain = false) := by
  unfold SetTable.orStandIn
  split
  · exact ⟨rfl, .inl rfl⟩
  · exact ⟨rfl, .inr rfl⟩
theorem layNew_led (t : SetTable) (es : Array (Int × Value)) (hs : Int) (x : Value) : (layNew t es hs x).2.1.led = t.led ∧ ((layNew t es hs x).2.1.plain = t.plain ∨ (layNew t es hs x).2.1.plain = false) := by
  unfold layNew
  split
  · exact orStandIn_led _ _
  · exact ⟨rfl, .inr rfl⟩
theorem setAddHashed_str {a : Addr} {ks : List Str} {x : Str} {tk : Tok} {Q : Bool → Shared → Prop} (hS : At h a (pS w ks)) (hz : ks.length + 1 < scanBound)
    (q : ∀ b h', Heap.SameBut a h h' → At h' a (pS w (if x ∈ ks then ks else x :: ks)) → Q b (upd s h' t)) : wpAny (model PR w) A (setAddHashed a (.str x tk) ((knS w).hash x)) Q E (upd s h t) := by
  obtain ⟨o, ho, hex, es, ep, tb, hd, hel, ⟨ks', hs', hp⟩, hnd, hf, hled, hpl⟩ := hS
  have hsc : (Value.str x tk).scannable = true := rfl
  have hkey : (knS w).is x (.str x tk) = true := strKind_is _ _ _ _
  have hlen : es.size = ks.length := by have := strsAre_len hs'; rw [List.length_map, Array.length_toList, hp.length_eq] at this; exact this
  have hb : es.size < scanBound := by omega
  have hmem : x ∈ ks ↔ ∃ e ∈ es.toList, (knS w).is x e.2 = true := by
    rw [← hp.mem_iff, strsAre_mem hs']
    constructor
    · rintro ⟨t, ht⟩
      obtain ⟨e, he, hx⟩ := List.mem_map.mp ht
      exact ⟨e, he, is_str.mpr ⟨t, hx⟩⟩
    · rintro ⟨e, he, hx⟩
      obtain ⟨t, hx⟩ := is_str.mp hx
      exact ⟨t, hx ▸ List.mem_map_of_mem he⟩
  unfold setAddHashed setAddHashedIn
  refine wpAny_holding (wpAny_bind (wpAny_setState_of (s := upd s h t) ho hd hf ?_))
  dsimp only
  rw [byScan_of hsc hb hel]
  simp only [↓reduceIte]
  unfold setAddByScan
  refine wpAny_bind (wpAny_bind (wpAny_rule (wpAny_bind (wpAny_setScan_of hkey ho hd hf hel ?_))))
  cases hr : List.findIdx? (fun e => (knS w).is x e.2) es.toList with
  | some j =>
    obtain ⟨hj, hpj, _⟩ := List.findIdx?_eq_some_iff_getElem.mp hr
    have hx : x ∈ ks := hmem.mpr ⟨es.toList[j], List.getElem_mem hj, hpj⟩
    have := q false h (Heap.SameBut.refl a h) (by rw [if_pos hx]; exact ⟨o, ho, hex, es, ep, tb, hd, hel, ⟨ks', hs', hp⟩, hnd, hf, hled, hpl⟩)
    exact wpAny_pure (wpAny_pure this)
  | none =>
    have hx : x ∉ ks := fun hm => by
      obtain ⟨e, he, q'⟩ := hmem.mp hm
      have := List.findIdx?_eq_none_iff.mp hr e he
      rw [q'] at this; exact Bool.noConfusion this
    rw [if_neg hx] at q
    have hperm := layNew_perm tb es ((knS w).hash x) (.str x tk)
    have hfits := layNew_fits tb es ((knS w).hash x) (.str x tk)
    have hll := layNew_led tb es ((knS w).hash x) (.str x tk)
    dsimp only
    generalize hL : layNew tb es ((knS w).hash x) (.str x tk) = Lw at hperm hfits hll ⊢
    obtain ⟨es1, t1, wasDummy, gave⟩ := Lw
    dsimp only at hperm hfits hll ⊢
    rw [Array.toList_push] at hperm
    have hel1 : ElemsOf (knS w) es1.toList := (hel.push hkey hsc).perm hperm
    have hstr1 : ∃ ks', StrsAre (es1.toList.map (·.2)) ks' ∧ ks'.Perm (x :: ks) := by
      have h1 : StrsAre ((es.toList ++ [((knS w).hash x, Value.str x tk)]).map (·.2)) (ks' ++ [x]) := by
        rw [List.map_append]; exact strsAre_app hs' (.cons x tk .nil)
      obtain ⟨k2, a, b⟩ := strsAre_perm (hperm.map (·.2)) h1
      exact ⟨k2, a, b.trans ((List.perm_append_singleton x ks').trans (hp.cons x))⟩
    have hz1 : es1.size < scanBound := by rw [← Array.length_toList, hperm.length_eq, List.length_append, Array.length_toList, List.length_singleton]; omega
    have hgw : ∀ (b : Bool) {s₁ : Shared} {Q' : Unit → Shared → Prop}, Q' () s₁ → wpAny (model PR w) A (match b with | true => rule "set.scan.the-table-gave-way" | false => pure ()) Q' E s₁ :=
      fun b s₁ Q' hq => by cases b <;> first | exact wpAny_pure hq | exact wpAny_rule hq
    have nd1 : (x :: ks).Nodup := List.nodup_cons.mpr ⟨hx, hnd⟩
    refine wpAny_bind (hgw _ ?_)
    have tail : ∀ (t2 : SetTable) (R : Option Bool → Shared → Prop), t2.fits es1.size = true → t2.led = ledOf w → t2.plain = false →
        (∀ h', Heap.SameBut a h h' → At h' a (pS w (x :: ks)) → R (some true) (upd s h' t)) →
        wpAny (model PR w) A (do
          storeSet a es1 t2
          if (!wasDummy && t2.tooFull) = true then do
              (match (relayAll t2 es1 (SetTable.grown es1.size)).2.2 with | true => rule "set.scan.the-table-gave-way" | false => pure ())
              storeSet a (relayAll t2 es1 (SetTable.grown es1.size)).1 (relayAll t2 es1 (SetTable.grown es1.size)).2.1
              pure (some true)
            else pure (some true)) R E (upd s h t) := by
      intro t2 R f2 l2 p2 hR
      refine wpAny_bind (wpAny_storeSet_of (s := upd s h t) ho hd ?_ (fits_of_scanBound hz1))
      have ho1 : (h.update a (Obj.putSet es1 t2)).get? a = some { o with data := .set es1 (ep + 1) t2 } := by
        have := Heap.get?_update_self (Obj.putSet es1 t2) ho (by rw [putSet_of es1 t2 hd]; rfl)
        rw [putSet_of es1 t2 hd] at this; exact this
      have hsb1 := Heap.SameBut.update h a (Obj.putSet es1 t2)
      split
      · have hp2 := relayAll_perm t2 es1 (SetTable.grown es1.size)
        have hf2 := relayAll_fits t2 es1 (SetTable.grown es1.size)
        have hl2 := relayAll_led t2 es1 (SetTable.grown es1.size)
        generalize relayAll t2 es1 (SetTable.grown es1.size) = Rl at hp2 hf2 hl2 ⊢
        obtain ⟨es2, t3, gave2⟩ := Rl
        dsimp only at hp2 hf2 hl2 ⊢
        have hsz : es2.size = es1.size := by rw [← Array.length_toList, hp2.length_eq, Array.length_toList]
        refine wpAny_bind (hgw _ ?_)
        refine wpAny_bind (wpAny_storeSet_of (s := upd s (h.update a (Obj.putSet es1 t2)) t) ho1 rfl ?_ (fits_of_scanBound (hsz ▸ hz1)))
        have ho2 : ((h.update a (Obj.putSet es1 t2)).update a (Obj.putSet es2 t3)).get? a = some { o with data := .set es2 (ep + 1 + 1) t3 } := by
          have := Heap.get?_update_self (Obj.putSet es2 t3) ho1 rfl
          exact this
        obtain ⟨k2, a1, b1⟩ := hstr1
        obtain ⟨k3, a2, b2⟩ := strsAre_perm (hp2.map (·.2)) a1
        exact wpAny_pure (hR _ (hsb1.trans (Heap.SameBut.update _ a _)) ⟨_, ho2, hex, es2, _, t3, rfl, hel1.perm hp2, ⟨k3, a2, b2.trans b1⟩, nd1, hf2, hl2.1.trans l2, .inr (hl2.2.elim (fun e => e.trans p2) id)⟩)
      · exact wpAny_pure (hR _ hsb1 ⟨_, ho1, hex, es1, _, t2, rfl, hel1, hstr1, nd1, f2, l2, .inr p2⟩)
    split
    · refine wpAny_bind ?_
      rw [hashByValue_scannable 8 hsc]
      refine wpAny_pure ?_
      refine tail _ _ ?_ ?_ ?_ fun h' sb at' => ?_
      · exact SetTable.fits_plain_off hfits
      · exact hll.1.trans hled
      · rfl
      · exact wpAny_pure (q true h' sb at')
    · rename_i hnp
      refine wpAny_bind (wpAny_pure ?_)
      refine tail _ _ hfits (hll.1.trans hled) ?_ fun h' sb at' => wpAny_pure (q true h' sb at')
      exact eq_false_of_ne_true hnp
end
end Rg
end
section
/-! set(list of texts) -/
open PySem PySem.W PyProof.Rows PySem.Calls
set_option autoImplicit false
set_option maxRecDepth 100000
namespace Rg
section
variable {w : World} {A : Around} {E : Value → Shared → Prop} {s : Shared} {h : Heap} {t : Nat}
/-- the texts met, each once -/
def metL (xs : List Str) : List Str := xs.foldl (fun ks x => if x ∈ ks then ks else x :: ks) []
theorem metL_snoc (xs : List Str) (x : Str) : metL (xs ++ [x]) = if x ∈ metL xs then metL xs else x :: metL xs := by unfold metL; rw [List.foldl_append]; rfl
theorem metL_len : ∀ (xs ks : List Str), (xs.foldl (fun ks x => if x ∈ ks then ks else x :: ks) ks).length ≤ ks.length + xs.length
  | [], ks => by simp
  | x :: xs, ks => by
    rw [List.foldl_cons, List.length_cons]
    refine Nat.le_trans (metL_len xs _) ?_
    split
    · omega
    · rw [List.length_cons]; omega
theorem metL_mem : ∀ (xs ks : List Str) (x : Str), x ∈ xs.foldl (fun ks x => if x ∈ ks then ks else x :: ks) ks ↔ x ∈ ks ∨ x ∈ xs
  | [], ks, x => by simp
  | y :: xs, ks, x => by
    rw [List.foldl_cons, metL_mem xs]
    split
    · rename_i hy
      constructor
      · rintro (h | h)
        · exact .inl h
        · exact .inr (.tail _ h)
      · rintro (h | h)
        · exact .inl h
        · rcases List.mem_cons.mp h with rfl | h
          · exact .inl hy
          · exact .inr h
    · rw [List.mem_cons, List.mem_cons]
      constructor
      · rintro ((h | h) | h)
        · exact .inr (.inl h)
        · exact .inl h
        · exact .inr (.inr h)
      · rintro (h | h | h)
        · exact .inl (.inr h)
        · exact .inl (.inl h)
        · exact .inr h
theorem pS_nodup {w : World} {ks : List Str} {o : Obj} (x : pS w ks o) : ks.Nodup := let ⟨_, _, _, _, _, _, _, n, _⟩ := x; n

theorem setAdd_str {a : Addr} {ks : List Str} {x : Str} {tk : Tok} {Q : Bool → Shared → Prop} (hS : At h a (pS w ks)) (hz : ks.length + 1 < scanBound)
    (q : ∀ b h' t', Heap.SameBut a h h' → At h' a (pS w (if x ∈ ks then ks else x :: ks)) → Q b (upd s h' t')) : wpAny (model PR w) A (setAdd a (.str x tk)) Q E (upd s h t) := by
  unfold setAdd
  refine wpAny_holding (wpAny_bind ((knS w).pyHash (k := x) (strKind_is _ _ _ _) ?_))
  exact setAddHashed_str (s := s) (t := t + 1) hS hz fun b h' sb at' => q b h' (t + 1) sb at'

theorem strsAre_get : ∀ {vs : List Value} {xs : List Str}, StrsAre vs xs → ∀ (i : Nat) (hv : i < vs.length) (hx : i < xs.length), ∃ tk, vs[i] = .str xs[i] tk
  | _, _, .nil, i, hv, _ => absurd hv (Nat.not_lt_zero _)
  | _, _, .cons y u r, 0, _, _ => ⟨u, rfl⟩
  | _, _, .cons y u r, i + 1, hv, hx => strsAre_get r i (Nat.lt_of_succ_lt_succ hv) (Nat.lt_of_succ_lt_succ hx)
theorem set_update_loop {a it l : Addr} {vs : List Value} {xs : List Str} {R : Result → Shared → Prop} (hh : A.handled = none) (hal : a ≠ l) (hai : a ≠ it) (hil : it ≠ l) (hx : StrsAre vs xs) (hz : xs.length + 1 < scanBound) :
    ∀ (k i : Nat) (h : Heap) (t : Nat), vs.length - i = k → i ≤ vs.length → h.IsList l vs.toArray → At h it (pLI l i) → At h a (pS w (metL (xs.take i))) →
      (∀ h' t', LeX [a, it] h h' → At h' a (pS w (metL xs)) → R (.ok (.ret .none)) (upd s h' t')) →
      codeAny (model PR w) A (.builtin "set.update.loop" ⟨[.ref a, .ref it], []⟩) R (upd s h t) := by
  have hlen := strsAre_len hx
  intro k
  induction k with
  | zero =>
    intro i h t hk hi hl hit hS q
    have hin : i = vs.length := by omega
    refine codeAny_builtin PyProof.Rows.F.entry_set_update_loop ?_
    rw [Around.under_plainId PyProof.Rows.F.plain_set_update_loop _]
    show wpAny _ A.in1 (pyNext (.ref it) >>= _) _ _ _
    refine wpAny_bind (wpAny_pyNext_list_end (s := upd s h t) hh hit hl (by simp [hin]) fun h' he => ?_)
    refine wpAny_pure (q h' t ((extBut_le he).mono (by simp)) ?_)
    obtain ⟨o, ho, r⟩ := hS
    rw [hin, hlen, List.take_length] at r
    exact ⟨o, extBut_le he _ _ (by simpa using hai) ho, r⟩
  | succ k ih =>
    intro i h t hk hi hl hit hS q
    have hlt : i < vs.length := by omega
    have hlx : i < xs.length := by omega
    refine codeAny_builtin PyProof.Rows.F.entry_set_update_loop ?_
    rw [Around.under_plainId PyProof.Rows.F.plain_set_update_loop _]
    show wpAny _ A.in1 (pyNext (.ref it) >>= _) _ _ _
    refine wpAny_bind (wpAny_pyNext_list_item (s := upd s h t) hit hl (x := vs[i]) (by simp [hlt]) fun h' hit' hs' => ?_)
    have hx' : ∃ tk, vs[i] = .str xs[i] tk := strsAre_get hx i hlt hlx
    obtain ⟨tk, ex⟩ := hx'
    rw [ex]
    have ks' := le_of_sameBut hs'
    show wpAny _ A.in1 (holding [Value.str xs[i] tk] (setAdd a (.str xs[i] tk)) >>= _) _ _ _
    have hml : (metL (xs.take i)).length ≤ i := by
      have := metL_len (xs.take i) []
      rw [List.length_nil, Nat.zero_add, List.length_take] at this
      exact Nat.le_trans this (Nat.min_le_left _ _)
    refine wpAny_bind (wpAny_holding (setAdd_str (s := s) (t := t) (ks := metL (xs.take i)) ?_ (by omega) fun b h2 t2 sb hS2 => ?_))
    · obtain ⟨o, ho, r⟩ := hS
      exact ⟨o, ks' _ _ (by simpa using hai) ho, r⟩
    · have ks2 := le_of_sameBut sb
      refine wpAny_pure ⟨plainId_quiet PyProof.Rows.F.plain_set_update_loop _, ih (i + 1) h2 t2 (by omega) hlt (hl.at fun o e => ks2 _ _ (by simpa using hal.symm) (ks' _ _ (by simpa using hil.symm) e)) ?_ ?_ fun h3 t3 k3 hS3 => ?_⟩
      · obtain ⟨o, ho, r⟩ := hit'
        exact ⟨o, ks2 _ _ (by simpa using hai.symm) ho, r⟩
      · rw [List.take_succ_eq_append_getElem hlx, metL_snoc]; exact hS2
      · exact q h3 t3 (((ks'.mono (by simp)).trans (ks2.mono (by simp))).trans k3) hS3

theorem code_set_made (l : Value) {Q₁ : Value → Shared → Prop}
    (q : Q₁ (.ref h.objs.size) (upd s (h.push { cls := .type "set", dict := none, data := .set #[] 0 (.fresh 0 0 (ledOf w)) }) t)) :
    codeAny (model PR w) A (.call (.builtin "set.__new__") ⟨[.type "set", l], []⟩) (wants Q₁ E) (upd s h t) := by
  refine codeAny_of_tree ?_
  show wpAny _ A.in1 (do checkBuiltinCall "set.__new__" ⟨[.type "set", l], []⟩; again (.builtin "set.__new__" ⟨[.type "set", l], []⟩)) _ _ _
  refine wpAny_bind (wpAny_of_eq (PySem.F.newCall_set_1 l) (wpAny_pure ⟨plainId_quiet PySem.F.plain_set_new _, codeAny_builtin PySem.F.entry_set_new ?_⟩))
  rw [Around.under_plainId PySem.F.plain_set_new _]
  unfold Builtin.«set.__new__» Builtin.Frozenset.newClass
  have hsub := PySem.sub_set_self
  obtain ⟨hp, g, d, tk, os⟩ := s
  dsimp only [upd] at q ⊢
  wp_walk
  refine wpAny_askSetting (wpAny_pure ?_)
  dsimp only
  simp only [newObj]
  refine wpAny_bind (wpAny_alloc (wpAny_pure ?_))
  exact wpAny_pure q

set_option maxHeartbeats 3200000 in
theorem call_set_strs {l : Addr} {vs : List Value} {xs : List Str} {Q : Value → Shared → Prop} (hh : A.handled = none) (hl : h.IsList l vs.toArray) (hx : StrsAre vs xs) (hz : xs.length + 1 < scanBound)
    (q : ∀ h' t', Le h h' → At h' h.objs.size (pS w (metL xs)) → Q (.ref h.objs.size) (upd s h' t')) : wpAny (model PR w) A (call (.type "set") [.ref l]) Q E (upd s h t) := by
  obtain ⟨c, tl, hmro⟩ := PySem.F.called_set.mro
  have hmade := PySem.F.called_set.made
  have hsub := PySem.F.called_set.sub
  refine wpAny_call (codeAny_of_tree ?_)
  show wpAny _ _ (callAny (.type "set") _) _ _ _
  refine wpAny_pure ⟨Code.quiet_builtin _ (by decide +kernel), codeAny_builtin PySem.F.entry_type_call ?_⟩
  rw [Around.under_plain (weight_type_call_type "set" [.ref l] []) rfl]
  have h1 := PySem.F.called_set.notType
  have h2 := PySem.F.called_set.canCreate
  have hct := PySem.F.typeCall_set_1 (.ref l)
  repeat (any_goals (first | assumption | wp_step))
  refine codeAny_mono (code_set_made (s := s) (h := h) (t := t) (.ref l) (E := E) (Q₁ := fun obj s₁ => obj = .ref h.objs.size ∧ s₁ = upd s (h.push { cls := .type "set", dict := none, data := .set #[] 0 (.fresh 0 0 (ledOf w)) }) t) ⟨rfl, rfl⟩) fun r s₁ hr => ?_
  cases r with
  | error e => exact hr
  | ok fl =>
    cases fl with
    | ret obj =>
      obtain ⟨rfl, rfl⟩ := hr
      generalize hH : h.push { cls := .type "set", dict := none, data := .set #[] 0 (.fresh 0 0 (ledOf w)) } = H
      have hle : Le h H := hH ▸ Le.push _ _
      have hS : H.get? h.objs.size = some { cls := .type "set", dict := none, data := .set #[] 0 (.fresh 0 0 (ledOf w)) } := hH ▸ Heap.get?_push_size _ rfl
      have hT : Shared.TypeIs (upd s H t) (.ref h.objs.size) "set" := ⟨_, hS, rfl⟩
      have hli := PySem.F.called_set.init.lookup
      have hbi := PySem.F.called_set.init.bind (.ref h.objs.size)
      repeat (any_goals (first | assumption | wp_step))
      refine codeAny_mono (codeAny_call_builtin (R := wants (fun r s₂ => r = .none ∧ ∃ h' t', s₂ = upd s h' t' ∧ Le h h' ∧ At h' h.objs.size (pS w (metL xs))) E) PySem.F.called_set.init.plain PySem.F.entry_set_init (check_set_init_1 hT ?_)) fun r₂ s₂ hr₂ => ?_
      · have hl1 : H.IsList l vs.toArray := isList_le hl hle
        obtain ⟨ol, hol, hcl, nl, hdl⟩ := id hl1
        obtain ⟨ocls, odict, odata, oslots⟩ := ol
        simp only at hcl hdl
        subst hcl; subst hdl
        have hsls := PySem.F.sub_list_set
        have hslf := PySem.F.sub_list_frozenset
        have hne : (Value.type "list" == Value.type "dict") = false := by decide
        unfold Builtin.«set.__init__» noKeywords Builtin.Frozenset.updateFrom
        generalize hPI : pyIter = PI
        wp_walk
        subst hPI
        refine wpAny_pyIter_list (s := upd s H t) hl1 ?_
        refine wpAny_bind (wpAny_runValue ?_)
        have hlt : l < h.objs.size := let ⟨_, e, _⟩ := hl; Heap.lt_size e
        have hHs : H.objs.size = h.objs.size + 1 := by rw [← hH, Heap.size_push]
        refine set_update_loop (s := s) (a := h.objs.size) (it := H.objs.size) (l := l) (by simp [hh]) (Nat.ne_of_gt hlt) (by rw [hHs]; exact Nat.ne_of_lt (Nat.lt_succ_self _)) (by rw [hHs]; exact Nat.ne_of_gt (Nat.lt_succ_of_lt hlt)) hx hz _ 0 _ t rfl (Nat.zero_le _)
          (isList_le hl1 (Le.push _ _)) ⟨_, Heap.get?_push_size _ rfl, rfl, rfl⟩ ⟨_, Le.push _ _ _ _ hS, ⟨rfl, rfl, rfl⟩, #[], 0, _, rfl, fun e he => by simp at he, ⟨[], .nil, .refl _⟩, List.nodup_nil, rfl, rfl, .inl rfl⟩ fun h' t' k hS' => ?_
        refine wpAny_pure ?_
        show wpAny _ _ (ret Value.none) _ _ _
        refine wpAny_pure ⟨rfl, h', t', rfl, fun b o e => ?_, hS'⟩
        have hb := Heap.lt_size e
        exact k b o (by simp only [List.mem_cons, List.mem_singleton, List.not_mem_nil, or_false, not_or]; exact ⟨Nat.ne_of_lt hb, by rw [hHs]; exact Nat.ne_of_lt (Nat.lt_succ_of_lt hb)⟩) (Le.push _ _ _ _ (hle b o e))
      · cases r₂ with
        | error e => exact hr₂
        | ok fl₂ =>
          cases fl₂ with
          | ret r =>
            obtain ⟨rfl, h', t', rfl, hk', hS'⟩ := hr₂
            repeat (any_goals (first | assumption | wp_step))
            exact q _ _ hk' hS'
          | _ => exact hr₂.elim
    | _ => exact hr.elim
end
end Rg
end
section
/-! walking a set of texts -/
open PySem PySem.W PyProof.Rows PySem.Calls
set_option autoImplicit false
set_option maxRecDepth 100000
namespace Rg
theorem eraseIdx_perm {α : Type} : ∀ {l : List α} {k : Nat} (hk : k < l.length), List.Perm (l[k] :: l.eraseIdx k) l
  | [], k, hk => absurd hk (by simp)
  | x :: l, 0, hk => by simp
  | x :: l, k + 1, hk => by
    have hk' : k < l.length := by simpa using hk
    simp only [List.getElem_cons_succ, List.eraseIdx_cons_succ]
    exact (List.Perm.swap _ _ _).trans ((eraseIdx_perm hk').cons x)
theorem sl_sit_next : Slot "set_iterator" "__next__" "set_iterator.__next__" :=
  .of (owner := "set_iterator") (n := "__next__") (by rw [typeLookup_type, builtinLookup_eq_fast]; kernel_rfl) (by decide +kernel) (by decide +kernel) (by decide +kernel)
    (by first | exact .inl (by decide +kernel) | exact .inr (by decide +kernel)) (by rw [isSubtype_type]; kernel_rfl)
theorem en_sit_next : entryFor table "set_iterator.__next__" = some Builtin.«set_iterator.__next__» := entryFor_of_tree (by kernel_rfl)
theorem ow_sit : Manifest.owners.lookup (String.ofList ['r', 'o', 't', 'a', 'r', 'e', 't', 'i', '_', 't', 'e', 's'].reverse) = some Manifest.sig_set_iterator := by kernel_rfl
theorem ar_sit_next (a : Value) : argsOk "set_iterator.__next__" ⟨[a], []⟩ := by
  unfold argsOk; rw [signature?_of (id := "set_iterator.__next__") (n := ['_', '_', 't', 'x', 'e', 'n', '_', '_']) (o := ['r', 'o', 't', 'a', 'r', 'e', 't', 'i', '_', 't', 'e', 's']) (by kernel_rfl) ow_sit]; kernel_rfl
theorem sl_sit_iter : Slot "set_iterator" "__iter__" "set_iterator.__iter__" :=
  .of (owner := "set_iterator") (n := "__iter__") (by rw [typeLookup_type, builtinLookup_eq_fast]; kernel_rfl) (by decide +kernel) (by decide +kernel) (by decide +kernel)
    (by first | exact .inl (by decide +kernel) | exact .inr (by decide +kernel)) (by rw [isSubtype_type]; kernel_rfl)
theorem ar_sit_iter (a : Value) : argsOk "set_iterator.__iter__" ⟨[a], []⟩ := by
  unfold argsOk; rw [signature?_of (id := "set_iterator.__iter__") (n := ['_', '_', 'r', 'e', 't', 'i', '_', '_']) (o := ['r', 'o', 't', 'a', 'r', 'e', 't', 'i', '_', 't', 'e', 's']) (by kernel_rfl) ow_sit]; kernel_rfl
theorem en_sit_iter : entryFor table "set_iterator.__iter__" = some Builtin.«dict_keyiterator.__iter__» :=
  entryFor_alias (id' := "dict_keyiterator.__iter__") (by kernel_rfl) (by first | rfl | decide +kernel) (by decide +kernel) (by kernel_rfl)
theorem en_set_iter : entryFor table "set.__iter__" = some Builtin.«frozenset.__iter__» :=
  entryFor_alias (id' := "frozenset.__iter__") (by kernel_rfl) (by first | rfl | decide +kernel) (by decide +kernel) (by kernel_rfl)
theorem sit_len : typeLookup (.type "set_iterator") "__len__" = pure none := by rw [typeLookup_type, builtinLookup_eq_fast]; kernel_rfl
theorem sit_hint : typeLookup (.type "set_iterator") "__length_hint__" = pure (some (.builtin "set_iterator.__length_hint__")) := by rw [typeLookup_type, builtinLookup_eq_fast]; kernel_rfl
theorem set_len : typeLookup (.type "set") "__len__" = pure (some (.builtin "set.__len__")) := by rw [typeLookup_type, builtinLookup_eq_fast]; kernel_rfl
section
variable {w : World} {A : Around} {E : Value → Shared → Prop} {s : Shared} {h : Heap} {t : Nat}
theorem wpAny_choose' {M : Model} {src : Source} {n : Nat} {Q : Nat → Shared → Prop} (hn : n ≠ 0) (q : ∀ k d, k < n → Q k { s with drawn := d }) : wpAny M A (choose src n) Q E s := fun _ _ _ => ⟨hn, q _ _ (Nat.mod_lt _ (Nat.pos_of_ne_zero hn))⟩
theorem wpAny_drawOrder {α : Type} {M : Model} : ∀ (n : Nat) (xs : List α) {s : Shared} {Q : List α → Shared → Prop}, xs.length ≤ n → (∀ ys d, ys.Perm xs → Q ys { s with drawn := d }) → wpAny M A (drawOrder n xs) Q E s
  | 0, xs, s, Q, hn, q => by
    have : xs = [] := List.eq_nil_of_length_eq_zero (by omega)
    subst this
    exact wpAny_pure (q [] s.drawn (.refl _))
  | n + 1, [], s, Q, hn, q => wpAny_pure (q [] s.drawn (.refl _))
  | n + 1, x :: xs, s, Q, hn, q => by
    unfold drawOrder
    refine wpAny_bind (wpAny_choose' (by simp) fun k d hk => ?_)
    have hk' : (x :: xs)[k]? = some (x :: xs)[k] := List.getElem?_eq_getElem hk
    rw [hk']
    refine wpAny_bind (wpAny_drawOrder n _ (by rw [List.length_eraseIdx]; split <;> simp at hn ⊢ <;> omega) fun ys d' hp => wpAny_pure ?_)
    exact q _ d' ((hp.cons _).trans (eraseIdx_perm hk))
theorem pickOrder_go {α : Type} (next : Nat → Nat) : ∀ (fuel k : Nat) (left : List α) (out : Array α), left.length ≤ fuel → List.Perm (pickOrder.go next fuel k left out).toList (out.toList ++ left)
  | 0, k, left, out, hl => by
    have : left = [] := List.eq_nil_of_length_eq_zero (by omega)
    subst this
    simp [pickOrder.go]
  | fuel + 1, k, left, out, hl => by
    unfold pickOrder.go
    cases left with
    | nil => simp
    | cons x xs =>
      have hk : next k % (x :: xs).length < (x :: xs).length := Nat.mod_lt _ (by simp)
      rw [List.getElem?_eq_getElem hk]
      dsimp only
      refine (pickOrder_go next fuel (k + 1) _ _ (by rw [List.length_eraseIdx]; split <;> simp at hl ⊢ <;> omega)).trans ?_
      rw [Array.toList_push, List.append_assoc]
      exact List.Perm.append_left _ (eraseIdx_perm hk)
theorem pickOrder_perm {α : Type} (next : Nat → Nat) (xs : Array α) : List.Perm (pickOrder next xs).toList xs.toList := by
  have := pickOrder_go next xs.size 0 xs.toList #[] (by simp)
  simpa [pickOrder] using this
/-- the parts of a set as it stands -/
structure SetAt (w : World) (h : Heap) (a : Addr) (es : Array (Int × Value)) (ep : Nat) (tb : SetTable) : Prop where
  at_ : ∃ o, h.get? a = some o ∧ o.cls = .type "set" ∧ o.data = .set es ep tb
  fits : tb.fits es.size = true
  led : tb.led = ledOf w
  plain : es.size = 0 ∨ tb.plain = false
theorem SetAt.keep {h h' : Heap} {a : Addr} {es : Array (Int × Value)} {ep : Nat} {tb : SetTable} (x : SetAt w h a es ep tb) (k : ∀ o, h.get? a = some o → h'.get? a = some o) : SetAt w h' a es ep tb :=
  ⟨let ⟨o, e, r⟩ := x.at_; ⟨o, k o e, r⟩, x.fits, x.led, x.plain⟩
theorem setState_at {a : Addr} {es : Array (Int × Value)} {ep : Nat} {tb : SetTable} {Q : (Array (Int × Value) × Nat × SetTable) → Shared → Prop} (x : SetAt w h a es ep tb) (q : Q (es, ep, tb) (upd s h t)) :
    wpAny (model PR w) A (setState a) Q E (upd s h t) := let ⟨_, e, _, d⟩ := x.at_; wpAny_setState_of (s := upd s h t) e d x.fits q
theorem setsByText_ {Q : Bool → Shared → Prop} {s : Shared} (q : Q (!ledOf w) s) : wpAny (model PR w) A setsByText Q E s := by
  unfold setsByText
  refine wpAny_bind (wpAny_askSetting (wpAny_pure ?_))
  unfold ledOf at q
  rw [Bool.not_not] at q
  exact q
/-- the iterator of a set -/
def pSI (first : Value) (i : Nat) (a : Addr) (n ep : Nat) : Obj → Prop := fun o => o.cls = .type "set_iterator" ∧ o.data = .fields #[first, rawInt i, .ref a, rawInt n, rawInt ep]
def drawnOf (w : World) (es : Array (Int × Value)) (tb : SetTable) : Bool := ledOf w && (!tb.plain && es.size > 1)
theorem pyIter_set {a : Addr} {es : Array (Int × Value)} {ep : Nat} {tb : SetTable} {Q : Value → Shared → Prop} (x : SetAt w h a es ep tb) (hz : es.size ≤ 2 ^ 20)
    (q0 : drawnOf w es tb = false → ∀ h', Le h h' → At h' h.objs.size (pSI (rawInt 0) 0 a es.size ep) → Q (.ref h.objs.size) (upd s h' t))
    (q1 : drawnOf w es tb = true → ∀ ps d h', (ps : List Nat).Perm (List.range es.size) → Le h h' → IsTup h' h.objs.size (ps.map fun (p : Nat) => rawInt p).toArray → At h' (h.objs.size + 1) (pSI (.ref h.objs.size) 0 a es.size ep) → Q (.ref (h.objs.size + 1)) (upd { s with drawn := d } h' t)) :
    wpAny (model PR w) A (pyIter (.ref a)) Q E (upd s h t) := by
  obtain ⟨o, ho, hc, hd⟩ := id x.at_
  have hT : Shared.TypeIs (upd s h t) (.ref a) "set" := ⟨o, ho, hc⟩
  refine wpAny_pyIter_slot hT PySem.F.slot_set_iter (wpAny_call_entry PySem.F.slot_set_iter hT en_set_iter ?_ (PySem.F.args_set_iter_1 _))
  unfold Builtin.«frozenset.__iter__» Builtin.Frozenset.slot0
  refine wpAny_bind (wpAny_bind (wpAny_pure (wpAny_pure ?_)))
  dsimp only
  unfold Builtin.Frozenset.sizeOf setEntries
  refine wpAny_bind (wpAny_bind (wpAny_bind (setState_at x (wpAny_pure (wpAny_pure ?_)))))
  unfold setDrawn
  refine wpAny_bind (wpAny_bind (setState_at x ?_))
  dsimp only
  refine wpAny_bind (setsByText_ (wpAny_pure ?_))
  rw [Bool.not_not]
  show wpAny _ _ (if drawnOf w es tb = true then _ else _) _ _ _
  cases hdr : drawnOf w es tb with
  | true =>
    rw [if_pos rfl]
    refine wpAny_bind (wpAny_drawOrder _ _ (by simp) fun ps d hp => ?_)
    simp only [newTuple, newFields]
    refine wpAny_bind (wpAny_newObj_type ?_ (by
      show (List.map _ ps).toArray.size ≤ sizeLine
      rw [List.size_toArray, List.length_map, hp.length_eq, List.length_range]; exact lt_sizeLine (by omega)))
    have x1 : SetAt w (h.push { cls := .type "tuple", data := .seq (ps.map fun (p : Nat) => rawInt p).toArray }) a es ep tb := x.keep fun o e => Heap.get?_push_of_some _ e
    unfold setEpoch
    refine wpAny_bind (wpAny_bind (setState_at (s := { s with drawn := d }) x1 (wpAny_pure ?_)))
    dsimp only
    refine wpAny_bind (wpAny_newObj_type ?_)
    refine wpAny_pure ⟨_, rfl, "set_iterator", _, ⟨_, Heap.get?_push_size _ rfl, rfl⟩, sl_sit_next.lookup, ?_⟩
    dsimp only
    rw [show (h.push { cls := .type "tuple", data := .seq (ps.map fun (p : Nat) => rawInt p).toArray }).objs.size = h.objs.size + 1 from Heap.size_push ..]
    refine q1 hdr ps d _ hp ((Le.push _ _).trans (Le.push _ _)) ⟨_, Heap.get?_push_of_some _ (Heap.get?_push_size _ rfl), rfl, 0, rfl⟩ ⟨{ cls := .type "set_iterator", data := .fields #[.ref h.objs.size, rawInt 0, .ref a, rawInt es.size, rawInt ep] }, ?_, rfl, rfl⟩
    have := Heap.get?_push_size (h.push { cls := .type "tuple", data := .seq (ps.map fun (p : Nat) => rawInt p).toArray }) (o := { cls := .type "set_iterator", data := .fields #[.ref h.objs.size, rawInt 0, .ref a, rawInt es.size, rawInt ep] }) rfl
    rw [show (h.push { cls := .type "tuple", data := .seq (ps.map fun (p : Nat) => rawInt p).toArray }).objs.size = h.objs.size + 1 from Heap.size_push ..] at this
    exact this
  | false =>
    rw [if_neg Bool.false_ne_true]
    refine wpAny_bind (wpAny_pure ?_)
    unfold setEpoch
    refine wpAny_bind (wpAny_bind (setState_at x (wpAny_pure ?_)))
    dsimp only
    simp only [newFields]
    refine wpAny_bind (wpAny_newObj_type ?_)
    refine wpAny_pure ⟨_, rfl, "set_iterator", _, ⟨_, Heap.get?_push_size _ rfl, rfl⟩, sl_sit_next.lookup, ?_⟩
    exact q0 hdr _ (Le.push _ _) ⟨_, Heap.get?_push_size _ rfl, rfl, rfl⟩
end
end Rg
end
section
/-! the turns of a set's iterator -/
open PySem PySem.W PyProof.Rows PySem.Calls
set_option autoImplicit false
set_option maxRecDepth 100000
namespace Rg
section
variable {w : World} {A : Around} {E : Value → Shared → Prop} {s : Shared} {h : Heap} {t : Nat}
theorem pSI_set {it a n ep : Nat} {first y : Value} {i k : Nat} {o : Obj} (ho : h.get? it = some o) (p : pSI first i a n ep o) : ∃ o', (h.update it (Obj.mapFields (·.setIfInBounds k y))).get? it = some o' ∧ o'.cls = .type "set_iterator" ∧
    o'.data = .fields (#[first, rawInt i, .ref a, rawInt n, rawInt ep].setIfInBounds k y) :=
  ⟨_, Heap.get?_update_self _ ho (Obj.isFreed_of_fields (Obj.data_mapFields p.2 _)), (Obj.cls_mapFields ..).trans p.1, by rw [Obj.data_mapFields p.2]⟩
theorem sit_stop {Q : Option Value → Shared → Prop} (hh : A.handled = none) {h₁ : Heap} (q : ∀ h', Le h₁ h' → Q none (upd s h' t)) :
    wpAny (model PR w) A.in1 (raiseNew (α := Fin) =<< newExc (.type "StopIteration") []) (fun fin _ => ∃ v, fin = .done (.ret v) ∧ False) (fun e s' => wpAny (model PR w) A (isInstance e (.type "StopIteration")) (fun b s'' => b = true ∧ Q none s'') E s') (upd s h₁ t) := by
  show wpAny _ _ (newExc (.type "StopIteration") [] >>= _) _ _ _
  refine wpAny_bind ?_
  simp only [newExc, newTuple]
  refine wpAny_bind (wpAny_newObj_type ?_ (by size_fits))
  refine wpAny_bind (m := firstArgMember _ _) (wpAny_of_eq (a := Value.none) (by first | rfl | (simp only [firstArgMember]; rfl)) ?_)
  refine wpAny_newObj_type ?_ (by size_fits)
  simp only [raiseNew]
  refine wpAny_bind (wpAny_handled ?_)
  rw [show A.in1.handled = none from hh]
  refine wpAny_bind (wpAny_pure (wpAny_throw ?_))
  exact wpAny_isInstance (T := "StopIteration") (b := true) ⟨_, Heap.get?_push_size _ rfl, rfl⟩ isSubtype_stop ⟨rfl, q _ ((Le.push _ _).trans (Le.push _ _))⟩
/-- the head of a turn -/
theorem sit_head {it a : Addr} {first : Value} {i n ep : Nat} {es : Array (Int × Value)} {tb : SetTable} {Q : Option Value → Shared → Prop} (hh : A.handled = none) (hit : At h it (pSI first i a n ep)) (x : SetAt w h a es ep tb) (hn : es.size = n)
    (q : wpAny (model PR w) A.in1 (do
      if let .int slot _ := first then
        match ← setNext a slot.toNat i ep with
        | some (x, next) =>
          setField (.ref it) 0 (rawInt next)
          setField (.ref it) 1 (rawInt ((i : Int) + 1))
          ret x
        | none => setField (.ref it) 2 .none; raiseNew (← newExc (.type "StopIteration") [])
      else
        let some places ← seqItems? first | unsupported "internal:set_iterator"
        match places[i]? with
        | some (.int place _) =>
          let x ← setNextDrawn a place.toNat ep
          setField (.ref it) 1 (rawInt ((i : Int) + 1))
          ret x
        | some _ => unsupported "internal:set_iterator"
        | none => setField (.ref it) 0 (rawInt 0); setField (.ref it) 2 .none; raiseNew (← newExc (.type "StopIteration") []))
      (fun fin s' => ∃ v, fin = .done (.ret v) ∧ Q (some v) s') (fun e s' => wpAny (model PR w) A (isInstance e (.type "StopIteration")) (fun b s'' => b = true ∧ Q none s'') E s') (upd s h t)) :
    wpAny (model PR w) A (pyNext (.ref it)) Q E (upd s h t) := by
  obtain ⟨o, ho, hc, hd⟩ := hit
  have hT : Shared.TypeIs (upd s h t) (.ref it) "set_iterator" := ⟨o, ho, hc⟩
  unfold pyNext
  refine wpAny_bind (wpAny_attempt (wpAny_callSpecial?_slot (name := Str.ofString "__next__") hT sl_sit_next (wpAny_call_entry sl_sit_next hT en_sit_next ?_ (ar_sit_next _))))
  unfold Builtin.«set_iterator.__next__»
  refine wpAny_bind (wpAny_pure ?_)
  dsimp only
  unfold fieldsOf
  refine wpAny_bind (wpAny_bind (wpAny_load (s := upd s h t) ho ?_))
  rw [hd]
  refine wpAny_pure ?_
  simp only [rawInt]
  unfold setEntries
  refine wpAny_bind (wpAny_bind (setState_at x (wpAny_pure ?_)))
  rw [if_neg (by simp [hn])]
  simp only [Int.toNat_natCast]
  refine wpAny_mono q (fun fin s' z => ?_) fun e s' z => ?_
  · obtain ⟨v, rfl, z⟩ := z
    exact ⟨v, rfl, wpAny_pure z⟩
  · refine wpAny_bind (wpAny_mono z (fun b s'' z => ?_) fun _ _ z => z)
    obtain ⟨rfl, z⟩ := z
    exact wpAny_pure z
theorem sit_self {it : Addr} {Q : Value → Shared → Prop} {s : Shared} (hT : s.TypeIs (.ref it) "set_iterator") (q : Q (.ref it) s) : wpAny (model PR w) A (pyIter (.ref it)) Q E s := by
  refine wpAny_pyIter_slot hT sl_sit_iter (wpAny_call_entry sl_sit_iter hT en_sit_iter ?_ (ar_sit_iter _))
  show wpAny _ _ (ret (.ref it)) _ _ s
  exact wpAny_pure ⟨_, rfl, "set_iterator", _, hT, sl_sit_next.lookup, q⟩
theorem setNext_at {a slot i ep : Nat} {es : Array (Int × Value)} {tb : SetTable} {Q : Option (Value × Nat) → Shared → Prop} (x : SetAt w h a es ep tb) (hnd : drawnOf w es tb = false)
    (q0 : ledOf w = false → Q (((pickOrder (w.params.setOrder a ep) es)[i]?).map fun e => (e.2, slot)) (upd s h t))
    (q1 : ledOf w = true → es.size ≤ 1 → Q (match es[SetTable.below tb.place slot]?, tb.place[SetTable.below tb.place slot]? with | some (_, x), some j => some (x, j + 1) | _, _ => none) (upd s h t)) :
    wpAny (model PR w) A (setNext a slot i ep) Q E (upd s h t) := by
  unfold setNext
  refine wpAny_bind (setState_at x ?_)
  dsimp only
  refine wpAny_bind (setsByText_ ?_)
  cases hl : ledOf w with
  | false =>
    rw [if_pos (by rfl), if_neg (by simp)]
    unfold setWalk
    refine wpAny_bind (wpAny_bind (setState_at x ?_))
    dsimp only
    refine wpAny_bind (setsByText_ ?_)
    rw [hl, if_pos (by rfl)]
    exact wpAny_bind (wpAny_askSetting (wpAny_pure (wpAny_pure (q0 hl))))
  | true =>
    rw [if_neg (by simp)]
    have hd : (!tb.plain && decide (es.size > 1)) = false := by unfold drawnOf at hnd; rw [hl, Bool.true_and] at hnd; exact hnd
    have hle : es.size ≤ 1 := by
      rcases x.plain with e | e
      · omega
      · rw [e] at hd; simpa using hd
    show wpAny _ _ (if (!tb.plain && decide (es.size > 1)) = true then _ else _) _ _ _
    rw [if_neg (by rw [hd]; exact Bool.false_ne_true)]
    refine wpAny_bind (m := if (!tb.led && !es.isEmpty) = true then unsupported "set:maker-not-led" else pure ()) ?_
    rw [x.led, hl, if_neg (by simp)]
    exact wpAny_pure (wpAny_pure (q1 hl hle))
theorem below_one (p j : Nat) : SetTable.below #[p] j = if p < j then 1 else 0 := by
  unfold SetTable.below
  show SetTable.below.go #[p] j 1 0 1 = _
  unfold SetTable.below.go
  simp only [show (0 : Nat) < 1 by omega, if_true]
  show (if (#[p].getD 0 0) < j then SetTable.below.go #[p] j 0 (0 + 1) 1 else SetTable.below.go #[p] j 0 0 0) = _
  show (if p < j then SetTable.below.go #[p] j 0 (0 + 1) 1 else SetTable.below.go #[p] j 0 0 0) = _
  split <;> rfl
def ordN (w : World) (a ep : Nat) (es : Array (Int × Value)) : List Value := (if ledOf w = true then es.toList else (pickOrder (w.params.setOrder a ep) es).toList).map (·.2)
theorem ordN_perm (w : World) (a ep : Nat) (es : Array (Int × Value)) : (ordN w a ep es).Perm (es.toList.map (·.2)) := by
  unfold ordN
  split
  · exact .refl _
  · exact (pickOrder_perm _ _).map _
def slotN (w : World) (tb : SetTable) (i : Nat) : Nat := if ledOf w = true ∧ 0 < i then tb.place.getD 0 0 + 1 else 0
def StN (w : World) (it a ep : Nat) (es : Array (Int × Value)) (tb : SetTable) (i : Nat) (h : Heap) : Prop := SetAt w h a es ep tb ∧ At h it (pSI (rawInt (slotN w tb i)) i a es.size ep)
theorem walksN {it a ep : Nat} {es : Array (Int × Value)} {tb : SetTable} (hh : A.handled = none) (hai : a ≠ it) (hnd : drawnOf w es tb = false) :
    Walks PR w A it [it, a] [it] es.size (fun i v => (ordN w a ep es)[i]? = some v) (StN w it a ep es tb) where
  sub := fun b hb => by simp at hb; simp [hb]
  frame := fun i h h' st hk => ⟨st.1.keep fun o e => hk a (by simp) o e, let ⟨o, e, r⟩ := st.2; ⟨o, hk it (by simp) o e, r⟩⟩
  self := fun i s Q E st q => by
    obtain ⟨o, ho, hc, _⟩ := st.2
    exact sit_self ⟨o, ho, hc⟩ q
  item := fun i s Q E hi st q => by
    obtain ⟨h, g, d, t, os⟩ := s
    obtain ⟨x, hit⟩ := st
    refine sit_head (s := ⟨h, g, d, t, os⟩) (h := h) (t := t) hh hit x rfl ?_
    dsimp only [rawInt]
    obtain ⟨o, ho, hp⟩ := id hit
    have fin : ∀ (v : Value) (next : Nat), (ordN w a ep es)[i]? = some v → next = slotN w tb (i + 1) → wpAny (model PR w) A.in1 (do
          setField (.ref it) 0 (rawInt next)
          setField (.ref it) 1 (rawInt ((i : Int) + 1))
          ret v) (fun fin s' => ∃ v, fin = .done (.ret v) ∧ Q (some v) s') (fun e s' => wpAny (model PR w) A (isInstance e (.type "StopIteration")) (fun b s'' => b = true ∧ Q none s'') E s') (upd ⟨h, g, d, t, os⟩ h t) := by
      rintro v next hv rfl
      refine wpAny_bind (wpAny_setField (s := upd ⟨h, g, d, t, os⟩ h t) ho hp.2 (by simp) ?_)
      obtain ⟨o1, ho1, hc1, hd1⟩ := pSI_set (k := 0) (y := rawInt (slotN w tb (i + 1))) ho hp
      refine wpAny_bind (wpAny_setField ho1 hd1 (by simp) (wpAny_pure ⟨v, rfl, q v _ t hv ⟨?_, ?_⟩ ?_⟩))
      · exact x.keep fun o e => (Heap.get?_update_other _ _ hai.symm).trans ((Heap.get?_update_other _ _ hai.symm).trans e)
      · exact ⟨_, Heap.get?_update_self _ ho1 (Obj.isFreed_of_fields (Obj.data_mapFields hd1 _)), (Obj.cls_mapFields ..).trans hc1, by rw [Obj.data_mapFields hd1]; simp [rawInt]⟩
      · intro b o' hb e
        have hb : it ≠ b := fun q => hb (by simp [q])
        exact (Heap.get?_update_other _ _ hb).trans ((Heap.get?_update_other _ _ hb).trans e)
    refine wpAny_bind (setNext_at (s := ⟨h, g, d, t, os⟩) x hnd (fun hl => ?_) fun hl hle => ?_)
    · have hlt : i < (pickOrder (w.params.setOrder a ep) es).size := by
        have := (pickOrder_perm (w.params.setOrder a ep) es).length_eq
        simp only [Array.length_toList] at this; omega
      rw [Array.getElem?_eq_getElem hlt]
      exact fin _ _ (by unfold ordN; rw [if_neg (by rw [hl]; exact Bool.false_ne_true), List.getElem?_map, Array.getElem?_toList, Array.getElem?_eq_getElem hlt]; rfl) (by unfold slotN; simp [hl])
    · have h1 : es.size = 1 := by omega
      have h0 : i = 0 := by omega
      subst h0
      have hpz : tb.place.size = 1 := by
        have := x.fits
        simp only [SetTable.fits, Bool.and_eq_true, beq_iff_eq] at this
        omega
      obtain ⟨p, hpl⟩ : ∃ p, tb.place = #[p] := ⟨tb.place[0], by
        apply Array.ext
        · simp [hpz]
        · intro j h1 h2; have : j = 0 := by simp at h2; exact h2
          subst this; simp⟩
      have hs0 : (slotN w tb 0 : Int).toNat = 0 := by unfold slotN; simp
      rw [hs0, hpl, below_one, if_neg (by omega)]
      have he : es[0]? = some es[0] := Array.getElem?_eq_getElem (by omega)
      rw [he]
      exact fin _ _ (by unfold ordN; rw [if_pos hl, List.getElem?_map, Array.getElem?_toList, he]; rfl) (by unfold slotN; simp [hl, hpl])
  done := fun s Q E st q => by
    obtain ⟨h, g, d, t, os⟩ := s
    obtain ⟨x, hit⟩ := st
    refine sit_head (s := ⟨h, g, d, t, os⟩) (h := h) (t := t) hh hit x rfl ?_
    dsimp only [rawInt]
    obtain ⟨o, ho, hp⟩ := id hit
    have fin : wpAny (model PR w) A.in1 (do
          setField (.ref it) 2 .none
          raiseNew (α := Fin) (← newExc (.type "StopIteration") [])) (fun fin s' => ∃ v, fin = .done (.ret v) ∧ Q (some v) s') (fun e s' => wpAny (model PR w) A (isInstance e (.type "StopIteration")) (fun b s'' => b = true ∧ Q none s'') E s') (upd ⟨h, g, d, t, os⟩ h t) := by
      refine wpAny_bind (wpAny_setField (s := upd ⟨h, g, d, t, os⟩ h t) ho hp.2 (by simp) ?_)
      refine wpAny_mono (sit_stop (s := ⟨h, g, d, t, os⟩) (t := t) (E := E) (Q := Q) hh fun h' k => q h' t fun b o' hb e => k b o' ((Heap.get?_update_other _ _ (fun q => hb (by simp [q]))).trans e)) (fun fin s' z => ?_) fun _ _ z => z
      obtain ⟨v, _, f⟩ := z
      exact f.elim
    refine wpAny_bind (setNext_at (s := ⟨h, g, d, t, os⟩) x hnd (fun hl => ?_) fun hl hle => ?_)
    · have hlt : (pickOrder (w.params.setOrder a ep) es).size ≤ es.size := by
        have := (pickOrder_perm (w.params.setOrder a ep) es).length_eq
        simp only [Array.length_toList] at this; omega
      rw [Array.getElem?_eq_none hlt]
      exact fin
    · have hpz : tb.place.size = es.size := by
        have := x.fits
        simp only [SetTable.fits, Bool.and_eq_true, beq_iff_eq] at this
        omega
      by_cases h1 : es.size = 1
      · obtain ⟨p, hpl⟩ : ∃ p, tb.place = #[p] := ⟨tb.place[0], by
          apply Array.ext
          · simp [hpz, h1]
          · intro j h1 h2; have : j = 0 := by simp at h2; exact h2
            subst this; simp⟩
        have hs0 : (slotN w tb es.size : Int).toNat = p + 1 := by unfold slotN; simp [hl, hpl, h1]
        rw [hs0, hpl, below_one, if_pos (by omega), Array.getElem?_eq_none (by omega)]
        exact fin
      · rw [Array.getElem?_eq_none (xs := es) (by omega)]
        exact fin
theorem filterMap_at {α β : Type} (f : α → Option β) : ∀ (l : List α), (∀ p ∈ l, (f p).isSome = true) → ∀ i : Nat, (l.filterMap f)[i]? = l[i]?.bind f
  | [], _, i => by simp
  | p :: l, hl, i => by
    obtain ⟨b, hb⟩ := Option.isSome_iff_exists.mp (hl p (.head _))
    rw [List.filterMap_cons_some hb]
    cases i with
    | zero => simp [hb]
    | succ i => simpa using filterMap_at f l (fun q hq => hl q (.tail _ hq)) i
def StD (w : World) (it a ep T : Addr) (ps : List Nat) (es : Array (Int × Value)) (tb : SetTable) (i : Nat) (h : Heap) : Prop :=
  SetAt w h a es ep tb ∧ IsTup h T (ps.map fun (p : Nat) => rawInt p).toArray ∧ At h it (pSI (.ref T) i a es.size ep)
theorem setNextDrawn_at {a p ep : Nat} {es : Array (Int × Value)} {tb : SetTable} {e : Int × Value} {Q : Value → Shared → Prop} (x : SetAt w h a es ep tb) (he : es[p]? = some e) (q : Q e.2 (upd s h t)) : wpAny (model PR w) A (setNextDrawn a p ep) Q E (upd s h t) := by
  unfold setNextDrawn
  refine wpAny_bind (setState_at x ?_)
  dsimp only
  rw [if_neg (by simp), he]
  exact wpAny_pure q
theorem walksD {it a ep T : Addr} {ps : List Nat} {es : Array (Int × Value)} {tb : SetTable} (hh : A.handled = none) (hai : a ≠ it) (hTi : T ≠ it) (hp : ps.Perm (List.range es.size)) :
    Walks PR w A it [it, a, T] [it] es.size (fun i v => ((ps.filterMap fun p => es[p]?).map (·.2))[i]? = some v) (StD w it a ep T ps es tb) where
  sub := fun b hb => by simp at hb; simp [hb]
  frame := fun i h h' st hk => ⟨st.1.keep fun o e => hk a (by simp) o e, let ⟨o, e, r⟩ := st.2.1; ⟨o, hk T (by simp) o e, r⟩, let ⟨o, e, r⟩ := st.2.2; ⟨o, hk it (by simp) o e, r⟩⟩
  self := fun i s Q E st q => by
    obtain ⟨o, ho, hc, _⟩ := st.2.2
    exact sit_self ⟨o, ho, hc⟩ q
  item := fun i s Q E hi st q => by
    obtain ⟨h, g, d, t, os⟩ := s
    obtain ⟨x, hT, hit⟩ := st
    refine sit_head (s := ⟨h, g, d, t, os⟩) (h := h) (t := t) hh hit x rfl ?_
    dsimp only [rawInt]
    obtain ⟨o, ho, hpI⟩ := id hit
    obtain ⟨oT, hoT, hcT, nT, hdT⟩ := id hT
    refine wpAny_bind (wpAny_seqItems (s := upd ⟨h, g, d, t, os⟩ h t) hoT hdT ?_)
    have hlen : ps.length = es.size := by rw [hp.length_eq, List.length_range]
    have hi' : i < ps.length := by omega
    have hall : ∀ p ∈ ps, p < es.size := fun p hm => List.mem_range.mp (hp.mem_iff.mp hm)
    have hpi : ps[i] < es.size := hall _ (List.getElem_mem hi')
    have hget : (ps.map fun (p : Nat) => rawInt p).toArray[i]? = some (.int (ps[i] : Nat) 0) := by
      rw [List.getElem?_toArray, List.getElem?_map, List.getElem?_eq_getElem hi']; rfl
    dsimp only
    rw [hget]
    have hv : ((ps.filterMap fun p => es[p]?).map (·.2))[i]? = some es[ps[i]].2 := by
      rw [List.getElem?_map, filterMap_at _ _ (fun p hm => by rw [Array.getElem?_eq_getElem (hall p hm)]; rfl), List.getElem?_eq_getElem hi', Option.bind_some, Array.getElem?_eq_getElem hpi]; rfl
    refine wpAny_bind (setNextDrawn_at (s := ⟨h, g, d, t, os⟩) x (p := ps[i]) (Array.getElem?_eq_getElem hpi) ?_)
    refine wpAny_bind (wpAny_setField (s := upd ⟨h, g, d, t, os⟩ h t) ho hpI.2 (by simp) (wpAny_pure ⟨_, rfl, q _ _ t hv ⟨?_, ?_, ?_⟩ ?_⟩))
    · exact x.keep fun o e => (Heap.get?_update_other _ _ hai.symm).trans e
    · exact ⟨oT, (Heap.get?_update_other _ _ hTi.symm).trans hoT, hcT, nT, hdT⟩
    · exact ⟨_, Heap.get?_update_self _ ho (Obj.isFreed_of_fields (Obj.data_mapFields hpI.2 _)), (Obj.cls_mapFields ..).trans hpI.1, by rw [Obj.data_mapFields hpI.2]; simp [rawInt]⟩
    · intro b o' hb e
      have hb : it ≠ b := fun q => hb (by simp [q])
      exact (Heap.get?_update_other _ _ hb).trans e
  done := fun s Q E st q => by
    obtain ⟨h, g, d, t, os⟩ := s
    obtain ⟨x, hT, hit⟩ := st
    refine sit_head (s := ⟨h, g, d, t, os⟩) (h := h) (t := t) hh hit x rfl ?_
    dsimp only [rawInt]
    obtain ⟨o, ho, hpI⟩ := id hit
    obtain ⟨oT, hoT, hcT, nT, hdT⟩ := id hT
    refine wpAny_bind (wpAny_seqItems (s := upd ⟨h, g, d, t, os⟩ h t) hoT hdT ?_)
    have hlen : ps.length = es.size := by rw [hp.length_eq, List.length_range]
    have hget : (ps.map fun (p : Nat) => rawInt p).toArray[es.size]? = none := by
      rw [List.getElem?_toArray, List.getElem?_map, List.getElem?_eq_none (by omega)]; rfl
    dsimp only
    rw [hget]
    refine wpAny_bind (wpAny_setField (s := upd ⟨h, g, d, t, os⟩ h t) ho hpI.2 (by simp) ?_)
    obtain ⟨o1, ho1, hc1, hd1⟩ := pSI_set (k := 0) (y := rawInt 0) ho hpI
    refine wpAny_bind (wpAny_setField ho1 hd1 (by simp) ?_)
    refine wpAny_mono (sit_stop (s := ⟨h, g, d, t, os⟩) (t := t) (E := E) (Q := Q) hh fun h' k => q h' t fun b o' hb e => k b o' ?_) (fun fin s' z => ?_) fun _ _ z => z
    · have hb : it ≠ b := fun q => hb (by simp [q])
      exact (Heap.get?_update_other _ _ hb).trans ((Heap.get?_update_other _ _ hb).trans e)
    · obtain ⟨v, _, f⟩ := z
      exact f.elim
end
end Rg
end
section
/-! sorted(set) -/
open PySem PySem.W PyProof.Rows PySem.Calls
set_option autoImplicit false
set_option maxRecDepth 100000
namespace Rg
section
variable {w : World} {A : Around} {E : Value → Shared → Prop} {s : Shared} {h : Heap} {t : Nat}
theorem pS_at {a : Addr} {ks : List Str} (hS : At h a (pS w ks)) : ∃ es ep tb ks', SetAt w h a es ep tb ∧ StrsAre (es.toList.map (·.2)) ks' ∧ ks'.Perm ks := by
  obtain ⟨o, ho, hex, es, ep, tb, hd, _, ⟨ks', hs, hp⟩, _, hf, hl, hpl⟩ := hS
  exact ⟨es, ep, tb, ks', ⟨⟨o, ho, hex.1, hd⟩, hf, hl, hpl⟩, hs, hp⟩
theorem hint_sit {it : Addr} {Q : Bool → Shared → Prop} {s : Shared} (hT : s.TypeIs (.ref it) "set") (q : Q false s) : wpAny (model PR w) A (Builtin.List.listLengthHint (.ref it)) Q E s := by
  unfold Builtin.List.listLengthHint
  refine wpAny_bind (wpAny_specialOf hT set_len ?_)
  generalize hid : ("set.__len__" : String) = id0
  wp_delta
  rw [show splitId id0 = some ("set", "__len__") from by subst hid; decide +kernel]
  subst hid
  refine wpAny_bind (wpAny_isInstance (T := "set") (b := true) hT (by rw [isSubtype_type]; kernel_rfl) ?_)
  refine wpAny_ite_split (fun hab => absurd hab (by decide)) (fun _ => ?_)
  refine wpAny_ite_split (fun _ => ?_) (fun hab => absurd (by decide +kernel) hab)
  refine wpAny_bind (wpAny_typeOf hT ?_)
  exact wpAny_pure q
theorem extend_fin {I S : Addr} {fp : List Addr} {n : Nat} {ys : List Value} {St : Nat → Heap → Prop} {R : Result → Shared → Prop} {c₀ : Nat} {res : Value} (W : Walks PR w A.in1 I fp [I] n (fun i v => ys[i]? = some v) St) (hn : n ≤ 2 ^ 20) (hys : ys.length = n) (hSf : S ∉ fp)
    (hst : St 0 h) (hSa : h.get? S = some { cls := .type "list", data := .seq #[] c₀ })
    (q : ∀ h' t', LeX [S, I] h h' → h'.IsList S ys.toArray → R (.ok (.ret res)) (upd s h' t')) :
    codeAny (model PR w) A (.builtin "list.extend.loop" ⟨[.ref S, .ref I, res], []⟩) R (upd s h t) := by
  refine codeAny_extend_loopS W.toS (lt_sizeLine (by omega)) S hSf res n 0 _ #[] c₀ rfl (Nat.zero_le _) hst hSa (ItemsOf.nil _) fun s' acc' c' hm hS' hacc => ?_
  rw [Moved.eq_with hm]
  refine q s'.heap s'.toks (fun b o hb e => hm.heap b o hb e) ⟨_, hS', rfl, c', ?_⟩
  have : acc' = ys.toArray := by
    apply Array.ext
    · rw [hacc.1, List.size_toArray, hys]
    · intro i h1 h2
      have := hacc.2 i _ (Array.getElem?_eq_getElem h1)
      dsimp only at this
      rw [List.getElem_toArray (xs := ys)]
      rw [List.getElem?_eq_getElem (by rw [List.size_toArray] at h2; exact h2)] at this
      exact (Option.some.inj this).symm
  rw [this]
theorem extendWith_set {S a : Addr} {ks : List Str} {res : Value} {c₀ : Nat} {R : Result → Shared → Prop} (hh : A.handled = none) (hS : At h a (pS w ks)) (hz : ks.length ≤ 1000) (hSa : S ≠ a) (hSl : h.get? S = some { cls := .type "list", data := .seq #[] c₀ })
    (q : ∀ vs ks' d h' t', StrsAre vs ks' → ks'.Perm ks → LeX [S] h h' → h'.IsList S vs.toArray → R (.ok (.ret res)) (upd { s with drawn := d } h' t')) :
    wpAny (model PR w) A.in1 (Builtin.List.listExtendWith (.ref S) (.ref a) res)
      (fun fin s' => match fin with | .done f => R (.ok f) s' | .again c' => c'.quiet = true ∧ codeAny (model PR w) A c' R s') (fun e s' => R (.error e) s') (upd s h t) := by
  obtain ⟨es, ep, tb, k1, x, hs1, hp1⟩ := pS_at hS
  have hlen : es.size = ks.length := by have := strsAre_len hs1; rw [List.length_map, Array.length_toList, hp1.length_eq] at this; exact this
  obtain ⟨o, ho, hc, hd⟩ := x.at_
  have hlt : a < h.objs.size := Heap.lt_size ho
  have hSlt : S < h.objs.size := Heap.lt_size hSl
  have hT1 : Shared.TypeIs (upd s h t) (.ref a) "set" := ⟨o, ho, hc⟩
  unfold Builtin.List.listExtendWith
  refine wpAny_bind (wpAny_typeOf hT1 ?_)
  have h1 : Builtin.List.listSameRef (.ref S) (.ref a) = false := by simp [Builtin.List.listSameRef, hSa]
  have h2 : (Value.type "set" == Value.type "list") = false := by decide
  have h3 : (Value.type "set" == Value.type "tuple") = false := by decide
  simp only [h1, h2, h3, Bool.or_false, Bool.false_eq_true, if_false]
  have key : ∀ (it : Addr) (s' : Shared) (H' : Heap) (ys : List Value) (k2 : List Str) (fp : List Addr) (St : Nat → Heap → Prop), (∃ d, s' = { s with drawn := d }) → Le h H' → h.objs.size ≤ it → S ∉ fp →
      Walks PR w A.in1 it fp [it] es.size (fun i v => ys[i]? = some v) St → St 0 H' → ys.length = es.size → StrsAre ys k2 → k2.Perm ks →
      ∀ h₁ c₁, (∀ b o, b ≠ S → H'.get? b = some o → h₁.get? b = some o) → h₁.get? S = some { cls := .type "list", data := .seq #[] c₁ } →
        codeAny (model PR w) A (.builtin "list.extend.loop" ⟨[.ref S, .ref it, res], []⟩) R (upd s' h₁ t) := by
    rintro it s' H' ys k2 fp St ⟨d, rfl⟩ kH hit hSf W st hyl hsy hpy h₁ c₁ k₁ hS₁
    refine extend_fin (c₀ := c₁) W (by omega) hyl hSf (W.frame 0 _ _ st fun b hb o e => k₁ b o (fun q => hSf (q ▸ hb)) e) hS₁ fun h' t' kX hL => ?_
    refine q ys k2 d h' t' hsy hpy (fun b o hb e => ?_) hL
    have hbS : b ≠ S := by simpa using hb
    have hbI : b ≠ it := Nat.ne_of_lt (Nat.lt_of_lt_of_le (Heap.lt_size e) hit)
    exact kX b o (by simp [hbS, hbI]) (k₁ b o hbS (kH b o e))
  have rest : ∀ (it : Addr) (s' : Shared) (H' : Heap), (∃ d, s' = { s with drawn := d }) → Le h H' → (∀ h₁ c₁, (∀ b o, b ≠ S → H'.get? b = some o → h₁.get? b = some o) → h₁.get? S = some { cls := .type "list", data := .seq #[] c₁ } →
        codeAny (model PR w) A (.builtin "list.extend.loop" ⟨[.ref S, .ref it, res], []⟩) R (upd s' h₁ t)) →
      ∀ (b : Bool), wpAny (model PR w) A.in1 (do
        let room ← holding [.ref it] (Builtin.List.listLengthHint (.ref a))
        if (room || b) = true then do
            rule "list.extend.makes-room"
            Builtin.List.listTouch (.ref S)
            again (.builtin "list.extend.loop" ⟨[.ref S, .ref it, res], []⟩)
          else again (.builtin "list.extend.loop" ⟨[.ref S, .ref it, res], []⟩))
      (fun fin s' => match fin with | .done f => R (.ok f) s' | .again c' => c'.quiet = true ∧ codeAny (model PR w) A c' R s') (fun e s' => R (.error e) s') (upd s' H' t) := by
    intro it s' H' hd kH K b
    have hSH := kH _ _ hSl
    refine wpAny_bind (wpAny_holding (hint_sit ⟨o, kH _ _ ho, hc⟩ ?_))
    refine wpAny_ite_split (fun _ => ?_) (fun _ => wpAny_pure ⟨plainId_quiet PySem.F.plain_extend_loop _, K H' c₀ (fun _ _ _ e => e) hSH⟩)
    refine wpAny_bind (wpAny_rule ?_)
    refine wpAny_bind ?_
    show wpAny _ _ (updateSeq S (·.push .none) >>= fun _ => updateSeq S (·.pop)) _ _ _
    refine wpAny_bind (wpAny_updateSeq (s := upd s' H' t) hSH rfl ?_)
    have hS₂ := Heap.get?_update_self (Obj.mapSeq (·.push Value.none)) hSH rfl
    refine wpAny_updateSeq (hz := by seq_fits) hS₂ rfl ?_
    have hS₃ := Heap.get?_update_self (Obj.mapSeq (·.pop)) hS₂ rfl
    refine wpAny_pure ⟨plainId_quiet PySem.F.plain_extend_loop _, K _ _ (fun b o hb e => ?_) hS₃⟩
    exact (Heap.get?_update_other _ _ (Ne.symm hb)).trans ((Heap.get?_update_other _ _ (Ne.symm hb)).trans e)
  refine wpAny_bind (pyIter_set (s := s) x (by omega) (fun hdr h' k hit => ?_) fun hdr ps d h' hp k hT hit => ?_)
  · obtain ⟨k2, hs2, hp2⟩ := strsAre_perm (ordN_perm w a ep es) hs1
    refine rest _ s h' ⟨s.drawn, rfl⟩ k (key _ s h' (ordN w a ep es) k2 _ _ ⟨s.drawn, rfl⟩ k (Nat.le_refl _) ?_ (walksN (tb := tb) (by exact hh) (Nat.ne_of_lt hlt) hdr) ⟨x.keep fun o e => k _ _ e, ?_⟩ (by rw [(ordN_perm w a ep es).length_eq, List.length_map, Array.length_toList]) hs2 (hp2.trans hp1)) _
    · simp [Nat.ne_of_lt hSlt, hSa]
    · rw [show slotN w tb 0 = 0 by unfold slotN; simp]; exact hit
  · have hall : (ps.filterMap fun p => es[p]?).map (·.2) |>.Perm (es.toList.map (·.2)) := by
      refine List.Perm.map _ ?_
      have := hp.filterMap (fun p => es[p]?)
      rw [filterMap_getElem?_range] at this
      exact this
    obtain ⟨k2, hs2, hp2⟩ := strsAre_perm hall hs1
    refine rest _ { s with drawn := d } h' ⟨d, rfl⟩ k (key _ { s with drawn := d } h' _ k2 _ _ ⟨d, rfl⟩ k (Nat.le_succ _) ?_ (walksD (A := A.in1) (T := h.objs.size) (tb := tb) (by exact hh) (Nat.ne_of_lt (Nat.lt_succ_of_lt hlt)) (Nat.ne_of_lt (Nat.lt_succ_self _)) hp) ⟨x.keep fun o e => k _ _ e, hT, hit⟩ (by rw [hall.length_eq, List.length_map, Array.length_toList]) hs2 (hp2.trans hp1)) _
    simp [Nat.ne_of_lt hSlt, hSa, Nat.ne_of_lt (Nat.lt_succ_of_lt hSlt)]
theorem collect_set {a : Addr} {ks : List Str} {Q : List Value → Shared → Prop} (hh : A.handled = none) (hS : At h a (pS w ks)) (hz : ks.length ≤ 1000)
    (q : ∀ vs ks' d h' t', StrsAre vs ks' → ks'.Perm ks → Le h h' → Q vs (upd { s with drawn := d } h' t')) : wpAny (model PR w) A (collect (.ref a)) Q E (upd s h t) := by
  have hlt : a < h.objs.size := let ⟨_, e, _⟩ := hS; Heap.lt_size e
  unfold collect
  refine wpAny_bind (wpAny_runValue (codeAny_builtin entry_proto_collect' ?_))
  rw [Around.under_plainId PySem.F.plain_proto_collect _]
  show wpAny _ A.in1 (newList [] >>= fun l => again (.builtin "list.__iadd__" ⟨[l, .ref a], []⟩)) _ _ _
  refine wpAny_bind (wpAny_newObj_type ?_)
  refine wpAny_pure ⟨plainId_quiet PySem.F.plain_list_iadd _, codeAny_builtin entry_list_iadd' ?_⟩
  rw [Around.under_plainId PySem.F.plain_list_iadd _]
  generalize hH : h.push { cls := .type "list", data := .seq ([] : List Value).toArray } = H
  have hle : Le h H := hH ▸ Le.push _ _
  have hS₁ : H.get? h.objs.size = some { cls := .type "list", data := .seq #[] } := hH ▸ Heap.get?_push_size _ rfl
  show wpAny _ A.in1 (Builtin.List.listExtendWith (.ref h.objs.size) (.ref a) (.ref h.objs.size)) _ _ (upd s H t)
  have key := extendWith_set (A := A) (s := s) (t := t) (h := H) (c₀ := 0) (res := .ref h.objs.size) (R := fun r s' => ∃ vs ks' d h' t', r = .ok (.ret (.ref h.objs.size)) ∧ s' = upd { s with drawn := d } h' t' ∧ StrsAre vs ks' ∧ ks'.Perm ks ∧ Le h h' ∧ h'.IsList h.objs.size vs.toArray)
    hh (hS.le hle) hz (Nat.ne_of_gt hlt) hS₁ fun vs ks' d h' t' hs hp k hL => ⟨vs, ks', d, h', t', rfl, rfl, hs, hp, fun b o e => k b o (by simpa using Nat.ne_of_lt (Heap.lt_size e)) (hle b o e), hL⟩
  have last : ∀ vs ks' d h' t', StrsAre vs ks' → ks'.Perm ks → Le h h' → h'.IsList h.objs.size vs.toArray →
      wpAny (model PR w) A (do match (← load h.objs.size).data with | .seq xs _ => pure xs.toList | _ => unsupported "internal:collect") Q E (upd { s with drawn := d } h' t') := by
    intro vs ks' d h' t' hs hp k hL
    obtain ⟨oL, hoL, _, nL, hdL⟩ := hL
    refine wpAny_bind (wpAny_load (s := upd { s with drawn := d } h' t') hoL ?_)
    rw [hdL]
    exact wpAny_pure (q vs ks' d h' t' hs hp k)
  refine wpAny_mono key (fun fin s' z => ?_) fun e s' z => ?_
  · cases fin with
    | done f =>
      obtain ⟨vs, ks', d, h', t', e, rfl, hs, hp, k, hL⟩ := z
      cases e
      exact last vs ks' d h' t' hs hp k hL
    | again c₁ =>
      refine ⟨z.1, codeAny_mono z.2 fun r s₂ y => ?_⟩
      obtain ⟨vs, ks', d, h', t', rfl, rfl, hs, hp, k, hL⟩ := y
      exact last vs ks' d h' t' hs hp k hL
  · obtain ⟨_, _, _, _, _, e, _⟩ := z
    cases e
end
end Rg
end
section
/-! sorted of a set, of a list of texts -/
open PySem PySem.W PyProof.Rows PySem.Calls
set_option autoImplicit false
set_option maxRecDepth 100000
namespace Rg
section
variable {w : World} {A : Around} {E : Value → Shared → Prop} {s : Shared} {h : Heap} {t : Nat} {Q : Value → Shared → Prop}
theorem sortedHeap_parts {a : Addr} {vs : List Value} {out : Array Value} {n : Nat} (ho : h.get? a = some (seqObj "list" vs.toArray n)) : LeX [a] h (sortedHeap h a vs out) ∧ (sortedHeap h a vs out).IsList a out := by
  have ha := Heap.lt_size ho
  unfold sortedHeap
  refine ⟨fun b o hb e => ?_, ?_⟩
  · have hb : a ≠ b := fun q => hb (by simp [q])
    refine (Heap.get?_update_other _ _ hb).trans ?_
    refine Heap.get?_push_of_some _ (Heap.get?_push_of_some _ ?_)
    exact (Heap.get?_update_other _ _ hb).trans e
  · have h1 := get?_update_seq ho (fun _ => #[])
    have h2 := Heap.get?_push_of_some (seqObj "list" #[] 0) (Heap.get?_push_of_some (seqObj "tuple" vs.toArray 0) h1)
    exact ⟨_, get?_update_seq h2 (fun _ => out), rfl, _, rfl⟩
theorem sort_tail {vs : List Value} {ss : List Str} (hS : StrsAre vs ss) (h64 : vs.length < 64)
    (q : ∀ out ss' h', StrsAre (out : Array Value).toList ss' → ss'.Perm ss → sortedS ss' = true → Le h h' → h'.IsList h.objs.size out → Q (.ref h.objs.size) (upd s h' t)) :
    wpAny (model PR w) A.in1 (do
      let l ← newList vs
      let _ ← holding [l] (call (.builtin "list.sort") [l] [])
      ret l) (fun fin s' => ∃ v, fin = .done (.ret v) ∧ Q v s') E (upd s h t) := by
  refine wpAny_bind (wpAny_newList ?_)
  dsimp only
  have hoL : (h.push (seqObj "list" vs.toArray 0)).get? h.objs.size = some (seqObj "list" vs.toArray 0) := Heap.get?_push_size _ rfl
  refine wpAny_bind (wpAny_holding (wpAny_call_entry (s := upd s (h.push (seqObj "list" vs.toArray 0)) t) slot_list_sort ⟨_, hoL, rfl⟩ entry_list_sort (list_sort_treeK strKind_oneLt hoL hS.keysOf (fun v₁ v₂ rest e => keyKind_strs (by rw [← e]; exact hS)) h64 fun st' a1 a2 => ⟨_, rfl, ?_⟩) (args_list_sort _)))
  obtain ⟨ss', h1, h2, h3⟩ := sorted_out_str hS a1 a2
  have hp := sortedHeap_parts (out := (arrOf st').map (·.2)) hoL
  exact wpAny_pure ⟨_, rfl, q _ ss' _ h1 h2 h3 (fun b o e => hp.1 b o (by simpa using Nat.ne_of_lt (Heap.lt_size e)) (Heap.get?_push_of_some _ e)) hp.2⟩
theorem sorted_set {a : Addr} {ks : List Str} (hh : A.handled = none) (hS : At h a (pS w ks)) (hz : ks.length < 64)
    (q : ∀ D vs ss d h' t', (∀ b o, h.get? b = some o → b < D) → StrsAre vs ss → ss.Perm ks → sortedS ss = true → Le h h' → h'.IsList D vs.toArray → Q (.ref D) (upd { s with drawn := d } h' t')) :
    wpAny (model PR w) A (call (.builtin "sorted") [.ref a]) Q E (upd s h t) := by
  refine Calls.call_function_entry kind_sorted plain_sorted entry_sorted (args_sorted1 _) ?_
  unfold Builtin.«sorted»
  refine wpAny_bind (m := checkCount "sorted" 1 1 _) (wpAny_pure ?_)
  refine wpAny_bind (collect_set hh hS (by omega) fun vs ks' d h1 t1 hs hp k => ?_)
  have hl := strsAre_len hs
  exact sort_tail (s := { s with drawn := d }) hs (by rw [hl, hp.length_eq]; omega) fun out ss' h' h1 h2 h3 k' hL => q _ out.toList ss' d h' _ (fun b o e => Heap.lt_size (k b o e)) h1 (h2.trans hp) h3 (k.trans k') hL
theorem sorted_list {l : Addr} {vs : List Value} {ks : List Str} (hl : h.IsList l vs.toArray) (hs : StrsAre vs ks) (hz : ks.length < 64)
    (q : ∀ D vs ss h' t', (∀ b o, h.get? b = some o → b < D) → StrsAre vs ss → ss.Perm ks → sortedS ss = true → Le h h' → h'.IsList D vs.toArray → Q (.ref D) (upd s h' t')) :
    wpAny (model PR w) A (call (.builtin "sorted") [.ref l]) Q E (upd s h t) := by
  have hlen := strsAre_len hs
  refine Calls.call_function_entry kind_sorted plain_sorted entry_sorted (args_sorted1 _) ?_
  unfold Builtin.«sorted»
  refine wpAny_bind (m := checkCount "sorted" 1 1 _) (wpAny_pure ?_)
  refine wpAny_bind (collect_list (s := upd s h t) hl ?_ (lt_sizeLine (by omega)))
  have k : Le h ((h.push (seqObj "list" #[] 0)).update h.objs.size (Obj.mapSeq (· ++ vs.toArray))) := fun b o e => (Heap.get?_update_other _ _ (Nat.ne_of_gt (Heap.lt_size e))).trans (Heap.get?_push_of_some _ e)
  exact sort_tail hs (by omega) fun out ss' h' h1 h2 h3 k' hL => q _ out.toList ss' h' _ (fun b o e => Heap.lt_size (k b o e)) h1 h2 h3 (k.trans k') hL
end
section
variable {c : Cx} {L : Addr} {cl : List (Str × Addr)} {m cm : Str → Option Value} {vol : Vol} {g h h' : Heap}
theorem Frm.fresh' {a : Addr} {o : Obj} (F : Frm c L cl m cm vol g h) (k : Le h h') (e : h'.get? a = some o) (ha : ∀ b x, h.get? b = some x → b < a) : ∃ g', Le g g' ∧ g'.get? a = some o ∧ Frm c L cl m cm vol g' h' := by
  have hL : L < a := let ⟨o, e⟩ := F.liveL; ha L o e
  exact (F.ext k).stable e (Nat.ne_of_gt hL) (fun _ b q => Nat.ne_of_lt (let ⟨o, e, _⟩ := F.cell _ b q; ha b o e)) (fun p hp => Nat.ne_of_lt (let ⟨o, e, _⟩ := (F.volat p hp).1; ha _ o e)) (Nat.le_of_lt (Nat.lt_of_le_of_lt F.freshL hL))
end
section
variable {w : World} {mg mb : Str → Option Value} {A : Around} {E : Value → Shared → Prop} {s : Shared} {h g : Heap} {t : Nat} {vol : Vol} {names : List (Str × NameKind)} {env : Env}
  {c : Cx} {L : Addr} {cl : List (Str × Addr)} {m cm : Str → Option Value} {Q : Value → Shared → Prop}
/-- sorted(set(list of texts)) -/
theorem sortSet {a : Addr} {ks : List Str} (hh : A.handled = none) (F : Frm c L cl m cm vol g h) (hS : At h a (pS w ks)) (hz : ks.length < 64)
    (q : ∀ D vs ss d g' h' t', Le g g' → g'.IsList D vs.toArray → StrsAre vs ss → ss.Perm ks → sortedS ss = true → Frm c L cl m cm vol g' h' → Q (.ref D) (upd { s with drawn := d } h' t')) :
    wpAny (model PR w) A (call (.builtin "sorted") [.ref a]) Q E (upd s h t) := by
  refine sorted_set hh hS hz fun D vs ss d h' t' hD h1 h2 h3 k hL => ?_
  obtain ⟨o, ho, r⟩ := hL
  obtain ⟨g', kg, e, F'⟩ := F.fresh' k ho hD
  exact q D vs ss d g' h' t' kg ⟨o, e, r⟩ h1 h2 h3 F'
theorem sortList {l : Addr} {vs : List Value} {ks : List Str} (F : Frm c L cl m cm vol g h) (hl : h.IsList l vs.toArray) (hs : StrsAre vs ks) (hz : ks.length < 64)
    (q : ∀ D vs ss g' h' t', Le g g' → g'.IsList D vs.toArray → StrsAre vs ss → ss.Perm ks → sortedS ss = true → Frm c L cl m cm vol g' h' → Q (.ref D) (upd s h' t')) :
    wpAny (model PR w) A (call (.builtin "sorted") [.ref l]) Q E (upd s h t) := by
  refine sorted_list hl hs hz fun D vs ss h' t' hD h1 h2 h3 k hL => ?_
  obtain ⟨o, ho, r⟩ := hL
  obtain ⟨g', kg, e, F'⟩ := F.fresh' k ho hD
  exact q D vs ss g' h' t' kg ⟨o, e, r⟩ h1 h2 h3 F'
theorem mkSet {l : Addr} {vs : List Value} {xs : List Str} (hh : A.handled = none) (F : Frm c L cl m cm vol g h) (hl : h.IsList l vs.toArray) (hx : StrsAre vs xs) (hz : xs.length ≤ 1000)
    (q : ∀ a h' t', Frm c L cl m cm vol g h' → At h' a (pS w (metL xs)) → Q (.ref a) (upd s h' t')) : wpAny (model PR w) A (call (.type "set") [.ref l]) Q E (upd s h t) :=
  call_set_strs hh hl hx (by unfold scanBound; omega) fun h' t' k hS => q _ h' t' (F.ext k) hS
end
end Rg
end
section
/-! methods of lists -/
open PySem PySem.W PyProof.Rows PySem.Calls
set_option autoImplicit false
set_option maxRecDepth 100000
namespace Rg
section
variable {w : World} {mg mb : Str → Option Value} {A : Around} {E : Value → Shared → Prop} {s : Shared} {h g : Heap} {t : Nat} {vol : Vol} {names : List (Str × NameKind)} {env : Env}
  {c : Cx} {L : Addr} {cl : List (Str × Addr)} {m cm : Str → Option Value} {Q : Value → Shared → Prop}
theorem mkListM {vs : List Value} (F : Frm c L cl m cm vol g h) (hz : vs.length ≤ 2 ^ 23) (q : ∀ a h', c.h₀.objs.size ≤ a → Frm c L cl m cm ((a, pM vs) :: vol) g h' → Q (.ref a) (upd s h' t)) :
    wpAny (model PR w) A (newList vs) Q E (upd s h t) :=
  wpAny_newObj_type (s := upd s h t) (q _ _ F.sz (F.vpush (Le.push _ _) ⟨_, Heap.get?_push_size _ rfl, 0, rfl⟩ (Nat.le_refl _))) (by show vs.toArray.size ≤ sizeLine; rw [List.size_toArray]; exact lt_sizeLine hz)
theorem mList1 {x name : Str} {xp apos pos : Pos} {e : Expr} {id : String} {l : Addr} {items : List Value} (slot : Slot "list" name id) (hty : typeOf (.builtin id) = pure (.type "method_descriptor")) (hv : At h l (pM items))
    (q0 : ∀ Q' : Value → Shared → Prop, Q' (.ref l) (upd s h t) → wpAny (model PR w) A (eval (.Name x xp) env) Q' E (upd s h t))
    (q : wpAny (model PR w) A (eval e env) (fun v s₁ => wpAny (model PR w) A (call (.builtin id) [.ref l, v]) Q E s₁) E (upd s h t))
    (hbase : attributeBase (.Name x xp) name env (eval (.Name x xp) env) = eval (.Name x xp) env := by rfl) (hline : (apos.endLine == pos.line) = true := by rfl)
    (htrees : backTo pos (starEach [e] env) = [(false, eval e env)] := by rfl) : wpAny (model PR w) A (eval (.Call (.Attribute (.Name x xp) name apos) [e] [] pos) env) Q E (upd s h t) := by
  refine wpAny_Call_method1_late hbase hline htrees (q0 _ ?_)
  obtain ⟨o, ho, n, rfl⟩ := hv
  refine ⟨"list", id, PySem.F.plainAttrs_list, slot, hty, ⟨_, ho, rfl⟩, fun a e => by cases e; exact ⟨_, ho, rfl⟩, ?_⟩
  refine PySem.Calls.callWith_builtin rfl ?_
  refine evalArgs_plain (PySem.Calls.spliced_cons (wpAny_mono q (fun v s₁ z => PySem.Calls.spliced_nil z) fun _ _ z => z))
theorem mList0 {x name : Str} {xp apos pos : Pos} {id : String} {l : Addr} {items : List Value} (slot : Slot "list" name id) (hty : typeOf (.builtin id) = pure (.type "method_descriptor")) (hv : At h l (pM items))
    (q0 : ∀ Q' : Value → Shared → Prop, Q' (.ref l) (upd s h t) → wpAny (model PR w) A (eval (.Name x xp) env) Q' E (upd s h t))
    (q : wpAny (model PR w) A (call (.builtin id) [.ref l]) Q E (upd s h t))
    (hbase : attributeBase (.Name x xp) name env (eval (.Name x xp) env) = eval (.Name x xp) env := by rfl) (hline : (apos.endLine == pos.line) = true := by rfl) : wpAny (model PR w) A (eval (.Call (.Attribute (.Name x xp) name apos) [] [] pos) env) Q E (upd s h t) := by
  refine wpAny_Call_method0_late hbase hline (q0 _ ?_)
  obtain ⟨o, ho, n, rfl⟩ := hv
  refine ⟨"list", id, PySem.F.plainAttrs_list, slot, hty, ⟨_, ho, rfl⟩, fun a e => by cases e; exact ⟨_, ho, rfl⟩, ?_⟩
  exact PySem.Calls.callWith_builtin rfl (wpAny_pure q)
/-- l.extend(b), b a list or a tuple -/
theorem extL {l b : Addr} {items : List Value} {its : Array Value} (hv : At h l (pM items)) (hb : h.IsList b its ∨ IsTup h b its) (hz : items.length + its.size ≤ 2 ^ 20)
    (q : ∀ h', At h' l (pM (items ++ its.toList)) → LeX [l] h h' → Q .none (upd s h' t)) : wpAny (model PR w) A (call (.builtin "list.extend") [.ref l, .ref b]) Q E (upd s h t) := by
  have hu := pM_update hv (· ++ its) (new := items ++ its.toList) (by simp)
  have hll := pM.at hv
  obtain ⟨o, ho, n, rfl⟩ := hv
  refine wpAny_call_entry (s := upd s h t) PySem.F.slot_list_extend ⟨_, ho, rfl⟩ PySem.F.entry_list_extend ?_ (PySem.F.args_list_extend_2 _ _)
  unfold Builtin.«list.extend» selfAndOne noKeywords
  refine wpAny_bind (wpAny_bind (wpAny_pure (wpAny_pure ?_)))
  dsimp only
  unfold Builtin.List.listExtendWith
  have end_ : ∀ P : Fin → Shared → Prop, P (.done (.ret .none)) (upd s (h.update l (Obj.mapSeq (· ++ its))) t) → ∀ ob nb, h.get? b = some ob → ob.data = .seq its nb →
      wpAny (model PR w) A.in1 (do
        let xs ← Builtin.List.listItems (.ref b)
        let mine ← Builtin.List.listItems (.ref l)
        if (!mine.isEmpty && Builtin.List.listTooLong (mine.size + xs.size)) = true then unsupported "list.extend:memory"
        Builtin.List.listUpdate (.ref l) (· ++ xs)
        ret Value.none) P E (upd s h t) := by
    intro P hP ob nb hob hdb
    refine wpAny_bind (listItems_at (s := upd s h t) hob hdb ?_)
    refine wpAny_bind (listItems_at (s := upd s h t) ho rfl ?_)
    rw [if_neg (by
      have : Builtin.List.listTooLong (items.toArray.size + its.size) = false := by
        unfold Builtin.List.listTooLong
        rw [sizeLine_eq, List.size_toArray]
        simp; omega
      rw [this]; simp)]
    refine wpAny_bind (listUpdate_at (s := upd s h t) (xs := items.toArray) ho rfl ?_ (by rw [sizeLine_eq, List.size_toArray]; omega) (by rw [sizeLine_eq, Array.size_append, List.size_toArray]; omega))
    exact wpAny_pure hP
  have fin := q _ hu.1 hu.2
  rcases hb with hb | hb
  · obtain ⟨ob, hob, hcb, nb, hdb⟩ := hb
    refine wpAny_bind (wpAny_typeOf (T := "list") ⟨ob, hob, hcb⟩ ?_)
    rw [if_pos (by simp)]
    exact end_ _ ⟨_, rfl, fin⟩ ob nb hob hdb
  · obtain ⟨ob, hob, hcb, nb, hdb⟩ := hb
    refine wpAny_bind (wpAny_typeOf (T := "tuple") ⟨ob, hob, hcb⟩ ?_)
    rw [if_pos (by simp)]
    exact end_ _ ⟨_, rfl, fin⟩ ob nb hob hdb
theorem popL {l : Addr} {items : List Value} {x : Value} (hv : At h l (pM (items ++ [x]))) (hz : items.length ≤ 2 ^ 20) (q : ∀ h', At h' l (pM items) → LeX [l] h h' → Q x (upd s h' t)) :
    wpAny (model PR w) A (call (.builtin "list.pop") [.ref l]) Q E (upd s h t) := by
  have hsz : (items ++ [x]).toArray.size = items.length + 1 := by simp
  have hu := pM_update hv (fun xs => xs.eraseIdxIfInBounds ((items ++ [x]).toArray.size - 1)) (new := items) (by simp [Array.eraseIdxIfInBounds, List.eraseIdx_append_of_length_le])
  obtain ⟨o, ho, n, rfl⟩ := hv
  exact call_meets PySem.F.slot_list_pop ⟨_, ho, rfl⟩ PySem.F.entry_list_pop (PySem.F.args_list_pop_1 _) (MeetsSeq.list_pop_last l (items ++ [x]).toArray n x (by simp) (by rw [hsz]; exact lt_sizeLine (by omega))) ⟨ho, q _ hu.1 hu.2⟩
theorem revL {l : Addr} {items : List Value} (hv : At h l (pM items)) (hz : items.length ≤ 2 ^ 20) (q : ∀ h', At h' l (pM items.reverse) → LeX [l] h h' → Q .none (upd s h' t)) :
    wpAny (model PR w) A (call (.builtin "list.reverse") [.ref l]) Q E (upd s h t) := by
  have hu := pM_update hv (fun xs => xs.reverse) (new := items.reverse) (by simp)
  obtain ⟨o, ho, n, rfl⟩ := hv
  exact call_meets PySem.F.slot_list_reverse ⟨_, ho, rfl⟩ PySem.F.entry_list_reverse (PySem.F.args_list_reverse_1 _) (AutoSeq1.list_reverse_list_0 l items.toArray n (by rw [List.size_toArray]; exact lt_sizeLine (by omega))) ⟨ho, q _ hu.1 hu.2⟩
end
end Rg
end
section
/-! parts -/
open PySem PySem.W PyProof.Rows PySem.Calls
set_option autoImplicit false
set_option maxRecDepth 100000
namespace Rg
/-- pairs of a path and a part -/
def PartsOk (h : Heap) (n : Nat) (ys : List Value) (ps : List Tm) : Prop := ys.length = ps.length ∧ ∀ (i : Nat) (v : Value) (p : Tm), ys[i]? = some v → ps[i]? = some p →
  ∃ a pa items pv, v = .ref a ∧ IsTup h a #[.ref pa, pv] ∧ IsTup h pa items ∧ items.size ≤ n ∧ IsTm h pv p
theorem PartsOk.le {h h' : Heap} {n n' : Nat} {ys : List Value} {ps : List Tm} (x : PartsOk h n ys ps) (k : Le h h') (hn : n ≤ n') : PartsOk h' n' ys ps :=
  ⟨x.1, fun i v p a b => let ⟨c, pa, its, pv, e, t1, t2, z, tm⟩ := x.2 i v p a b; ⟨c, pa, its, pv, e, isTup_le t1 k, isTup_le t2 k, Nat.le_trans z hn, tm.le k⟩⟩
theorem getElem?_two {α β : Type} {ys zs : List α} {ps qs : List β} (hl : ys.length = ps.length) {i : Nat} {v : α} {p : β} (a : (ys ++ zs)[i]? = some v) (b : (ps ++ qs)[i]? = some p) :
    (ys[i]? = some v ∧ ps[i]? = some p) ∨ (zs[i - ys.length]? = some v ∧ qs[i - ys.length]? = some p) := by
  by_cases hi : i < ys.length
  · rw [List.getElem?_append_left hi] at a
    rw [List.getElem?_append_left (hl ▸ hi)] at b
    exact .inl ⟨a, b⟩
  · rw [List.getElem?_append_right (by omega)] at a
    rw [List.getElem?_append_right (by omega)] at b
    exact .inr ⟨a, hl ▸ b⟩
theorem PartsOk.app {h : Heap} {n : Nat} {ys zs : List Value} {ps qs : List Tm} (x : PartsOk h n ys ps) (y : PartsOk h n zs qs) : PartsOk h n (ys ++ zs) (ps ++ qs) :=
  ⟨by rw [List.length_append, List.length_append, x.1, y.1], fun _ v p a b => (getElem?_two x.1 a b).elim (fun z => x.2 _ v p z.1 z.2) fun z => y.2 _ v p z.1 z.2⟩
theorem partsL_snoc (l : List Tm) (k : Tm) : partsL (l ++ [k]) = partsL l ++ k.parts := by rw [partsL_eq, partsL_eq, List.flatMap_append]; simp
def PartsSpec (w : World) (mg mb : Str → Option Value) (H0 : Heap) (n : Nat) : Prop :=
  ∀ {A : Around} {E : Value → Shared → Prop} {s : Shared} {h g : Heap} {t : Nat} {Q : Value → Shared → Prop} {v : Value} {tm : Tm},
    Amb A (n + 1) (3 * n + 20) → Pre w mg mb H0 g h → IsTm g v tm → tm.Dp n → n ≤ 7 →
    (∀ D ys g' h' t', Grow h.objs.size g g' → Le g' h' → Le h h' → g'.IsList D ys.toArray → PartsOk g' n ys tm.parts → Q (.ref D) (upd s h' t')) →
    wpAny (model PR w) A (call (.ref 124) [v]) Q E (upd s h t)
section
variable {w : World} {mg mb : Str → Option Value} {H0 : Heap}
theorem parts_step (n : Nat) (ih : PartsSpec w mg mb H0 n) : PartsSpec w mg mb H0 (n + 1) := by
  intro A E s h g t Q v tm am P hv hd hn q
  cases tm with
  | node op kids =>
  obtain ⟨a, tk, vs, rfl, ht, hl, hk⟩ := hv.inv
  obtain ⟨d1, d2, d3, d4⟩ := hd
  refine enter (D_parts w.params) P (X := []) (vol := []) am.room (A_parts _ _) (by rfl) (by decide) (by simp) (by simp) fun env L h₁ t₁ E' hL EF F => ?_
  have hsz : (Value.str op tk :: vs).toArray.size = kids.length + 1 := by rw [List.size_toArray, List.length_cons, hl]
  refine wpAny_execs_cons (wpAny_Assign_Name ?_)
  refine eList (spl (eTup (spl (eTup (spl0 (mkTup F (by simp) fun pa g₂ h₂ k2 htp F2 => ?_))))))
  refine spl (ldL EF F2 rfl rfl (spl0 (mkTup F2 (by simp) fun pr g₃ h₃ k3 htr F3 => ?_)))
  refine spl0 (mkListM F3 (by simp) fun fd h₄ hfd F4 => ?_)
  refine stL EF F4 rfl fun h₅ t₅ F5 => ?_
  refine wpAny_execs_cons (wpAny_For ?_ ?_)
  · refine callTy P.B EF F5 rfl (G0_enumerate _) (by boot_by_name) (spl (Subscript_ (ldL EF F5 rfl rfl ?_)))
    refine tFrom (i := 1) F5 (isTup_le ht (k2.trans k3)) rfl (by omega) (by omega) (by omega) fun b g₆ h₆ t₆ k6 htb F6 => ?_
    refine spl0 (mkEnum F6 htb fun e it h₇ hei he hi F7 => ?_)
    refine itEnum F7 ?_
    have htb' : IsTup g₆ b vs.toArray := by simpa using htb
    refine for_close (n := vs.toArray.size) (V := VE e it b) F7 (ItR.enum (items := vs.toArray) am.deeper.handled hei he hi htb') (fun s' => s' = s) rfl
      (fun i m' cm' vol' g' => m' "found" = some (.ref fd) ∧ ∃ ys, vol' = [(fd, pM ys)] ∧ PartsOk g' (n + 1) ys (.node op kids :: partsL (kids.take i))) ?_ ?_ ?_
    · refine ⟨rfl, _, rfl, rfl, fun i v p ea eb => ?_⟩
      cases i with
      | zero =>
        simp [partsL] at ea eb
        subst ea eb
        exact ⟨pr, pa, _, _, rfl, isTup_le htr k6, isTup_le htp (k3.trans k6), Nat.zero_le _, hv.le (k2.trans (k3.trans k6))⟩
      | succ i => simp [partsL] at eb
    · rintro i _ m' cm' vol' g' h' t' v rfl hi' ⟨hm, ys, rfl, hpo⟩ kg FF ⟨T, tki, x, rfl, hx, hT⟩
      have hi : i < vs.length := by simpa using hi'
      have hik : i < kids.length := by omega
      have hx' : vs[i]? = some x := by simpa using hx
      have hxt : IsTm g x kids[i] := hk i x _ hx' (List.getElem?_eq_getElem hik)
      refine asgP2 am.deeper.handled FF hT fun h₈ F8 k8 => ?_
      refine asgC EF F8 rfl rfl (by show h.objs.size ≤ L + 1; omega) fun h₉ F9 => asgN EF F9 rfl fun ha ta Fa => ?_
      have hgl : Le g g' := (k2.trans k3).trans (k6.trans kg)
      have hfa := Fa.volat (fd, pM ys) (by simp [VE])
      refine wpAny_execs_cons (wpAny_Expr_any ?_ EF.inter)
      refine mList1 PySem.F.slot_list_extend PySem.F.type_list_extend hfa.1 (fun Q' z => ldL EF Fa rfl hm z) ?_
      refine lc_open EF ?_
      refine callDef P.B EF Fa rfl (G_parts _) (D_parts _) (spl (ldL EF Fa rfl rfl (spl0 ⟨Fa.H, ?_⟩)))
      refine ih am.deeper (Fa.pre P.B) (hxt.le hgl) (d4 _ (List.getElem_mem hik)) (by omega) fun D zs g₁₁ h₁₁ t₁₁ G₁₁ k₁₁ kh₁₁ hD hpz => ?_
      have Fb := Fa.called0 kh₁₁ G₁₁ k₁₁
      refine itList Fb hD fun I h₁₂ hI Fc => ?_
      refine lc_close (n := zs.toArray.size) (vx := []) (vr := VE e it b (i + 1) ++ [(fd, pM ys)]) EF Fc (ItR.list am.deeper.handled hI hD) (by rw [List.size_toArray, hpz.1]; have := parts_len (d4 _ (List.getElem_mem hik)); have : 4 ^ n ≤ 4 ^ 6 := Nat.pow_le_pow_right (by decide) (by omega); omega)
        (fun j us g₁ vx' => vx' = [] ∧ PartsOk g₁ (n + 1) us (kids[i].parts.take j)) ?_ ?_ ?_ ?_
      · exact ⟨rfl, rfl, fun i v p ea => by simp at ea⟩
      · rintro _ _ _ _ ⟨rfl, _⟩; rfl
      · rintro C D' cenv j us g₁ vx' mC h' t' v hj ⟨rfl, hus⟩ EC kg₁ FC hv
        have hv : zs[j]? = some v := by simpa using hv
        have hjp : j < kids[i].parts.length := by rw [← hpz.1]; exact (List.getElem?_eq_some_iff.mp hv).1
        obtain ⟨p, pth, items, pv, rfl, tp1, tp2, tz, tpm⟩ := hpz.2 j v _ hv (List.getElem?_eq_getElem hjp)
        have FCk := FC.keep
        refine asgP2 am.deeper.handled FC (isTup_le tp1 (kg₁.trans FCk)) fun hA FA kA => ?_
        refine asgN EC FA rfl fun hB tB FB => asgN EC FB rfl fun hC tC FC' => tests0 ?_
        rw [if_pos rfl]
        refine eTup (spl (wpAny_BinOp (eTup (spl (ldC EC FC' rfl rfl rfl (spl0 (mkTup FC' (by simp) fun b1 gD hD' kD htD FD => ?_)))))))
        refine ldL EC FD rfl rfl ?_
        refine tAdd (vs := [.int i tki]) (ws := items.toList) FD htD (by simpa using isTup_le tp2 (kg₁.trans kD)) (by simp; omega) fun d2 gE hE kE htE FE => ?_
        refine spl (ldL EC FE rfl rfl (spl0 (mkTup FE (by simp) fun r gF hF kF htF FF => ?_)))
        refine ⟨hF, _, gF, [], _, rfl, FF, rfl, ?_⟩
        rw [List.take_succ_eq_append_getElem hjp]
        refine (hus.le (kD.trans (kE.trans kF)) (Nat.le_refl _)).app ⟨rfl, fun i' v' p' ea eb => ?_⟩
        cases i' with
        | succ i' => simp at ea
        | zero =>
          simp at ea eb
          subst ea eb
          exact ⟨r, d2, _, pv, rfl, htF, isTup_le htE kF, by simp; omega, tpm.le (kg₁.trans (kD.trans (kE.trans kF)))⟩
      · rintro D' us gg g₂ vx' hh tt Ff kk1 kk2 hl' ⟨rfl, hus⟩
        have hus : PartsOk gg (n + 1) us kids[i].parts := by rw [List.size_toArray, hpz.1, List.take_length] at hus; exact hus
        have hf2 := Ff.volat (fd, pM ys) (by simp)
        have hz1 : us.length ≤ 4 ^ 6 := by
          rw [hus.1]
          exact Nat.le_trans (parts_len (d4 _ (List.getElem_mem hik))) (Nat.pow_le_pow_right (by decide) (by omega))
        have hz2 : ys.length ≤ 1 + 3 * 4 ^ 6 := by
          rw [hpo.1, List.length_cons, partsL_eq]
          have := flatMap_length_le Tm.parts (4 ^ 6) (kids.take i) fun x hx => Nat.le_trans (parts_len (d4 x (List.mem_of_mem_take hx))) (Nat.pow_le_pow_right (by decide) (by omega))
          have h3 : (kids.take i).length ≤ 3 := by rw [List.length_take]; omega
          have := Nat.mul_le_mul_right (4 ^ 6) h3
          omega
        refine extL hf2.1 (.inl (isList_le hl' Ff.keep)) (by rw [List.size_toArray]; omega) fun h' at' kX => ?_
        have Fz := Ff.called1s (pre := VE e it b (i + 1)) (post := []) kX at'
        refine wpAny_execs_nil ⟨_, h', _, _, _, [(fd, pM (ys ++ us))], g₂, rfl, rfl, Fz, G₁₁.le.trans (kk1.trans kk2), hm, _, rfl, ?_⟩
        rw [List.take_succ_eq_append_getElem hik, partsL_snoc]
        exact (hpo.le (G₁₁.le.trans (kk1.trans kk2)) (Nat.le_refl _)).app (hus.le kk2 (Nat.le_refl _))
    · rintro _ m' cm' vol' g' h' t' rfl Ff kg ⟨hm, ys, rfl, hpo⟩
      refine wpAny_execs_cons (wpAny_Return_some (ldL EF Ff rfl hm ?_))
      obtain ⟨g₉, kg9, ⟨o9, ho9, hp9⟩, F9⟩ := Ff.freeze (pre := []) hfd
      rw [List.size_toArray, hl, List.take_length] at hpo
      exact q fd ys g₉ h' _ F9.gr F9.keep F9.old.le ⟨o9, ho9, hp9.l⟩ (hpo.le kg9 (Nat.le_refl _))
  · intro _; rfl
theorem parts_spec : ∀ n : Nat, PartsSpec w mg mb H0 n
  | 0 => fun _ _ _ hd => hd.elim
  | n + 1 => parts_step n (fun {A E s h g t Q v tm} => parts_spec n)
end
end Rg
end
section
/-! variables -/
open PySem PySem.W PyProof.Rows PySem.Calls
set_option autoImplicit false
set_option maxRecDepth 100000
namespace Rg
def vnames (ps : List Tm) : List Str := ps.filterMap fun p => if p.isVar then some p.op else none
theorem vnames_snoc (ps : List Tm) (p : Tm) : vnames (ps ++ [p]) = vnames ps ++ (if p.isVar then [p.op] else []) := by
  unfold vnames
  rw [List.filterMap_append]
  cases h : p.isVar <;> simp [h]
theorem vnames_len (ps : List Tm) : (vnames ps).length ≤ ps.length := List.length_filterMap_le _ _
theorem metL_nodup : ∀ (xs ks : List Str), ks.Nodup → (xs.foldl (fun ks x => if x ∈ ks then ks else x :: ks) ks).Nodup
  | [], _, h => h
  | x :: xs, ks, h => by
    rw [List.foldl_cons]
    refine metL_nodup xs _ ?_
    split
    · exact h
    · exact List.nodup_cons.mpr ⟨‹_›, h⟩
theorem parts_dp : ∀ {n : Nat} {tm : Tm}, tm.Dp n → ∀ p ∈ tm.parts, p.Dp n
  | 0, _, h, _, _ => h.elim
  | n + 1, .node op ks, ⟨a, b, c, d⟩, p, hp => by
    rw [Tm.parts, partsL_eq] at hp
    rcases List.mem_cons.mp hp with rfl | hp
    · exact ⟨a, b, c, d⟩
    · obtain ⟨k, hk, hp⟩ := List.mem_flatMap.mp hp
      exact (parts_dp (d k hk) p hp).mono (by omega)
section
variable {w : World} {mg mb : Str → Option Value} {A : Around} {E : Value → Shared → Prop} {s : Shared} {H0 h g : Heap} {t : Nat} {Q : Value → Shared → Prop}
theorem vars_spec {v : Value} {tm : Tm} {n : Nat} (am : Amb A (n + 2) (3 * n + 30)) (P : Pre w mg mb H0 g h) (hv : IsTm g v tm) (hd : tm.Dp n) (hn : n ≤ 7) (hm : (metL (vnames tm.parts)).length < 64) (hp : tm.parts.length ≤ 900)
    (q : ∀ D vs ss d' g' h' t', Grow h.objs.size g g' → Le g' h' → Le h h' → g'.IsList D vs.toArray → StrsAre vs ss → ss.Perm (metL (vnames tm.parts)) → sortedS ss = true → Q (.ref D) (upd { s with drawn := d' } h' t')) :
    wpAny (model PR w) A (call (.ref 114) [v]) Q E (upd s h t) := by
  refine enter (D_vars w.params) P (X := []) (vol := []) am.room (A_vars _ _) (by rfl) (by decide) (by simp) (by simp) fun env L h₁ t₁ E' hL EF F => ?_
  refine wpAny_execs_cons (wpAny_Return_some ?_)
  refine callBlt P.B EF F rfl (G0_sorted _) (by boot_by_name) (spl ?_)
  refine callTy P.B EF F rfl (G0_set _) (by boot_by_name) (spl (lc_open EF ?_))
  refine callDef P.B EF F rfl (G_parts _) (D_parts _) (spl (ldL EF F rfl rfl (spl0 ⟨F.H, ?_⟩)))
  refine parts_spec n (am.deeper.mono (by omega) (by omega)) (F.pre P.B) hv hd hn fun D ys g₂ h₂ t₂ G₂ k₂ kh₂ hD hpo => ?_
  have F2 := F.called0 kh₂ G₂ k₂
  refine itList F2 hD fun I h₃ hI F3 => ?_
  refine lc_close (n := ys.toArray.size) (vx := []) (vr := []) EF F3 (ItR.list am.deeper.handled hI hD) (by rw [List.size_toArray, hpo.1]; omega)
    (fun j us g₁ vx' => vx' = [] ∧ StrsAre us (vnames (tm.parts.take j))) ?_ ?_ ?_ ?_
  · exact ⟨rfl, .nil⟩
  · rintro _ _ _ _ ⟨rfl, _⟩; rfl
  · rintro C D' cenv j us g₁ vx' mC h' t' v hj ⟨rfl, hus⟩ EC kg₁ FC hv
    have hv : ys[j]? = some v := by simpa using hv
    have hjp : j < tm.parts.length := by rw [← hpo.1]; exact (List.getElem?_eq_some_iff.mp hv).1
    obtain ⟨p, pth, items, pv, rfl, tp1, tp2, tz, tpm⟩ := hpo.2 j v _ hv (List.getElem?_eq_getElem hjp)
    have hdp : (tm.parts[j]).Dp n := parts_dp hd _ (List.getElem_mem hjp)
    refine asgP2 am.deeper.handled FC (isTup_le tp1 (kg₁.trans FC.keep)) fun hA FA kA => ?_
    refine asgN EC FA rfl fun hB tB FB => asgN EC FB rfl fun hC tC FC' => tests1 ?_
    refine isTrue_plain ?_
    refine callDef P.B EC FC' rfl (G_is_variable _) (D_isvar _) (spl (ldL EC FC' rfl rfl (spl0 ⟨FC'.H, ?_⟩)))
    refine isvar_spec (am.deeper.mono (by omega) (by omega)) (FC'.pre P.B) (tpm.le kg₁) hdp fun hD' tD' kD => ?_
    have FD := FC'.ext kD
    refine tru ?_
    cases hiv : tm.parts[j].isVar with
    | false =>
      rw [if_neg Bool.false_ne_true]
      refine ⟨hD', _, g₁, [], _, rfl, FD, rfl, ?_⟩
      rw [List.take_succ_eq_append_getElem hjp, vnames_snoc, hiv, if_neg Bool.false_ne_true, List.append_nil]
      exact hus
    | true =>
      rw [if_pos rfl]
      generalize hpj : tm.parts[j] = pj at hiv tpm hdp
      cases pj with
      | node op kids =>
      obtain ⟨pa, tk, vs, rfl, ht, hl, hk⟩ := tpm.inv
      refine Subscript_ (ldL EC FD rfl rfl (eInt fun k3 t4 => tGet (isTup_le ht (kg₁.trans FD.keep)) (by decide) (by decide) (j := 0) (by simp [seqIndex?]; try omega) (x := .str op tk) (by simp) ?_))
      refine ⟨hD', _, g₁, [], _, rfl, FD, rfl, ?_⟩
      rw [List.take_succ_eq_append_getElem hjp, vnames_snoc, hpj, hiv, if_pos rfl]
      exact strsAre_app hus (.cons op tk .nil)
  · rintro D' us g' gg vx' hh tt Ff kk1 kk2 hl' ⟨rfl, hus⟩
    rw [List.size_toArray, hpo.1, List.take_length] at hus
    refine spl0 (mkSet am.deeper.handled Ff (isList_le hl' Ff.keep) hus (by have := vnames_len tm.parts; omega) fun a h₅ t₅ F5 hS => ?_)
    refine spl0 (sortSet am.deeper.handled F5 hS hm fun D2 ws ss d g₆ h₆ t₆ k6 hD2 hws hpm hso F6 => ?_)
    exact q D2 ws ss _ g₆ h₆ t₆ F6.gr F6.keep F6.old.le hD2 hws hpm hso
end
end Rg
end
section
/-! texts in order -/
open PySem PySem.W PyProof.Rows PySem.Calls
set_option autoImplicit false
set_option maxRecDepth 100000
namespace Rg
/-- those of ?x, ?y, ?z, in order -/
def can (xs : List Str) : List Str := vns.filter fun x => decide (x ∈ xs)
theorem can_nodup (xs : List Str) : (can xs).Nodup := List.Nodup.sublist List.filter_sublist (by decide +kernel)
theorem mem_can {xs : List Str} {x : Str} : x ∈ can xs ↔ x ∈ vns ∧ x ∈ xs := by unfold can; rw [List.mem_filter]; simp
theorem can_congr {xs ys : List Str} (h : ∀ x ∈ vns, x ∈ xs ↔ x ∈ ys) : can xs = can ys := by
  unfold can
  refine List.filter_congr fun x hx => ?_
  simp [h x hx]
theorem can_sub {xs : List Str} : ∀ x ∈ can xs, x ∈ vns := fun _ h => (mem_can.mp h).1
theorem can_can {xs : List Str} : can (can xs) = can xs := can_congr fun x hx => by rw [mem_can]; exact ⟨fun h => h.2, fun h => ⟨hx, h⟩⟩
theorem can_len (xs : List Str) : (can xs).length ≤ 3 := by unfold can; exact Nat.le_trans (List.length_filter_le _ _) (by decide)
theorem ord1 : ∀ a ∈ vns, [a] = can [a] := by decide +kernel
theorem ord2 : ∀ a ∈ vns, ∀ b ∈ vns, [a, b].Nodup → sortedS [a, b] = true → [a, b] = can [a, b] := by decide +kernel
theorem ord3 : ∀ a ∈ vns, ∀ b ∈ vns, ∀ c ∈ vns, [a, b, c].Nodup → sortedS [a, b, c] = true → [a, b, c] = can [a, b, c] := by decide +kernel
theorem ord4 : ∀ a ∈ vns, ∀ b ∈ vns, ∀ c ∈ vns, ∀ d ∈ vns, ¬ [a, b, c, d].Nodup := by decide +kernel
theorem sorted_can {ss : List Str} (hm : ∀ x ∈ ss, x ∈ vns) (hn : ss.Nodup) (hs : sortedS ss = true) : ss = can ss := by
  match ss, hm, hn, hs with
  | [], _, _, _ => rfl
  | [a], hm, _, _ => exact ord1 a (hm a (by simp))
  | [a, b], hm, hn, hs => exact ord2 a (hm a (by simp)) b (hm b (by simp)) hn hs
  | [a, b, c], hm, hn, hs => exact ord3 a (hm a (by simp)) b (hm b (by simp)) c (hm c (by simp)) hn hs
  | a :: b :: c :: d :: r, hm, hn, hs =>
    exact absurd (List.Nodup.sublist (by simp) hn) (ord4 a (hm a (by simp)) b (hm b (by simp)) c (hm c (by simp)) d (hm d (by simp)))
/-- sorted, each once, the same texts -/
theorem sorted_is {ss ks xs : List Str} (hp : ss.Perm ks) (hn : ks.Nodup) (hs : sortedS ss = true) (hk : ∀ x, x ∈ ks ↔ x ∈ xs) (hx : ∀ x ∈ xs, x ∈ vns) : ss = can xs := by
  have h1 := sorted_can (ss := ss) (fun x q => hx x ((hk x).mp (hp.mem_iff.mp q))) (hp.nodup_iff.mpr hn) hs
  rw [h1]
  exact can_congr fun x _ => by rw [hp.mem_iff, hk]

theorem Gd_sub {ns : List Str} (hs : ∀ x ∈ ns, x ∈ vns) : ∀ {n : Nat} {t : Tm}, t.Gd ns n → ∀ x ∈ t.vs, x ∈ ns
  | 0, _, h, _, _ => h.elim
  | n + 1, .node op ks, ⟨_, b, d⟩, x, hx => by
    rw [Tm.vs] at hx
    split at hx
    · rename_i hq
      rw [List.mem_singleton] at hx
      subst hx
      rcases b with b | b
      · exact b.1
      · rw [(gops_len b).2] at hq; simp at hq
    · rw [vsL_eq] at hx
      obtain ⟨k, hk, hx⟩ := List.mem_flatMap.mp hx
      exact Gd_sub hs (d k hk) x hx
theorem flatMap_congr' {α β : Type} {f g : α → List β} : ∀ {l : List α}, (∀ x ∈ l, f x = g x) → l.flatMap f = l.flatMap g
  | [], _ => rfl
  | x :: l, h => by rw [List.flatMap_cons, List.flatMap_cons, h x (.head _), flatMap_congr' fun y hy => h y (.tail _ hy)]
theorem vnames_flat (l : List Tm) : vnames (partsL l) = l.flatMap fun t => vnames t.parts := by
  rw [partsL_eq]
  unfold vnames
  rw [List.filterMap_flatMap]
theorem vnames_vs : ∀ (t : Tm), vnames t.parts = t.vs
  | .node op ks => by
    have ih : ∀ k ∈ ks, vnames k.parts = k.vs := fun k _ => vnames_vs k
    rw [Tm.parts, Tm.vs]
    show (Tm.node op ks :: partsL ks).filterMap _ = _
    cases hv : (Tm.node op ks).isVar with
    | true =>
      rw [List.filterMap_cons_some (b := op) (by rw [if_pos hv]; rfl)]
      have hv' : (ks.isEmpty && isQ op) = true := hv
      rw [if_pos hv']
      have hk : ks = [] := List.isEmpty_iff.mp (Bool.and_eq_true_iff.mp hv').1
      subst hk; rfl
    | false =>
      rw [List.filterMap_cons_none (by rw [if_neg (by rw [hv]; exact Bool.false_ne_true)])]
      have hv' : (ks.isEmpty && isQ op) = false := hv
      rw [if_neg (by rw [hv']; exact Bool.false_ne_true), vsL_eq]
      have := vnames_flat ks
      unfold vnames at this
      rw [this]
      exact flatMap_congr' ih
theorem Gd_parts {ns : List Str} : ∀ {n : Nat} {t : Tm}, t.Gd ns n → t.parts.length + 1 ≤ 2 ^ n
  | 0, _, h => h.elim
  | n + 1, .node op ks, ⟨a, _, d⟩ => by
    rw [Tm.parts, partsL_eq, List.length_cons, Nat.pow_succ]
    match ks, a, d with
    | [], _, _ => have := Nat.pow_pos (n := n) (show 0 < 2 by decide); simp; omega
    | [k], _, d => have := Gd_parts (d k (by simp)); simp; omega
    | [k, k2], _, d => have := Gd_parts (d k (by simp)); have := Gd_parts (d k2 (by simp)); simp; omega
    | _ :: _ :: _ :: _, a, _ => simp at a
end Rg
end
section
/-! membership; comparing lists of texts -/
open PySem PySem.W PyProof.Rows PySem.Calls PySem.SeqAt
set_option autoImplicit false
set_option maxRecDepth 100000
namespace Rg
def eqS (x : Str) : Value → Bool
  | .str y _ => y == x
  | _ => false
theorem any_eqS : ∀ {vs : List Value} {fs : List Str}, StrsAre vs fs → ∀ x, vs.any (eqS x) = fs.contains x
  | _, _, .nil, x => rfl
  | _, _, .cons y t r, x => by
    rw [List.any_cons, List.contains_cons, any_eqS r x]
    show ((y == x) || _) = ((x == y) || _)
    rw [Bool.beq_comm]
theorem strsAre_allStr : ∀ {vs : List Value} {fs : List Str}, StrsAre vs fs → ∀ v ∈ vs, ∃ x t, v = .str x t
  | _, _, .cons y t r, v, hv => by
    rcases List.mem_cons.mp hv with rfl | hv
    · exact ⟨y, t, rfl⟩
    · exact strsAre_allStr r v hv
section
variable {w : World} {A : Around} {E : Value → Shared → Prop} {s : Shared} {h g : Heap} {t : Nat} {Q : Value → Shared → Prop}
theorem eqAt_str {s : Shared} (x y : Str) (t u : Tok) : EqAt A s (.str x t) (.str y u) (x == y) := (eqGives_str x y t u).at _ _
theorem eqAt_eqS {s : Shared} {vs : List Value} {fs : List Str} (hs : StrsAre vs fs) (x : Str) (u : Tok) (y : Value) (hy : y ∈ vs.toArray) : EqAt A s y (.str x u) (eqS x y) := by
  obtain ⟨z, tz, rfl⟩ := strsAre_allStr hs y (by simpa using hy)
  exact eqAt_str z x tz u
theorem cNotInL {l : Addr} {vs : List Value} {fs : List Str} {x : Str} {u : Tok} (hl : h.IsList l vs.toArray) (hs : StrsAre vs fs) (q : Q (.bool (!fs.contains x)) (upd s h t)) :
    wpAny (model PR w) A (compareOp .NotIn (.str x u) (.ref l)) Q E (upd s h t) :=
  notIn_listAt (s := upd s h t) (eqS x) hl (fun y hy => eqAt_eqS hs x u y hy) (by rw [List.any_toArray, any_eqS hs]; exact q)
theorem cNotInT {l : Addr} {vs : List Value} {fs : List Str} {x : Str} {u : Tok} (hl : IsTup h l vs.toArray) (hs : StrsAre vs fs) (q : Q (.bool (!fs.contains x)) (upd s h t)) :
    wpAny (model PR w) A (compareOp .NotIn (.str x u) (.ref l)) Q E (upd s h t) :=
  notIn_tupleAt (s := upd s h t) (eqS x) hl (fun y hy => eqAt_eqS hs x u y hy) (by rw [List.any_toArray, any_eqS hs]; exact q)
theorem cInT {l : Addr} {vs : List Value} {fs : List Str} {x : Str} {u : Tok} (hl : IsTup h l vs.toArray) (hs : StrsAre vs fs) (q : Q (.bool (fs.contains x)) (upd s h t)) :
    wpAny (model PR w) A (compareOp .In (.str x u) (.ref l)) Q E (upd s h t) :=
  in_tupleAt (s := upd s h t) (eqS x) hl (fun y hy => eqAt_eqS hs x u y hy) (by rw [List.any_toArray, any_eqS hs]; exact q)
theorem all_eqs : ∀ {n : Nat} {xs ys : List Str}, xs.length = n → ys.length = n → ((List.range n).all fun j => xs.getD j "" == ys.getD j "") = (xs == ys)
  | n, xs, ys, hx, hy => by
    rw [Bool.eq_iff_iff, List.all_eq_true, beq_iff_eq]
    constructor
    · intro h
      apply List.ext_getElem (by omega)
      intro i h1 h2
      have := h i (List.mem_range.mpr (by omega))
      simpa [List.getD_eq_getElem?_getD, h1, h2] using this
    · rintro rfl j _
      simp
/-- the elements of a list of texts compared -/
theorem strs_at {s : Shared} {vs ws : List Value} {xs ys : List Str} (hx : StrsAre vs xs) (hy : StrsAre ws ys) (j : Nat) (h1 : j < vs.toArray.size) (h2 : j < ws.toArray.size) : EqAt A s vs.toArray[j] ws.toArray[j] (xs.getD j "" == ys.getD j "") := by
  rw [List.size_toArray] at h1 h2
  have l1 := strsAre_len hx
  have l2 := strsAre_len hy
  obtain ⟨t1, e1⟩ := strsAre_get hx j h1 (by omega)
  obtain ⟨t2, e2⟩ := strsAre_get hy j h2 (by omega)
  rw [List.getElem_toArray, List.getElem_toArray, e1, e2]
  have g1 : xs.getD j "" = xs[j] := by simp [List.getD_eq_getElem?_getD, show j < xs.length by omega]
  have g2 : ys.getD j "" = ys[j] := by simp [List.getD_eq_getElem?_getD, show j < ys.length by omega]
  rw [g1, g2]
  exact eqAt_str _ _ _ _
theorem rcS {s : Shared} {l b : Addr} {vs ws : List Value} {xs ys : List Str} (hl : s.heap.IsList l vs.toArray) (hb : s.heap.IsList b ws.toArray) (hx : StrsAre vs xs) (hy : StrsAre ws ys) (hu : A.units < cLine) : RcAt A s (.ref l) (.ref b) (xs == ys) := by
  have l1 := strsAre_len hx
  have l2 := strsAre_len hy
  by_cases hz : vs.length = ws.length
  · have := RcAt.lists (A := A) (e := fun j => xs.getD j "" == ys.getD j "") hl hb (by rw [List.size_toArray, List.size_toArray, hz]) hu (fun j h1 h2 => strs_at hx hy j h1 h2)
    rw [List.size_toArray, all_eqs (by omega) (by omega)] at this
    exact this
  · have := RcAt.lists_lengths (A := A) hl hb (by rw [List.size_toArray, List.size_toArray]; simpa using hz) hu
    rw [show (xs == ys) = false from beq_eq_false_iff_ne.mpr fun e => hz (by rw [l1, l2, e])]
    exact this
theorem rneS {s : Shared} {l b : Addr} {vs ws : List Value} {xs ys : List Str} (hl : s.heap.IsList l vs.toArray) (hb : s.heap.IsList b ws.toArray) (hx : StrsAre vs xs) (hy : StrsAre ws ys) (hu : A.units < cLine) : RcNeAt A s (.ref l) (.ref b) (xs != ys) := by
  have l1 := strsAre_len hx
  have l2 := strsAre_len hy
  by_cases hz : vs.length = ws.length
  · have := RcNeAt.lists (A := A) (e := fun j => xs.getD j "" == ys.getD j "") hl hb (by rw [List.size_toArray, List.size_toArray, hz]) hu (fun j h1 h2 => strs_at hx hy j h1 h2)
    rw [List.size_toArray, all_eqs (by omega) (by omega)] at this
    exact this
  · have := RcNeAt.lists_lengths (A := A) hl hb (by rw [List.size_toArray, List.size_toArray]; simpa using hz) hu
    rw [show (xs != ys) = true from bne_iff_ne.mpr fun e => hz (by rw [l1, l2, e])]
    exact this
theorem cEqLS {l b : Addr} {vs ws : List Value} {xs ys : List Str} (hl : h.IsList l vs.toArray) (hb : h.IsList b ws.toArray) (hx : StrsAre vs xs) (hy : StrsAre ws ys) (hu : A.units < cLine) (q : Q (.bool (xs == ys)) (upd s h t)) :
    wpAny (model PR w) A (compareOp .Eq (.ref l) (.ref b)) Q E (upd s h t) := rcS (s := upd s h t) hl hb hx hy hu PR w E Q q
theorem cNeLS {l b : Addr} {vs ws : List Value} {xs ys : List Str} (hl : h.IsList l vs.toArray) (hb : h.IsList b ws.toArray) (hx : StrsAre vs xs) (hy : StrsAre ws ys) (hu : A.units < cLine) (q : Q (.bool (xs != ys)) (upd s h t)) :
    wpAny (model PR w) A (compareOp .NotEq (.ref l) (.ref b)) Q E (upd s h t) := rneS (s := upd s h t) hl hb hx hy hu PR w E Q q
end
end Rg
end
section
/-! _law_names -/
open PySem PySem.W PyProof.Rows PySem.Calls
set_option autoImplicit false
set_option maxRecDepth 100000
namespace Rg
theorem vsL_snoc (l : List Tm) (k : Tm) : vsL (l ++ [k]) = vsL l ++ k.vs := by rw [vsL_eq, vsL_eq, List.flatMap_append]; simp
def NamesSpec (w : World) (mg mb : Str → Option Value) (H0 : Heap) (ns : List Str) (n : Nat) : Prop :=
  ∀ {A : Around} {E : Value → Shared → Prop} {s : Shared} {h g : Heap} {t : Nat} {Q : Value → Shared → Prop} {v : Value} {tm : Tm},
    Amb A (n + 1) (3 * n + 20) → Pre w mg mb H0 g h → IsTm g v tm → tm.Gd ns n →
    (∀ D vs g' h' t', Grow h.objs.size g g' → Le g' h' → Le h h' → g'.IsList D vs.toArray → StrsAre vs (can tm.vs) → Q (.ref D) (upd s h' t')) →
    wpAny (model PR w) A (call (.ref 263) [v]) Q E (upd s h t)
section
variable {w : World} {mg mb : Str → Option Value} {H0 : Heap}
theorem names_step {ns : List Str} (hns : ∀ x ∈ ns, x ∈ vns) (n : Nat) (ih : NamesSpec w mg mb H0 ns n) : NamesSpec w mg mb H0 ns (n + 1) := by
  intro A E s h g t Q v tm am P hv hd q
  cases tm with
  | node op kids =>
  have hdp := hd.dp hns
  obtain ⟨a, tk, vs, rfl, ht, hl, hk⟩ := hv.inv
  obtain ⟨d1, d2, d3, _⟩ := hdp
  obtain ⟨e1, e2, e3⟩ := id hd
  refine enter (D_names w.params) P (X := []) (vol := []) am.room (A_names _ _) (by rfl) (by decide) (by simp) (by simp) fun env L h₁ t₁ E' hL EF F => ?_
  have hsz : (Value.str op tk :: vs).toArray.size = kids.length + 1 := by rw [List.size_toArray, List.length_cons, hl]
  have h0 : seqIndex? 0 (Value.str op tk :: vs).toArray.size = some 0 := by rw [hsz]; simp [seqIndex?]; try omega
  obtain ⟨ch, hch, hq⟩ := first_isQ d2
  refine wpAny_execs_cons (wpAny_If (wpAny_isTrue_Compare1 ?_))
  refine Subscript_ (Subscript_ (ldL EF F rfl rfl (eInt fun k1 t2 => tGet (isTup_le ht F.keep) (by decide) (by decide) (j := 0) h0 (x := .str op tk) (by simp) ?_)))
  refine eInt fun k2 t3 => sGet (j := 0) (by simp [seqIndex?]; omega) hch (by decide) (by decide) fun t4 k3 => eStr fun k4 t5 => cEqS (tru ?_)
  rw [hq]
  cases hiq : isQ op with
  | true =>
    rw [if_pos rfl]
    have hop : op ∈ ns ∧ kids = [] := e2.resolve_right fun b => by rw [(gops_len b).2] at hiq; cases hiq
    refine wpAny_execs_cons (wpAny_Return_some (eList (spl (Subscript_ (ldL EF F rfl rfl (eInt fun k1 t2 => tGet (isTup_le ht F.keep) (by decide) (by decide) (j := 0) h0 (x := .str op tk) (by simp) ?_))))))
    refine spl0 (mkList F (by simp) fun D h₂ hD F2 => ?_)
    obtain ⟨g₃, k3, ⟨o, ho, hp⟩, F3⟩ := F2.freeze (pre := []) hD
    refine q D _ g₃ h₂ _ F3.gr F3.keep F3.old.le ⟨o, ho, hp⟩ ?_
    rw [hop.2, Tm.vs, if_pos (by simp [hiq]), ← ord1 op (hns _ hop.1)]
    exact .cons op tk .nil
  | false =>
    rw [if_neg Bool.false_ne_true]
    have hvs : (Tm.node op kids).vs = vsL kids := by rw [Tm.vs, if_neg (by simp [hiq])]
    refine wpAny_execs_nil ?_
    refine wpAny_execs_cons (wpAny_Assign_Name (eList (spl0 (mkListM F (by simp) fun fd h₂ hfd F2 => ?_))))
    refine stC EF F2 rfl rfl (by show h.objs.size ≤ L + 1; omega) fun h₃ F3 => ?_
    refine wpAny_execs_cons (wpAny_For ?_ ?_)
    · refine Subscript_ (ldL EF F3 rfl rfl ?_)
      refine tFrom (i := 1) F3 ht rfl (by omega) (by omega) (by omega) fun b g₆ h₆ t₆ k6 htb F6 => ?_
      have htb' : IsTup g₆ b vs.toArray := by simpa using htb
      refine itTup F6 htb' fun it h₇ hit F7 => ?_
      refine for_close (n := vs.toArray.size) (V := V1 it (pTI b)) F7 (ItR.tuple (items := vs.toArray) am.deeper.handled hit htb') (fun s' => s' = s) rfl
        (fun i m' cm' vol' g' => cm' "found" = some (.ref fd) ∧ ∃ items fs, vol' = [(fd, pM items)] ∧ StrsAre items fs ∧ fs.Nodup ∧ fs.length ≤ 3 * i ∧ ∀ x, x ∈ fs ↔ x ∈ vsL (kids.take i)) ?_ ?_ ?_
      · exact ⟨rfl, [], [], rfl, .nil, List.nodup_nil, by simp, fun x => by simp [vsL]⟩
      · rintro i _ m' cm' vol' g' h' t' v rfl hi' ⟨hm, items, fs, rfl, hfs, hnd, hfl, hmem⟩ kg FF hx
        have hi : i < vs.length := by simpa using hi'
        have hik : i < kids.length := by omega
        have hx' : vs[i]? = some v := by simpa using hx
        have hxt : IsTm g v kids[i] := hk i v _ hx' (List.getElem?_eq_getElem hik)
        refine asgN EF FF rfl fun ha ta Fa => ?_
        have hgl : Le g g' := k6.trans kg
        have hfa := Fa.volat (fd, pM items) (by simp [V1])
        refine wpAny_execs_cons (wpAny_Expr_any ?_ EF.inter)
        refine mList1 PySem.F.slot_list_extend PySem.F.type_list_extend hfa.1 (fun Q' z => ldC EF Fa rfl rfl hm z) ?_
        refine lc_open EF ?_
        refine callDef P.B EF Fa rfl (G_law_names _) (D_names _) (spl (ldL EF Fa rfl rfl (spl0 ⟨Fa.H, ?_⟩)))
        refine ih am.deeper (Fa.pre P.B) (hxt.le hgl) (e3 _ (List.getElem_mem hik)) fun D zs g₁₁ h₁₁ t₁₁ G₁₁ k₁₁ kh₁₁ hD hzs => ?_
        have Fb := Fa.called0 kh₁₁ G₁₁ k₁₁
        have hzl := strsAre_len hzs
        have hc3 := can_len kids[i].vs
        refine itList Fb hD fun I h₁₂ hI Fc => ?_
        have Fc' := Fc.perm (vol' := V1 I (pLI D) 0 ++ ([(fd, pM items)] ++ V1 it (pTI b) (i + 1))) (by simp only [V1, List.cons_append, List.nil_append]; exact (List.Perm.swap _ _ _).cons _)
        refine lc_close (n := zs.toArray.size) (vx := [(fd, pM items)]) (vr := V1 it (pTI b) (i + 1)) EF Fc' (ItR.list am.deeper.handled hI hD) (by rw [List.size_toArray, hzl]; omega)
          (fun j us g₁ vx' => vx' = [(fd, pM items)] ∧ StrsAre us (((can kids[i].vs).take j).filter fun x => !fs.contains x)) ?_ ?_ ?_ ?_
        · exact ⟨rfl, .nil⟩
        · rintro _ _ _ _ ⟨rfl, _⟩; rfl
        · rintro C D' cenv j us g₁ vx' mC h' t' v hj ⟨rfl, hus⟩ EC kg₁ FC hv
          have hjz : j < zs.length := by simpa using hj
          have hjc : j < (can kids[i].vs).length := by omega
          obtain ⟨tkj, ej⟩ := strsAre_get hzs j hjz hjc
          have hv : v = .str (can kids[i].vs)[j] tkj := by
            have : zs[j]? = some v := by simpa using hv
            rw [List.getElem?_eq_getElem hjz, ej] at this
            exact (Option.some.inj this).symm
          subst hv
          refine asgN EC FC rfl fun hB tB FB => tests1 (wpAny_isTrue_Compare1 ?_)
          refine ldL EC FB rfl rfl (ldC EC FB rfl rfl hm ?_)
          have hfb := FB.volat (fd, pM items) (by simp [V1])
          refine cNotInL (pM.at hfb.1) hfs (tru ?_)
          rw [List.take_succ_eq_append_getElem hjc, List.filter_append]
          cases hcn : fs.contains (can kids[i].vs)[j] with
          | true =>
            rw [Bool.not_true, if_neg Bool.false_ne_true]
            refine ⟨hB, _, g₁, _, _, rfl, FB, rfl, ?_⟩
            rw [show [(can kids[i].vs)[j]].filter (fun x => !fs.contains x) = [] by rw [List.filter_cons_of_neg (by rw [hcn]; decide), List.filter_nil], List.append_nil]
            exact hus
          | false =>
            rw [Bool.not_false, if_pos rfl]
            refine ldL EC FB rfl rfl ⟨hB, _, g₁, _, _, rfl, FB, rfl, ?_⟩
            rw [show [(can kids[i].vs)[j]].filter (fun x => !fs.contains x) = [(can kids[i].vs)[j]] by rw [List.filter_cons_of_pos (by rw [hcn]; rfl), List.filter_nil]]
            exact strsAre_app hus (.cons _ tkj .nil)
        · rintro D' us gg g₂ vx' hh tt Ff kk1 kk2 hl' ⟨rfl, hus⟩
          rw [List.size_toArray, hzl, List.take_length] at hus
          have hf2 := Ff.volat (fd, pM items) (by simp)
          have l1 := strsAre_len hfs
          have l2 := strsAre_len hus
          have l3 := List.length_filter_le (fun x => !fs.contains x) (can kids[i].vs)
          refine extL hf2.1 (.inl (isList_le hl' Ff.keep)) (by rw [List.size_toArray]; omega) fun h' at' kX => ?_
          have Fz := Ff.called1s (pre := []) (post := V1 it (pTI b) (i + 1)) kX at'
          have Fz' := Fz.perm (vol' := V1 it (pTI b) (i + 1) ++ [(fd, pM (items ++ us))]) (by simp only [V1, List.cons_append, List.nil_append]; exact List.Perm.swap _ _ _)
          refine wpAny_execs_nil ⟨_, h', _, _, _, [(fd, pM (items ++ us))], g₂, rfl, rfl, Fz', G₁₁.le.trans (kk1.trans kk2), hm, _, _, rfl, strsAre_app hfs hus, ?_, by rw [List.length_append]; omega, ?_⟩
          · refine List.nodup_append.mpr ⟨hnd, (can_nodup _).sublist List.filter_sublist, fun x hx y hy e => ?_⟩
            subst e
            have := (List.mem_filter.mp hy).2
            rw [List.contains_iff_mem.mpr hx] at this; cases this
          · intro x
            rw [List.take_succ_eq_append_getElem hik, vsL_snoc, List.mem_append, List.mem_append, hmem x, List.mem_filter, mem_can]
            constructor
            · rintro (z | z)
              · exact .inl z
              · exact .inr z.1.2
            · rintro (z | z)
              · exact .inl z
              · by_cases hxf : x ∈ fs
                · exact .inl ((hmem x).mp hxf)
                · exact .inr ⟨⟨hns _ (Gd_sub hns (e3 _ (List.getElem_mem hik)) x z), z⟩, by simpa using hxf⟩
      · rintro _ m' cm' vol' g' h' t' rfl Ff kg ⟨hm, items, fs, rfl, hfs, hnd, hfl, hmem⟩
        rw [List.size_toArray, hl, List.take_length] at hmem
        rw [List.size_toArray, hl] at hfl
        have hf2 := Ff.volat (fd, pM items) (by simp)
        refine wpAny_execs_cons (wpAny_Return_some ?_)
        refine callBlt P.B EF Ff rfl (G0_sorted _) (by boot_by_name) (spl (ldC EF Ff rfl rfl hm (spl0 ?_)))
        refine sortList Ff (pM.at hf2.1) hfs (by omega) fun D ws ss g₉ h₉ t₉ k9 hD hws hpm hso F9 => ?_
        refine q D ws g₉ h₉ _ F9.gr F9.keep F9.old.le hD ?_
        rw [hvs, ← sorted_is (xs := vsL kids) hpm hnd hso hmem (fun x hx => hns _ (Gd_sub hns hd x (by rw [hvs]; exact hx)))]
        exact hws
    · intro _; rfl
theorem names_spec {ns : List Str} (hns : ∀ x ∈ ns, x ∈ vns) : ∀ n : Nat, NamesSpec w mg mb H0 ns n
  | 0 => fun _ _ _ hd => hd.elim
  | n + 1 => names_step hns n (fun {A E s h g t Q v tm} => names_spec hns n)
end
end Rg
end
section
/-! no attribute keys -/
open PySem PySem.W PyProof.Rows PySem.Calls
set_option autoImplicit false
set_option maxRecDepth 100000
namespace Rg
section
variable {w : World} {A : Around} {E : Value → Shared → Prop} {s : Shared} {h : Heap} {t : Nat}
theorem no_keys_list : typeLookup (.type "list") "keys" = pure none := by rw [typeLookup_type, builtinLookup_eq_fast]; kernel_rfl
theorem no_keys_tuple : typeLookup (.type "tuple") "keys" = pure none := by rw [typeLookup_type, builtinLookup_eq_fast]; kernel_rfl
theorem miss_list {a : Addr} {xs : Array Value} {k : Nat} {sl : Array (Option Value)} {Q : Option Value → Shared → Prop} (hA : A.handled = none) (hx : h.get? a = some { cls := .type "list", dict := none, data := .seq xs k, slots := sl })
    (q : ∀ h' t', Le h h' → Q none (upd s h' t')) : wpAny (model PR w) A (getAttr? (.ref a) "keys") Q E (upd s h t) := by
  obtain ⟨hp, g, d, tk, os⟩ := s
  dsimp only [upd] at q ⊢
  have hT : ∀ tk', (⟨h, g, d, tk', os⟩ : Shared).TypeIs (.ref a) "list" := fun _ => ⟨_, hx, rfl⟩
  have f1 := sub_AttributeError
  have f3 := PySem.F.slot_list_getattribute.lookup
  have f4 := PySem.F.slot_list_getattribute.bind (.ref a)
  have f5 := am_list_getattr_none
  unfold getAttr? getAttrBy? getAttrBy
  repeat (any_goals (first | assumption | exact hT _ | ((with_reducible show wpAny _ _ (call (Value.builtin "list.__getattribute__") _ _) _ _ _); refine call_meets PySem.F.slot_list_getattribute (hT _) am_entry_list_getattribute (PySem.F.args_list_getattribute_2 _ _) (meets_getattribute_miss_list a xs k sl "keys" _ no_keys_list (by decide) (by size_fits)) ⟨hx, hA, fun h' tk' e hx' => ?_⟩) | wp_step))
  obtain ⟨t', u', he⟩ := hx'.there
  show wpAny _ _ (getattributeRaised _ _ _ _ _ _ _) _ _ _
  unfold getattributeRaised
  repeat (any_goals (first | assumption | wp_step))
  exact q _ _ hx'.keeps
theorem miss_tuple {a : Addr} {xs : Array Value} {k : Nat} {sl : Array (Option Value)} {Q : Option Value → Shared → Prop} (hA : A.handled = none) (hx : h.get? a = some { cls := .type "tuple", dict := none, data := .seq xs k, slots := sl })
    (q : ∀ h' t', Le h h' → Q none (upd s h' t')) : wpAny (model PR w) A (getAttr? (.ref a) "keys") Q E (upd s h t) := by
  obtain ⟨hp, g, d, tk, os⟩ := s
  dsimp only [upd] at q ⊢
  have hT : ∀ tk', (⟨h, g, d, tk', os⟩ : Shared).TypeIs (.ref a) "tuple" := fun _ => ⟨_, hx, rfl⟩
  have f1 := sub_AttributeError
  have f3 := PySem.F.slot_tuple_getattribute.lookup
  have f4 := PySem.F.slot_tuple_getattribute.bind (.ref a)
  have f5 := am_tuple_getattr_none
  unfold getAttr? getAttrBy? getAttrBy
  repeat (any_goals (first | assumption | exact hT _ | ((with_reducible show wpAny _ _ (call (Value.builtin "tuple.__getattribute__") _ _) _ _ _); refine call_meets PySem.F.slot_tuple_getattribute (hT _) am_entry_tuple_getattribute (PySem.F.args_tuple_getattribute_2 _ _) (meets_getattribute_miss_tuple a xs k sl "keys" _ no_keys_tuple (by decide) (by size_fits)) ⟨hx, hA, fun h' tk' e hx' => ?_⟩) | wp_step))
  obtain ⟨t', u', he⟩ := hx'.there
  show wpAny _ _ (getattributeRaised _ _ _ _ _ _ _) _ _ _
  unfold getattributeRaised
  repeat (any_goals (first | assumption | wp_step))
  exact q _ _ hx'.keeps
end
end Rg
end
section
/-! dict of a list, a tuple of pairs -/
open PySem PySem.W PyProof.Rows PySem.Calls
set_option autoImplicit false
set_option maxRecDepth 100000
namespace Rg
/-- pairs of a text and a value -/
def PairsAt (h : Heap) (vs : List Value) (ps : List (Str × Value)) : Prop := vs.length = ps.length ∧ ∀ (i : Nat) (v : Value) (p : Str × Value), vs[i]? = some v → ps[i]? = some p → ∃ a tk, v = .ref a ∧ IsTup h a #[.str p.1 tk, p.2]
theorem PairsAt.le {h h' : Heap} {vs : List Value} {ps : List (Str × Value)} (x : PairsAt h vs ps) (k : Le h h') : PairsAt h' vs ps := ⟨x.1, fun i v p a b => let ⟨c, tk, e, t⟩ := x.2 i v p a b; ⟨c, tk, e, isTup_le t k⟩⟩
theorem PairsAt.keep {h h' : Heap} {vs : List Value} {ps : List (Str × Value)} (x : PairsAt h vs ps) (k : ∀ a o, .ref a ∈ vs → h.get? a = some o → h'.get? a = some o) : PairsAt h' vs ps :=
  ⟨x.1, fun i v p a b => let ⟨c, tk, e, ⟨o, ho, r⟩⟩ := x.2 i v p a b; ⟨c, tk, e, ⟨o, k c o (e ▸ List.mem_of_getElem? a) ho, r⟩⟩⟩
theorem PairsAt.get {h : Heap} {vs : List Value} {ps : List (Str × Value)} (x : PairsAt h vs ps) {i : Nat} {v : Value} (e : vs[i]? = some v) : ∃ p a tk, ps[i]? = some p ∧ v = .ref a ∧ IsTup h a #[.str p.1 tk, p.2] := by
  have hi : i < ps.length := by rw [← x.1]; exact (List.getElem?_eq_some_iff.mp e).1
  obtain ⟨a, tk, e1, e2⟩ := x.2 i v _ e (List.getElem?_eq_getElem hi)
  exact ⟨_, a, tk, List.getElem?_eq_getElem hi, e1, e2⟩
theorem stored_new {kvs : List (Str × Value)} {k : Str} {v : Value} (h : k ∉ kvs.map (·.1)) : stored kvs k v = kvs ++ [(k, v)] := by
  unfold stored
  rw [if_neg]
  intro q
  obtain ⟨p, hp, e⟩ := List.any_eq_true.mp q
  exact h (List.mem_map.mpr ⟨p, hp, by simpa using e⟩)
theorem en_upd : entryFor table "dict.update.loop" = some Builtin.«dict.update.loop» := entryFor_of_tree (by kernel_rfl)
theorem pl_upd : plainId "dict.update.loop" = true := by decide +kernel
section
variable {w : World} {A : Around} {E : Value → Shared → Prop} {s : Shared} {h : Heap} {t : Nat}
theorem update_loop {d it : Addr} {fp : List Addr} {vs : List Value} {ps : List (Str × Value)} {St : Nat → Heap → Prop} {R : Result → Shared → Prop} {res : Value} (hn : (ps.map (·.1)).Nodup) (hz : ps.length ≤ 1000)
    (W : Walks PR w A.in1 it fp [it] vs.length (fun i v => vs[i]? = some v) St) (hdf : d ∉ fp) (hdi : d ≠ it) (hvd : .ref d ∉ vs) (hvi : .ref it ∉ vs) :
    ∀ (k i : Nat) (h : Heap) (t : Nat), vs.length - i = k → i ≤ vs.length → St i h → PairsAt h vs ps → At h d (pD w (ps.take i)) →
      (∀ h' t', LeX [d, it] h h' → At h' d (pD w ps) → R (.ok (.ret res)) (upd s h' t')) →
      codeAny (model PR w) A (.builtin "dict.update.loop" ⟨[.ref d, .ref it, rawInt i, res], []⟩) R (upd s h t) := by
  intro k
  induction k with
  | zero =>
    intro i h t hk hi st hp hd q
    have hin : i = vs.length := by omega
    subst hin
    refine codeAny_builtin en_upd ?_
    rw [Around.under_plainId pl_upd _]
    show wpAny _ A.in1 (pyNext (.ref it) >>= _) _ _ _
    refine wpAny_bind (W.done (upd s h t) _ _ st fun h' tk' kk => ?_)
    refine wpAny_bind (m := Builtin.Dict.addKeywords d []) (wpAny_pure (wpAny_pure (q h' tk' (fun b o hb e => kk b o (fun q => hb (by simp at q; simp [q])) e) ?_)))
    rw [hp.1, List.take_length] at hd
    obtain ⟨o, ho, r⟩ := hd
    exact ⟨o, kk _ _ (by simpa using hdi) ho, r⟩
  | succ k ih =>
    intro i h t hk hi st hp hd q
    have hlt : i < vs.length := by omega
    have hlp : i < ps.length := by rw [← hp.1]; exact hlt
    refine codeAny_builtin en_upd ?_
    rw [Around.under_plainId pl_upd _]
    show wpAny _ A.in1 (pyNext (.ref it) >>= _) _ _ _
    refine wpAny_bind (W.item i (upd s h t) _ _ hlt st fun v h' tk' hv st' kk => ?_)
    have hp' := hp.keep (h' := h') fun a o ha e => kk a o (fun q => hvi (by simp at q; exact q ▸ ha)) e
    obtain ⟨a, tka, rfl, ht⟩ := hp'.2 i v _ hv (List.getElem?_eq_getElem hlp)
    obtain ⟨oa, hoa, hca, na, hda⟩ := id ht
    dsimp only
    refine wpAny_bind (wpAny_holding (wpAny_bind (wpAny_tryCatch ?_)))
    unfold Builtin.Dict.pairItems
    refine wpAny_bind (wpAny_typeOf (T := "tuple") ⟨oa, hoa, hca⟩ ?_)
    rw [if_pos (by simp)]
    refine wpAny_bind (wpAny_seqItems hoa hda (wpAny_pure ?_))
    show wpAny _ _ (holding [Value.str ps[i].1 tka, ps[i].2] (dictSet d (.str ps[i].1 tka) ps[i].2)) _ _ _
    have hdn : At h' d (pD w (ps.take i)) := let ⟨o, ho, r⟩ := hd; ⟨o, kk _ _ (by simpa using hdi) ho, r⟩
    refine wpAny_holding (wpAny_dictSet_pairs (s := upd s h' tk') (strKind_is PR w _ tka) hdn.dict (fun h2 hd2 sb => ?_) (by rw [List.length_take]; exact lt_sizeLine (by omega)))
    have hnew : ps[i].1 ∉ (ps.take i).map (·.1) := fun q => by
      have e : ps.map (·.1) = (ps.take i).map (·.1) ++ ps[i].1 :: (ps.drop (i + 1)).map (·.1) := by
        rw [← List.map_cons (f := (·.1)) (a := ps[i]), ← List.map_append, ← List.drop_eq_getElem_cons hlp, List.take_append_drop]
      rw [e] at hn
      exact (List.nodup_append.mp hn).2.2 _ q _ (.head _) rfl
    rw [stored_new hnew, show ps.take i ++ [(ps[i].1, ps[i].2)] = ps.take (i + 1) from (List.take_succ_eq_append_getElem hlp).symm] at hd2
    have k2 := le_of_sameBut sb
    refine wpAny_pure ⟨plainId_quiet pl_upd _, ih (i + 1) h2 _ (by omega) hlt (W.frame _ _ _ st' fun b hb o e => k2 b o (fun q => hdf (List.mem_singleton.mp q ▸ hb)) e) (hp'.keep fun a o ha e => k2 a o (fun q => hvd (List.mem_singleton.mp q ▸ ha)) e) (At.of_dict hd2) fun h3 t3 k3 hd3 => ?_⟩
    exact q h3 t3 (fun b o hb e => k3 b o hb (k2 b o (by simp at hb; simp [hb.1]) (kk b o (by simp at hb; simp [hb.2]) e))) hd3
theorem call_dict_seq {l : Addr} {T : String} {vs : List Value} {ps : List (Str × Value)} {k : Nat} {sl : Array (Option Value)} {Q : Value → Shared → Prop} (hh : A.handled = none) (hT : T = "list" ∨ T = "tuple") (hl : h.get? l = some { cls := .type T, dict := none, data := .seq vs.toArray k, slots := sl })
    (hp : PairsAt h vs ps) (hn : (ps.map (·.1)).Nodup) (hz : ps.length ≤ 1000)
    (q : ∀ h' t', Le h h' → At h' h.objs.size (pD w ps) → Q (.ref h.objs.size) (upd s h' t')) : wpAny (model PR w) A (call (.type "dict") [.ref l]) Q E (upd s h t) := by
  refine callType_codes (Q₁ := fun obj s₁ => obj = .ref h.objs.size ∧ s₁ = upd s (h.push { cls := .type "dict", data := .dict #[] }) t) PySem.F.kt_called_dict (PySem.F.kt_typeCall_dict_1 _) PySem.F.entry_dict_init (kt_code_dict_new (s := upd s h t) _ ⟨rfl, rfl⟩) ?_
  rintro obj s₁ ⟨rfl, rfl⟩
  generalize hH : h.push { cls := .type "dict", data := .dict #[] } = H
  have hle : Le h H := hH ▸ Le.push _ _
  have hHs : H.objs.size = h.objs.size + 1 := by rw [← hH, Heap.size_push]
  have hnew : H.DictOf (knS w) h.objs.size [] := hH ▸ Heap.DictOf.new h
  have hlt : l < h.objs.size := Heap.lt_size hl
  have hl1 := hle _ _ hl
  refine ⟨hnew.typeIs (s := upd s H t), PySem.F.args_dict_init_2 _ _, ?_⟩
  unfold Builtin.«dict.__init__»
  refine wpAny_bind ?_
  unfold Builtin.Dict.selfAndRest
  refine wpAny_bind (wpAny_notOrdered_dict (hnew.typeIs (s := upd s H t)) ?_)
  show wpAny _ _ (pure (h.objs.size, [Value.ref l])) _ _ _
  refine wpAny_pure ?_
  show wpAny _ _ (Builtin.Dict.updateFrom "dict.__init__" h.objs.size (.ref l) [] .none) _ _ _
  unfold Builtin.Dict.updateFrom
  refine wpAny_bind (wpAny_typeOf (T := T) ⟨_, hl1, rfl⟩ ?_)
  rw [if_pos (by rcases hT with rfl | rfl <;> decide)]
  have miss : ∀ (E' : Value → Shared → Prop) (Q' : Option Value → Shared → Prop), (∀ h' t', Le H h' → Q' none (upd s h' t')) → wpAny (model PR w) A.in1.in1 (getAttr? (.ref l) "keys") Q' E' (upd s H t) := by
    intro E' Q' hQ
    rcases hT with rfl | rfl
    · exact miss_list (by exact hh) hl1 hQ
    · exact miss_tuple (by exact hh) hl1 hQ
  refine wpAny_bind (miss _ _ fun h2 t2 k2 => ?_)
  rw [if_pos (show (none : Option Value).isNone = true from rfl)]
  refine wpAny_bind (wpAny_rule ?_)
  have hdl : h.objs.size ≠ l := Nat.ne_of_gt hlt
  have nd : At h2 h.objs.size (pD w ([] : List (Str × Value))) := by obtain ⟨_, _, _, e, r⟩ := hnew; exact ⟨_, k2 _ _ e, _, _, r⟩
  have hp2 := hp.le (hle.trans k2)
  have hl2 := k2 _ _ hl1
  have dlt : h.objs.size < h2.objs.size := let ⟨_, e, _⟩ := nd; Heap.lt_size e
  have hvlt : ∀ a, Value.ref a ∈ vs → a < h.objs.size := fun a ha => by
    obtain ⟨i, hi, e⟩ := List.getElem_of_mem ha
    obtain ⟨p, b, tk, _, e1, ⟨o, ho, _⟩⟩ := hp.get (i := i) (v := .ref a) (by rw [List.getElem?_eq_getElem hi, e])
    cases e1
    exact Heap.lt_size ho
  have fin : ∀ (St : Nat → Heap → Prop) (fp : List Addr), fp = [h2.objs.size, l] → Walks PR w A.in1.in1 h2.objs.size fp [h2.objs.size] vs.length (fun i v => vs[i]? = some v) St → ∀ h3, Le h2 h3 → St 0 h3 →
      codeAny (model PR w) A.in1 (.builtin "dict.update.loop" ⟨[.ref h.objs.size, .ref h2.objs.size, rawInt ((0 : Nat) : Int), .none], []⟩) (wants (fun r s₂ => r = .none ∧ Q (.ref h.objs.size) s₂) E) (upd s h3 t2) := by
    rintro St fp rfl W h3 k3 st
    refine update_loop hn hz W ?_ (Nat.ne_of_lt dlt) (fun q => absurd (hvlt _ q) (Nat.lt_irrefl _)) (fun q => absurd (hvlt _ q) (Nat.not_lt.mpr (Nat.le_of_lt dlt))) _ 0 h3 t2 rfl (Nat.zero_le _) st (hp2.le k3) ?_ fun h' t' kX hd => ?_
    · simp only [List.mem_cons, List.not_mem_nil, or_false, not_or]; exact ⟨Nat.ne_of_lt dlt, hdl⟩
    · rw [List.take_zero]; exact nd.le k3
    · refine ⟨rfl, q h' t' (fun b o e => ?_) hd⟩
      have hb := Heap.lt_size e
      exact kX b o (by simp only [List.mem_cons, List.not_mem_nil, or_false, not_or]; exact ⟨Nat.ne_of_lt hb, Nat.ne_of_lt (Nat.lt_trans hb dlt)⟩) (k3 _ _ (k2 _ _ (hle b o e)))
  have hsz : vs.toArray.size = vs.length := List.size_toArray
  have hfn : (fun (i : Nat) (v : Value) => vs.toArray[i]? = some v) = fun i v => vs[i]? = some v := by funext i v; simp
  rcases hT with rfl | rfl
  · have hll : h2.IsList l vs.toArray := ⟨_, hl2, rfl, k, rfl⟩
    refine wpAny_bind (wpAny_pyIter_list (s := upd s h2 t2) hll ?_)
    have W := Walks.list (prog := PR) (w := w) (A := A.in1.in1) hh h2.objs.size l (Nat.ne_of_lt (Heap.lt_size hl2)) vs.toArray
    rw [hsz, hfn] at W
    exact wpAny_pure ⟨plainId_quiet pl_upd _, fin _ _ rfl W _ (Le.push _ _) ⟨⟨_, Heap.get?_push_size _ rfl, rfl, rfl⟩, hll.push _⟩⟩
  · have hll : IsTup h2 l vs.toArray := ⟨_, hl2, rfl, k, rfl⟩
    refine wpAny_bind (wpAny_pyIter_tuple (s := upd s h2 t2) hll ?_)
    have W := Walks.tuple (prog := PR) (w := w) (A := A.in1.in1) hh h2.objs.size l (Nat.ne_of_lt (Heap.lt_size hl2)) vs.toArray
    rw [hsz, hfn] at W
    exact wpAny_pure ⟨plainId_quiet pl_upd _, fin _ _ rfl W _ (Le.push _ _) ⟨⟨_, Heap.get?_push_size _ rfl, rfl, rfl⟩, isTup_le hll (Le.push _ _)⟩⟩
end
end Rg
end
section
/-! dicts of texts: made, asked -/
open PySem PySem.W PyProof.Rows PySem.Calls
set_option autoImplicit false
set_option maxRecDepth 100000
namespace Rg
section
variable {w : World} {mg mb : Str → Option Value} {A : Around} {E : Value → Shared → Prop} {s : Shared} {h g : Heap} {t : Nat} {vol : Vol} {names : List (Str × NameKind)} {env : Env}
  {c : Cx} {L : Addr} {cl : List (Str × Addr)} {m cm : Str → Option Value} {Q : Value → Shared → Prop}
theorem not_sys {H0 : Heap} {d : Addr} (B : Bs w mg mb H0) (hd : H0.objs.size ≤ d) : (d == sysModules) = false := by
  have := Heap.lt_size (B.K _ _ (D_pick w.params).at_)
  have h1 : (253 : Nat) < d := Nat.lt_of_lt_of_le this hd
  exact beq_eq_false_iff_ne.mpr fun e => by rw [e] at h1; exact absurd h1 (by decide)
theorem cNotInD {H0 : Heap} {d : Addr} {kvs : List (Str × Value)} {x : Str} {tk : Tok} (B : Bs w mg mb H0) (h0 : H0.objs.size ≤ d) (hd : At h d (pD w kvs)) (q : ∀ t', Q (.bool (!(valueAt kvs x).isSome)) (upd s h t')) :
    wpAny (model PR w) A (compareOp .NotIn (.str x tk) (.ref d)) Q E (upd s h t) :=
  wpAny_notIn_of (s := upd s h t) (strKind_is PR w x tk) (not_sys B h0) hd.dict.mapOf (q (t + 1))
/-- a list or tuple without a dict of its own -/
def NoD (h : Heap) (l : Addr) (vs : List Value) : Prop := ∃ T k sl, (T = "list" ∨ T = "tuple") ∧ h.get? l = some { cls := .type T, dict := none, data := .seq vs.toArray k, slots := sl }
theorem NoD.le {h h' : Heap} {l : Addr} {vs : List Value} (x : NoD h l vs) (k : Le h h') : NoD h' l vs := let ⟨T, n, sl, a, b⟩ := x; ⟨T, n, sl, a, k _ _ b⟩
theorem mkDict {l : Addr} {vs : List Value} {ps : List (Str × Value)} (hh : A.handled = none) (F : Frm c L cl m cm vol g h) (hl : NoD h l vs) (hp : PairsAt h vs ps) (hn : (ps.map (·.1)).Nodup) (hz : ps.length ≤ 1000)
    (q : ∀ d g' h' t', Le g g' → c.H0.objs.size ≤ d → At g' d (pD w ps) → Frm c L cl m cm vol g' h' → Q (.ref d) (upd s h' t')) : wpAny (model PR w) A (call (.type "dict") [.ref l]) Q E (upd s h t) := by
  obtain ⟨T, k, sl, hT, hl⟩ := hl
  refine call_dict_seq hh hT hl hp hn hz fun h' t' kk hd => ?_
  obtain ⟨o, ho, r⟩ := hd
  obtain ⟨g', kg, e, F'⟩ := F.fresh' kk ho fun b x e => Heap.lt_size e
  exact q _ g' h' t' kg (Nat.le_of_lt (Nat.lt_of_le_of_lt F.k0L F.ns.lt)) ⟨o, e, r⟩ F'
/-- tuple(list), with no dict of its own -/
theorem tupLN {l : Addr} {vs : List Value} (F : Frm c L cl m cm vol g h) (hl : h.IsList l vs.toArray) (hz : vs.length ≤ 2 ^ 23) (q : ∀ a g' h', Le g g' → IsTup g' a vs.toArray → NoD g' a vs → Frm c L cl m cm vol g' h' → Q (.ref a) (upd s h' t)) :
    wpAny (model PR w) A (call (.type "tuple") [.ref l]) Q E (upd s h t) :=
  call_tuple_list (s := upd s h t) hl (fun h' k => by
    obtain ⟨g', k', e, F'⟩ := (F.ext (h' := h') k).push { cls := .type "tuple", data := .seq vs.toArray }
    exact q _ g' _ k' ⟨_, e, rfl, 0, rfl⟩ ⟨"tuple", 0, #[], .inr rfl, e⟩ F') (by rw [List.size_toArray]; exact lt_sizeLine hz)
end
end Rg
end
section
/-! placed -/
open PySem PySem.W PyProof.Rows PySem.Calls
set_option autoImplicit false
set_option maxRecDepth 100000
namespace Rg
def PlacedSpec (w : World) (mg mb : Str → Option Value) (H0 : Heap) (n : Nat) : Prop :=
  ∀ {A : Around} {E : Value → Shared → Prop} {s : Shared} {h g : Heap} {t : Nat} {Q : Value → Shared → Prop} {v : Value} {tm : Tm} {d : Addr} {kvs : List (Str × Value)} {σ : Str → Tm},
    Amb A (n + 1) (3 * n + 20) → Pre w mg mb H0 g h → IsTm g v tm → tm.Dp n → At g d (pD w kvs) → H0.objs.size ≤ d → (∀ x ∈ tm.vs, ∃ u, valueAt kvs x = some u ∧ IsTm g u (σ x)) →
    (∀ v' g' h' t', Grow h.objs.size g g' → Le g' h' → Le h h' → IsTm g' v' (tm.pl σ) → Q v' (upd s h' t')) →
    wpAny (model PR w) A (call (.ref 119) [v, .ref d]) Q E (upd s h t)
section
variable {w : World} {mg mb : Str → Option Value} {H0 : Heap}
theorem placed_step (n : Nat) (ih : PlacedSpec w mg mb H0 n) : PlacedSpec w mg mb H0 (n + 1) := by
  intro A E s h g t Q v tm d kvs σ am P hv hd hD hdz hσ q
  cases tm with
  | node op kids =>
  obtain ⟨a, tk, vs, rfl, ht, hl, hk⟩ := hv.inv
  obtain ⟨d1, d2, d3, d4⟩ := id hd
  refine enter (D_placed w.params) P (X := []) (vol := []) am.room (A_placed _ _ _) (by rfl) (by decide) (by simp) (by simp) fun env L h₁ t₁ E' hL EF F => ?_
  have hsz : (Value.str op tk :: vs).toArray.size = kids.length + 1 := by rw [List.size_toArray, List.length_cons, hl]
  have h0 : seqIndex? 0 (Value.str op tk :: vs).toArray.size = some 0 := by rw [hsz]; simp [seqIndex?]; try omega
  refine wpAny_execs_cons (wpAny_If (isTrue_not (isTrue_plain ?_)))
  refine callDef P.B EF F rfl (G_is_variable _) (D_isvar _) (spl (ldL EF F rfl rfl (spl0 ⟨F.H, ?_⟩)))
  refine isvar_spec (am.deeper.mono (by omega) (by omega)) (F.pre P.B) hv hd fun h₂ t₂ k₂ => tru ?_
  have F2 := F.ext k₂
  cases hiv : (Tm.node op kids).isVar with
  | false =>
    rw [Bool.not_false, if_pos rfl]
    have hpl : (Tm.node op kids).pl σ = .node op (kids.map (Tm.pl σ)) := by rw [Tm.pl, if_neg (by have : (kids.isEmpty && isQ op) = false := hiv; rw [this]; decide), plL_eq]
    have hvs : ∀ k ∈ kids, ∀ x ∈ k.vs, x ∈ (Tm.node op kids).vs := fun k hk x hx => by
      rw [Tm.vs, if_neg (by have : (kids.isEmpty && isQ op) = false := hiv; rw [this]; decide), vsL_eq]
      exact List.mem_flatMap.mpr ⟨k, hk, hx⟩
    refine wpAny_execs_cons (wpAny_Return_some (wpAny_BinOp (eTup (spl (Subscript_ (ldL EF F2 rfl rfl (eInt fun k1 t3 => tGet (isTup_le ht F2.keep) (by decide) (by decide) (j := 0) h0 (x := .str op tk) (by simp) ?_)))))))
    refine spl0 (mkTup F2 (by simp) fun a1 g₄ h₄ kg4 ht4 F4 => ?_)
    refine callTy P.B EF F4 rfl (G0_tuple _) (by boot_by_name) (spl (lc_open EF ?_))
    refine Subscript_ (ldL EF F4 rfl rfl ?_)
    refine tFrom (i := 1) F4 (isTup_le ht kg4) rfl (by omega) (by omega) (by omega) fun b g₆ h₆ t₆ k6 htb F6 => ?_
    have htb' : IsTup g₆ b vs.toArray := by simpa using htb
    refine itTup F6 htb' fun it h₇ hit F7 => ?_
    refine lc_close (n := vs.toArray.size) (vx := []) (vr := []) EF F7 (ItR.tuple am.deeper.handled hit htb') (by rw [List.size_toArray]; omega)
      (fun i ys g' vx' => vx' = [] ∧ KidsOk g' ys ((kids.take i).map (Tm.pl σ))) ?_ ?_ ?_ ?_
    · exact ⟨rfl, KidsOk.nil _⟩
    · rintro _ _ _ _ ⟨rfl, _⟩; rfl
    · rintro C D' cenv i ys g₁ vx' mC h' t' v hi' ⟨rfl, hys⟩ EC kg₁ FC hx
      have hi : i < vs.length := by simpa using hi'
      have hik : i < kids.length := by omega
      have hx' : vs[i]? = some v := by simpa using hx
      have hgl : Le g g₁ := kg4.trans (k6.trans kg₁)
      have hxt : IsTm g₁ v kids[i] := (hk i v _ hx' (List.getElem?_eq_getElem hik)).le hgl
      refine asgN EC FC rfl fun ha ta Fa => tests0 ?_
      rw [if_pos rfl]
      refine callDef P.B EC Fa rfl (G_placed _) (D_placed _) (spl (ldL EC Fa rfl rfl (spl (ldC EC Fa rfl rfl rfl (spl0 ⟨Fa.H, ?_⟩)))))
      refine ih am.deeper (Fa.pre P.B) hxt (d4 _ (List.getElem_mem hik)) (hD.le hgl) hdz (σ := σ) (fun x hx => ?_) fun v' g₈ h₈ t₈ G₈ k₈ kh₈ htm => ?_
      · obtain ⟨u, e1, e2⟩ := hσ x (hvs _ (List.getElem_mem hik) x hx)
        exact ⟨u, e1, e2.le hgl⟩
      · refine ⟨h₈, t₈, g₈, [], _, rfl, Fa.called0 kh₈ G₈ k₈, rfl, ?_⟩
        rw [List.take_succ_eq_append_getElem hik, List.map_append]
        exact (hys.le G₈.le).snoc htm
    · rintro D' ys g₁ gg vx' hh tt Ff kk1 kk2 hl' ⟨rfl, hys⟩
      rw [List.size_toArray, hl, List.take_length] at hys
      refine spl0 (tupL Ff (isList_le hl' Ff.keep) (by have := hys.1; rw [List.length_map] at this; omega) fun b2 g₉ h₉ k9 ht9 F9 => ?_)
      refine tAdd (vs := [.str op tk]) F9 (isTup_le ht4 (k6.trans (kk1.trans (kk2.trans k9)))) ht9 (by have := hys.1; rw [List.length_map] at this; simp; omega) fun d2 g' h' k10 htd F10 => ?_
      refine q _ g' h' _ F10.gr F10.keep F10.old.le ?_
      rw [hpl]
      exact (hys.le (kk2.trans (k9.trans k10))).tm htd
  | true =>
    rw [Bool.not_true, if_neg Bool.false_ne_true]
    have hiv' : (kids.isEmpty && isQ op) = true := hiv
    have hvs : op ∈ (Tm.node op kids).vs := by rw [Tm.vs, if_pos hiv']; exact .head _
    have hpl : (Tm.node op kids).pl σ = σ op := by rw [Tm.pl, if_pos hiv']
    obtain ⟨u, e1, e2⟩ := hσ op hvs
    refine wpAny_execs_nil ?_
    refine wpAny_execs_cons (wpAny_If (wpAny_isTrue_Compare1 (Subscript_ (ldL EF F2 rfl rfl (eInt fun k1 t3 => tGet (isTup_le ht F2.keep) (by decide) (by decide) (j := 0) h0 (x := .str op tk) (by simp) ?_)))))
    refine ldC EF F2 rfl rfl rfl (cNotInD P.B hdz (hD.le F2.keep) fun t4 => tru ?_)
    rw [e1, Option.isSome_some, Bool.not_true, if_neg Bool.false_ne_true]
    refine wpAny_execs_nil ?_
    refine wpAny_execs_cons (wpAny_Return_some (Subscript_ (ldC EF F2 rfl rfl rfl (Subscript_ (ldL EF F2 rfl rfl (eInt fun k1 t3 => tGet (isTup_le ht F2.keep) (by decide) (by decide) (j := 0) h0 (x := .str op tk) (by simp) ?_))))))
    refine dGet (hD.le F2.keep) e1 fun t5 => ?_
    exact q _ g h₂ t5 F2.gr F2.keep F2.old.le (hpl ▸ e2)
theorem placed_spec : ∀ n : Nat, PlacedSpec w mg mb H0 n
  | 0 => fun _ _ _ hd => hd.elim
  | n + 1 => placed_step n (fun {A E s h g t Q v tm d kvs σ} => placed_spec n)
end
end Rg
end
section
/-! zip of two tuples -/
open PySem PySem.W PyProof.Rows PySem.Calls
set_option autoImplicit false
set_option maxRecDepth 100000
namespace Rg
section
variable {w : World} {A : Around} {E : Value → Shared → Prop} {s : Shared} {h : Heap} {t : Nat}
/-- a zip over two tuples' iterators, i items drawn -/
structure Zp (h : Heap) (z TI TO i1 i2 l1 l2 : Addr) (i : Nat) : Prop where
  z : IsZip h z TI TO .none
  ti : IsPair h TI (.ref i1) (.ref i2)
  to : ∃ a b, IsPair h TO a b
  a1 : h.IsTupleIter i1 l1 i
  a2 : h.IsTupleIter i2 l2 i
abbrev zW (z TO i1 i2 : Addr) : List Addr := [z, TO, i1, i2]
theorem tupIter_at {h h' : Heap} {I l : Addr} {i : Nat} (x : h.IsTupleIter I l i) (k : ∀ o, h.get? I = some o → h'.get? I = some o) : h'.IsTupleIter I l i := let ⟨o, e, r⟩ := x; ⟨o, k o e, r⟩
theorem sup {a b : Addr} {h h' : Heap} (x : Heap.SameBut a h h') (n : b ≠ a) {o : Obj} (e : h.get? b = some o) : h'.get? b = some o := (x.2 b n).trans e
theorem zip_item {z TI TO i1 i2 l1 l2 : Addr} {i : Nat} {xs ys : Array Value} {x y : Value} {Q : Option Value → Shared → Prop} (D : ZipApart z TI TO i1 i2 l1 l2) (Z : Zp h z TI TO i1 i2 l1 l2 i) (hl1 : IsTup h l1 xs) (hl2 : IsTup h l2 ys)
    (hx : xs[i]? = some x) (hy : ys[i]? = some y)
    (q : ∀ (T : Addr) h', IsZip h' z TI TO (rawInt T) → IsPair h' TO x y → h'.IsTupleIter i1 l1 (i + 1) → h'.IsTupleIter i2 l2 (i + 1) → IsPair h' T x y → (∀ b o, h.get? b = some o → b ≠ T) → LeX (zW z TO i1 i2) h h' → Q (some (.ref T)) (upd s h' t)) :
    wpAny (model PR w) A (pyNext (.ref z)) Q E (upd s h t) := by
  obtain ⟨hz, hTI, ⟨a, b, hTO⟩, h1, h2⟩ := Z
  have hT : Shared.TypeIs (upd s h t) (.ref z) "zip" := ⟨_, hz, rfl⟩
  unfold pyNext
  refine wpAny_bind (wpAny_attempt (wpAny_callSpecial?_slot (name := Str.ofString "__next__") hT PySem.F.slot_zip_next (wpAny_call_entry PySem.F.slot_zip_next hT PySem.F.entry_zip_next ?_ (PySem.F.args_zip_next_1 _))))
  show wpAny _ _ (field (.ref z) 2 >>= _) _ _ _
  refine wpAny_bind (wpAny_field (s := upd s h t) hz rfl (x := .bool false) rfl ?_)
  show wpAny _ _ (field (.ref z) 3 >>= _) _ _ _
  refine wpAny_bind (wpAny_field (s := upd s h t) hz rfl (x := .ref TI) rfl ?_)
  refine wpAny_bind (wpAny_seqItems (s := upd s h t) hTI rfl ?_)
  show wpAny _ _ (Builtin.SmallTypes.ownedTupleIsFree (.ref z) >>= _) _ _ _
  refine wpAny_bind ?_
  unfold Builtin.SmallTypes.ownedTupleIsFree
  refine wpAny_bind (wpAny_field (s := upd s h t) hz rfl (x := .none) rfl (wpAny_pure ?_))
  simp only [if_true]
  refine wpAny_bind (wpAny_rule ?_)
  refine wpAny_bind (wpAny_field (s := upd s h t) hz rfl (x := .ref TO) rfl ?_)
  refine wpAny_bind (wpAny_setField_rec (s := upd s h t) hz (by simp) fun h₁ hz₁ s₁ => ?_)
  replace hz₁ : IsZip h₁ z TI TO .ellipsis := hz₁
  refine wpAny_bind ?_
  simp only [List.zipIdx_cons, List.zipIdx_nil, List.forIn_cons, List.forIn_nil]
  refine wpAny_bind (wpAny_bind (wpAny_onRaise ?_))
  show wpAny _ _ (Builtin.SmallTypes.nextOf (.ref i1) >>= _) _ _ _
  refine wpAny_bind (nextOf_tuple_item (s := upd s h₁ t) (tupIter_at h1 fun o e => sup s₁ D.i1z e) (let ⟨o, e, r⟩ := hl1; ⟨o, sup s₁ D.l1z e, r⟩) hx fun h₂ h1₂ s₂ => wpAny_pure ?_)
  have hTO₂ : IsPair h₂ TO a b := sup s₂ D.TOi1 (sup s₁ D.TOz hTO)
  refine wpAny_bind (wpAny_seqItems hTO₂ rfl ?_)
  refine wpAny_bind (wpAny_updateSeq_pair hTO₂ fun h₃ hTO₃ s₃ => ?_)
  replace hTO₃ : IsPair h₃ TO x b := hTO₃
  refine wpAny_bind (wpAny_letGo (wpAny_pure ?_))
  refine wpAny_bind (wpAny_bind (wpAny_onRaise ?_))
  show wpAny _ _ (Builtin.SmallTypes.nextOf (.ref i2) >>= _) _ _ _
  refine wpAny_bind (nextOf_tuple_item (tupIter_at h2 fun o e => sup s₃ D.TOi2.symm (sup s₂ D.i12.symm (sup s₁ D.i2z e))) (let ⟨o, e, r⟩ := hl2; ⟨o, sup s₃ D.l2TO (sup s₂ D.l2i1 (sup s₁ D.l2z e)), r⟩) hy fun h₄ h2₄ s₄ => wpAny_pure ?_)
  have hTO₄ : IsPair h₄ TO x b := sup s₄ D.TOi2 hTO₃
  refine wpAny_bind (wpAny_seqItems hTO₄ rfl ?_)
  refine wpAny_bind (wpAny_updateSeq_pair hTO₄ fun h₅ hTO₅ s₅ => ?_)
  replace hTO₅ : IsPair h₅ TO x y := hTO₅
  refine wpAny_bind (wpAny_letGo (wpAny_pure (wpAny_pure ?_)))
  refine wpAny_bind (wpAny_seqItems hTO₅ rfl ?_)
  refine wpAny_bind (wpAny_newTuple ?_)
  have up5 : LeX (zW z TO i1 i2) h h₅ := fun c o n e => by
    simp only [List.mem_cons, List.not_mem_nil, or_false, not_or] at n
    exact sup s₅ n.2.1 (sup s₄ n.2.2.2 (sup s₃ n.2.1 (sup s₂ n.2.2.1 (sup s₁ n.1 e))))
  have hz₅ : IsZip h₅ z TI TO .ellipsis := sup s₅ D.TOz.symm (sup s₄ D.i2z.symm (sup s₃ D.TOz.symm (sup s₂ D.i1z.symm hz₁)))
  have h1₅ := tupIter_at h1₂ (h' := h₅) fun o e => sup s₅ D.TOi1.symm (sup s₄ D.i12 (sup s₃ D.TOi1.symm e))
  have h2₅ := tupIter_at h2₄ (h' := h₅) fun o e => sup s₅ D.TOi2.symm e
  have hzlt : z < h₅.objs.size := Heap.lt_size hz₅
  show wpAny _ _ (Builtin.SmallTypes.ownedTupleHandOut (.ref z) (.ref h₅.objs.size) >>= _) _ _ _
  refine wpAny_bind ?_
  unfold Builtin.SmallTypes.ownedTupleHandOut
  have hz₆ : IsZip (h₅.push { cls := .type "tuple", data := .seq #[x, y] }) z TI TO .ellipsis := Heap.get?_push_of_some _ hz₅
  refine wpAny_bind (wpAny_setField_rec hz₆ (by simp) fun h₇ hz₇ s₇ => ?_)
  replace hz₇ : IsZip h₇ z TI TO (rawInt h₅.objs.size) := hz₇
  refine wpAny_setField_rec hz₇ (by simp) fun h₈ hz₈ s₈ => ?_
  replace hz₈ : IsZip h₈ z TI TO (rawInt h₅.objs.size) := hz₈
  have up : ∀ {c o}, c ≠ z → h₅.get? c = some o → h₈.get? c = some o := fun n e => sup s₈ n (sup s₇ n (Heap.get?_push_of_some _ e))
  refine wpAny_pure ⟨_, rfl, wpAny_pure ?_⟩
  have live : ∀ b o, h.get? b = some o → b < h₅.objs.size := fun b o e => by
    have : h₅.objs.size = h.objs.size := by rw [s₅.1, s₄.1, s₃.1, s₂.1, s₁.1]
    rw [this]; exact Heap.lt_size e
  exact q h₅.objs.size h₈ hz₈ (up D.TOz hTO₅) (tupIter_at h1₅ fun o e => up D.i1z e) (tupIter_at h2₅ fun o e => up D.i2z e)
    (sup s₈ (Nat.ne_of_gt hzlt) (sup s₇ (Nat.ne_of_gt hzlt) (Heap.get?_push_size _ rfl))) (fun b o e => Nat.ne_of_lt (live b o e))
    fun c o n e => up (fun q => n (by simp [q])) (up5 c o n e)
theorem zip_end {z TI TO i1 i2 l1 l2 : Addr} {i : Nat} {xs : Array Value} {Q : Option Value → Shared → Prop} (hh : A.handled = none) (D : ZipApart z TI TO i1 i2 l1 l2) (Z : Zp h z TI TO i1 i2 l1 l2 i) (hl1 : IsTup h l1 xs)
    (hx : xs[i]? = none) (q : ∀ h', LeX (zW z TO i1 i2) h h' → Q none (upd s h' t)) :
    wpAny (model PR w) A (pyNext (.ref z)) Q E (upd s h t) := by
  obtain ⟨hz, hTI, ⟨a, b, hTO⟩, h1, h2⟩ := Z
  have hT : Shared.TypeIs (upd s h t) (.ref z) "zip" := ⟨_, hz, rfl⟩
  unfold pyNext
  refine wpAny_bind (wpAny_attempt (wpAny_callSpecial?_slot (name := Str.ofString "__next__") hT PySem.F.slot_zip_next (wpAny_call_entry PySem.F.slot_zip_next hT PySem.F.entry_zip_next ?_ (PySem.F.args_zip_next_1 _))))
  show wpAny _ _ (field (.ref z) 2 >>= _) _ _ _
  refine wpAny_bind (wpAny_field (s := upd s h t) hz rfl (x := .bool false) rfl ?_)
  show wpAny _ _ (field (.ref z) 3 >>= _) _ _ _
  refine wpAny_bind (wpAny_field (s := upd s h t) hz rfl (x := .ref TI) rfl ?_)
  refine wpAny_bind (wpAny_seqItems (s := upd s h t) hTI rfl ?_)
  show wpAny _ _ (Builtin.SmallTypes.ownedTupleIsFree (.ref z) >>= _) _ _ _
  refine wpAny_bind ?_
  unfold Builtin.SmallTypes.ownedTupleIsFree
  refine wpAny_bind (wpAny_field (s := upd s h t) hz rfl (x := .none) rfl (wpAny_pure ?_))
  simp only [if_true]
  refine wpAny_bind (wpAny_rule ?_)
  refine wpAny_bind (wpAny_field (s := upd s h t) hz rfl (x := .ref TO) rfl ?_)
  refine wpAny_bind (wpAny_setField_rec (s := upd s h t) hz (by simp) fun h₁ hz₁ s₁ => ?_)
  replace hz₁ : IsZip h₁ z TI TO .ellipsis := hz₁
  refine wpAny_bind ?_
  simp only [List.zipIdx_cons, List.zipIdx_nil, List.forIn_cons, List.forIn_nil]
  refine wpAny_bind (wpAny_bind (wpAny_onRaise ?_))
  show wpAny _ _ (Builtin.SmallTypes.nextOf (.ref i1) >>= _) _ _ _
  refine wpAny_bind (nextOf_tuple_end (s := upd s h₁ t) hh (tupIter_at h1 fun o e => sup s₁ D.i1z e) (let ⟨o, e, r⟩ := hl1; ⟨o, sup s₁ D.l1z e, r⟩) hx fun h₂ e s₂ he => ?_)
  obtain ⟨oe, hoe, hce⟩ := he
  have hz₂ : IsZip h₂ z TI TO .ellipsis := s₂ _ _ D.i1z.symm hz₁
  have hez : e ≠ z := fun x => by subst x; rw [hz₂] at hoe; cases hoe; simp at hce
  refine wpAny_setField_rec hz₂ (by simp) fun h₃ _ s₃ => ?_
  refine wpAny_bind (wpAny_isInstance (T := "StopIteration") (b := true) ⟨oe, sup s₃ hez hoe, hce⟩ isSubtype_stop ?_)
  exact wpAny_pure (q h₃ fun c o n e' => by
    simp only [List.mem_cons, List.not_mem_nil, or_false, not_or] at n
    exact sup s₃ n.1 (s₂ _ _ n.2.2.1 (sup s₁ n.1 e')))
end
end Rg
end
section
/-! zip: the iterator, its making -/
open PySem PySem.W PyProof.Rows PySem.Calls
set_option autoImplicit false
set_option maxRecDepth 100000
namespace Rg
def pZ (TI TO : Addr) : Obj → Prop := fun o => o = { cls := .type "zip", dict := none, data := .fields #[.none, .bool false, .bool false, .ref TI, .ref TO], slots := #[] }
def pPr : Obj → Prop := fun o => ∃ a b, o = { cls := .type "tuple", data := .seq #[a, b] }
def pP2 (a b : Value) : Obj → Prop := fun o => o = { cls := .type "tuple", data := .seq #[a, b] }
def VZ (z TI TO i1 i2 l1 l2 : Addr) : Nat → Vol := fun i => [(z, pZ TI TO), (TO, pPr), (i1, pTI l1 i), (i2, pTI l2 i), (TI, pP2 (.ref i1) (.ref i2))]
theorem zp_of {h : Heap} {z TI TO i1 i2 l1 l2 : Addr} {i : Nat} (v : Vat h (VZ z TI TO i1 i2 l1 l2 i)) : Zp h z TI TO i1 i2 l1 l2 i := by
  obtain ⟨o1, e1, rfl⟩ := v (z, pZ TI TO) (by simp [VZ])
  obtain ⟨o2, e2, a, b, rfl⟩ := v (TO, pPr) (by simp [VZ])
  have h3 := v (i1, pTI l1 i) (by simp [VZ])
  have h4 := v (i2, pTI l2 i) (by simp [VZ])
  obtain ⟨o5, e5, rfl⟩ := v (TI, pP2 (.ref i1) (.ref i2)) (by simp [VZ])
  exact ⟨e1, e5, ⟨a, b, e2⟩, h3, h4⟩
theorem zp_to {h : Heap} {z TI TO i1 i2 l1 l2 : Addr} {i : Nat} (Z : Zp h z TI TO i1 i2 l1 l2 i) : Vat h (VZ z TI TO i1 i2 l1 l2 i) := by
  obtain ⟨a, b, e⟩ := Z.to
  intro p hp
  simp only [VZ, List.mem_cons, List.not_mem_nil, or_false] at hp
  rcases hp with rfl | rfl | rfl | rfl | rfl
  · exact ⟨_, Z.z, rfl⟩
  · exact ⟨_, e, a, b, rfl⟩
  · exact Z.a1
  · exact Z.a2
  · exact ⟨_, Z.ti, rfl⟩
theorem ItR.zip {w : World} {A : Around} {z TI TO i1 i2 l1 l2 : Addr} {xs ys : Array Value} {g : Heap} {elts : List Expr} {k : Nat} {pos : Pos} (hh : A.handled = none) (D : ZipApart z TI TO i1 i2 l1 l2) (hl1 : IsTup g l1 xs) (hl2 : IsTup g l2 ys) (hle : xs.size ≤ ys.size) :
    ItR w A z xs.size g (fun i v h => ∃ T x y, v = .ref T ∧ xs[i]? = some x ∧ ys[i]? = some y ∧ IsTup h T #[x, y]) (VZ z TI TO i1 i2 l1 l2) (.Tuple elts k pos) where
  adr := fun _ => rfl
  item := fun i s h t Q E hi hv kg q => by
    have Z := zp_of hv
    refine zip_item D Z (isTup_le hl1 kg) (isTup_le hl2 kg) (Array.getElem?_eq_getElem hi) (Array.getElem?_eq_getElem (Nat.lt_of_lt_of_le hi hle)) fun T h' b1 b2 b3 b4 b5 b6 kX => ?_
    have zT : z ≠ T := b6 z _ Z.z
    refine wpAny_letOwnedTupleGo_zip (s := upd s h' t) b1 fun h'' hz'' sb => ?_
    refine q (.ref T) h'' t ⟨T, _, _, rfl, Array.getElem?_eq_getElem hi, Array.getElem?_eq_getElem (Nat.lt_of_lt_of_le hi hle), _, sup sb zT.symm b5, rfl, 0, rfl⟩ (zp_to ⟨hz'', ?_, ⟨_, _, sup sb D.TOz b2⟩, tupIter_at b3 fun o e => sup sb D.i1z e, tupIter_at b4 fun o e => sup sb D.i2z e⟩) fun b o n e => ?_
    · exact sup sb D.TIz (kX _ _ (by simp [D.TIz, D.TITO, D.TIi1, D.TIi2]) Z.ti)
    · simp only [VZ, List.map_cons, List.map_nil, List.mem_cons, List.not_mem_nil, or_false, not_or] at n
      exact sup sb n.1 (kX b o (by simp [n]) e)
  done := fun s h t N E hv kg q => by
    refine zip_end (xs := xs) hh D (zp_of hv) (isTup_le hl1 kg) (by simp) fun h' kX => q h' t fun b o n e => kX b o ?_ e
    simp only [VZ, List.map_cons, List.map_nil, List.mem_cons, List.not_mem_nil, or_false, not_or] at n
    simp [n]
  self := fun i s h t Q E hv _ q => wpAny_pyIter_zip (s := upd s h t) (zp_of hv).z q
abbrev tz1 (h : Heap) (l1 : Addr) : Heap := h.push { cls := .type "tuple_iterator", data := .fields #[.ref l1, .int 0 0] }
abbrev tz2 (h : Heap) (l1 l2 : Addr) : Heap := (tz1 h l1).push { cls := .type "tuple_iterator", data := .fields #[.ref l2, .int 0 0] }
abbrev tz3 (h : Heap) (l1 l2 : Addr) : Heap := (tz2 h l1 l2).push { cls := .type "tuple", data := .seq #[.ref h.objs.size, .ref (tz1 h l1).objs.size] }
abbrev tz4 (h : Heap) (l1 l2 : Addr) : Heap := (tz3 h l1 l2).push { cls := .type "tuple", data := .seq #[.none, .none] }
abbrev tz5 (h : Heap) (l1 l2 : Addr) : Heap := (tz4 h l1 l2).push { cls := .type "zip", data := .fields #[.none, .bool false, .bool false, .ref (tz2 h l1 l2).objs.size, .ref (tz3 h l1 l2).objs.size] }
theorem meets_zip_newT (l1 l2 : Addr) (xs ys : Array Value) (n1 n2 : Nat) (d1 d2 : Option Addr) (sl1 sl2 : Array (Option Value)) :
    Meets (Builtin.«zip.__new__» ⟨[.type "zip", .ref l1, .ref l2], []⟩) (fun _ R s => s.heap.get? l1 = some { cls := .type "tuple", dict := d1, data := .seq xs n1, slots := sl1 } ∧ s.heap.get? l2 = some { cls := .type "tuple", dict := d2, data := .seq ys n2, slots := sl2 } ∧
      R (.ok (.ret (.ref (tz4 s.heap l1 l2).objs.size))) { s with heap := tz5 s.heap l1 l2 }) :=
  .of_wp fun prog w A R s h => by
    obtain ⟨hp, g, d, tk, os⟩ := s; obtain ⟨hl1, hl2, h⟩ := h
    have hsub := PySem.sub_zip
    have hL1 : Heap.IsTuple (Shared.heap ⟨hp, g, d, tk, os⟩) l1 xs := ⟨_, hl1, rfl, n1, rfl⟩
    have hL2 : Heap.IsTuple (Shared.heap ⟨hp.push { cls := .type "tuple_iterator", data := .fields #[.ref l1, .int 0 0] }, g, d, tk, os⟩) l2 ys := ⟨_, Heap.get?_push_of_some _ hl2, rfl, n2, rfl⟩
    wp_walk using wpAny_pyIter_tuple hL1, wpAny_pyIter_tuple hL2
    exact ⟨_, rfl, h⟩
section
variable {w : World} {mg mb : Str → Option Value} {A : Around} {E : Value → Shared → Prop} {s : Shared} {h g : Heap} {t : Nat} {vol : Vol} {names : List (Str × NameKind)} {env : Env}
  {c : Cx} {L : Addr} {cl : List (Str × Addr)} {m cm : Str → Option Value} {Q : Value → Shared → Prop}
/-- a fresh volatile object, h grown by pushes -/
theorem Frm.vnew {a : Addr} {p : Obj → Prop} (F : Frm c L cl m cm vol g h) (e : At h a p) (hg : g.get? a = none) (ha : ∀ b ∈ L :: cl.map (·.2) ++ vol.map (·.1), b ≠ a) (hX : c.h₀.objs.size ≤ a) : Frm c L cl m cm ((a, p) :: vol) g h :=
  F.vadd e hg (Ne.symm (ha L (by simp))) (fun n b q => ha b (by simp; exact .inr (.inl ⟨n, q⟩))) (fun q hq => ha q.1 (by simp; exact .inr (.inr ⟨q.2, hq⟩))) (.inr hX)
theorem Frm.lives (F : Frm c L cl m cm vol g h) : ∀ b ∈ L :: cl.map (·.2) ++ vol.map (·.1), b < h.objs.size := by
  intro b hb
  rcases List.mem_append.mp hb with hb | hb
  · rcases List.mem_cons.mp hb with rfl | hb
    · exact F.ns.lt
    · obtain ⟨p, hp, rfl⟩ := List.mem_map.mp hb; exact F.clt hp
  · obtain ⟨p, hp, rfl⟩ := List.mem_map.mp hb; exact F.vlt p hp
theorem mkZip {l1 l2 : Addr} {xs ys : Array Value} (F : Frm c L cl m cm vol g h) (hl1 : IsTup g l1 xs) (hl2 : IsTup g l2 ys)
    (q : ∀ z TI TO i1 i2 h', ZipApart z TI TO i1 i2 l1 l2 → Frm c L cl m cm (VZ z TI TO i1 i2 l1 l2 0 ++ vol) g h' → Q (.ref z) (upd s h' t)) : wpAny (model PR w) A (call (.type "zip") [.ref l1, .ref l2]) Q E (upd s h t) := by
  obtain ⟨⟨c1, d1, dt1, sl1⟩, e1, hc1, n1, hd1⟩ := isTup_le hl1 F.keep
  obtain ⟨⟨c2, d2, dt2, sl2⟩, e2, hc2, n2, hd2⟩ := isTup_le hl2 F.keep
  replace hc1 : c1 = .type "tuple" := hc1
  replace hd1 : dt1 = .seq xs n1 := hd1
  replace hc2 : c2 = .type "tuple" := hc2
  replace hd2 : dt2 = .seq ys n2 := hd2
  subst hc1 hd1 hc2 hd2
  refine callType_new PySem.F.called_zip (by decide) (PySem.F.typeCall_zip_2 _ _) (PySem.F.newCall_zip_2 _ _) (fun obj => PySem.F.args_object_init_3 obj _ _) PySem.F.entry_zip_new (meets_zip_newT l1 l2 xs ys n1 n2 d1 d2 sl1 sl2) ⟨e1, e2, ?_⟩
  have z1 : (tz1 h l1).objs.size = h.objs.size + 1 := Heap.size_push ..
  have z2 : (tz2 h l1 l2).objs.size = h.objs.size + 2 := by rw [Heap.size_push, z1]
  have z3 : (tz3 h l1 l2).objs.size = h.objs.size + 3 := by rw [Heap.size_push, z2]
  have z4 : (tz4 h l1 l2).objs.size = h.objs.size + 4 := by rw [Heap.size_push, z3]
  have g5 : (tz5 h l1 l2).get? (tz4 h l1 l2).objs.size = some _ := Heap.get?_push_size _ rfl
  have g4 : (tz5 h l1 l2).get? (tz3 h l1 l2).objs.size = some _ := Heap.get?_push_of_some _ (Heap.get?_push_size _ rfl)
  have g3 : (tz5 h l1 l2).get? (tz2 h l1 l2).objs.size = some _ := Heap.get?_push_of_some _ (Heap.get?_push_of_some _ (Heap.get?_push_size _ rfl))
  have g2 : (tz5 h l1 l2).get? (tz1 h l1).objs.size = some _ := Heap.get?_push_of_some _ (Heap.get?_push_of_some _ (Heap.get?_push_of_some _ (Heap.get?_push_size _ rfl)))
  have g1 : (tz5 h l1 l2).get? h.objs.size = some _ := Heap.get?_push_of_some _ (Heap.get?_push_of_some _ (Heap.get?_push_of_some _ (Heap.get?_push_of_some _ (Heap.get?_push_size _ rfl))))
  have hk : Le h (tz5 h l1 l2) := (Le.push _ _).trans ((Le.push _ _).trans ((Le.push _ _).trans ((Le.push _ _).trans (Le.push _ _))))
  have lt1 : l1 < h.objs.size := Heap.lt_size e1
  have lt2 : l2 < h.objs.size := Heap.lt_size e2
  show _ ∧ _
  refine ⟨⟨_, g5, rfl⟩, ?_⟩
  rw [z2, z3, z4] at g5
  rw [z1, z2] at g3
  rw [z3] at g4
  rw [z1] at g2
  rw [z4]
  have gn : ∀ k, g.get? (h.objs.size + k) = none := fun k => none_of_le F.keep (none_of_ge (Nat.le_add_right _ _))
  have aL : ∀ k, h.objs.size + k ≠ L := fun k => Nat.ne_of_gt (Nat.lt_of_lt_of_le F.ns.lt (Nat.le_add_right _ _))
  have aC : ∀ k n b, (n, b) ∈ cl → b ≠ h.objs.size + k := fun k n b q => Nat.ne_of_lt (Nat.lt_of_lt_of_le (F.clt q) (Nat.le_add_right _ _))
  have aV : ∀ k, ∀ q ∈ vol, q.1 ≠ h.objs.size + k := fun k q hq => Nat.ne_of_lt (Nat.lt_of_lt_of_le (F.vlt q hq) (Nat.le_add_right _ _))
  have aX : ∀ k, h.objs.size + k ∈ c.X ∨ c.h₀.objs.size ≤ h.objs.size + k := fun k => .inr (Nat.le_trans F.sz (Nat.le_add_right _ _))
  have F1 := (F.ext hk).vadd (a := h.objs.size + 2) (p := pP2 (.ref (h.objs.size + 0)) (.ref (h.objs.size + 1))) ⟨_, g3, rfl⟩ (gn 2) (aL 2) (aC 2) (aV 2) (aX 2)
  have F2 := F1.vadd (a := h.objs.size + 1) (p := pTI l2 0) ⟨_, g2, rfl, rfl⟩ (gn 1) (aL 1) (aC 1) (List.forall_mem_cons.mpr ⟨by simp, aV 1⟩) (aX 1)
  have F3 := F2.vadd (a := h.objs.size + 0) (p := pTI l1 0) ⟨_, g1, rfl, rfl⟩ (gn 0) (aL 0) (aC 0) (List.forall_mem_cons.mpr ⟨by simp, List.forall_mem_cons.mpr ⟨by simp, aV 0⟩⟩) (aX 0)
  have F4 := F3.vadd (a := h.objs.size + 3) (p := pPr) ⟨_, g4, _, _, rfl⟩ (gn 3) (aL 3) (aC 3) (List.forall_mem_cons.mpr ⟨by simp, List.forall_mem_cons.mpr ⟨by simp, List.forall_mem_cons.mpr ⟨by simp, aV 3⟩⟩⟩) (aX 3)
  have F5 := F4.vadd (a := h.objs.size + 4) (p := pZ (h.objs.size + 2) (h.objs.size + 3)) ⟨_, g5, rfl⟩ (gn 4) (aL 4) (aC 4) (List.forall_mem_cons.mpr ⟨by simp, List.forall_mem_cons.mpr ⟨by simp, List.forall_mem_cons.mpr ⟨by simp, List.forall_mem_cons.mpr ⟨by simp, aV 4⟩⟩⟩⟩) (aX 4)
  have nl : ∀ k, l1 ≠ h.objs.size + k := fun k => Nat.ne_of_lt (Nat.lt_of_lt_of_le lt1 (Nat.le_add_right _ _))
  have nm : ∀ k, l2 ≠ h.objs.size + k := fun k => Nat.ne_of_lt (Nat.lt_of_lt_of_le lt2 (Nat.le_add_right _ _))
  exact q (h.objs.size + 4) (h.objs.size + 2) (h.objs.size + 3) (h.objs.size + 0) (h.objs.size + 1) _
    ⟨by simp, by simp, by simp, by simp, by simp, by simp, by simp, by simp, by simp, by simp, nl 4, nl 3, nl 0, nl 1, nm 4, nm 3, nm 0, nm 1⟩ F5
end
end Rg
end
section
/-! comparing terms -/
open PySem PySem.W PyProof.Rows PySem.Calls PySem.SeqAt
set_option autoImplicit false
set_option maxRecDepth 100000
namespace Rg
theorem all_tt (n : Nat) : ((List.range n).all fun _ => true) = true := by rw [List.all_eq_true]; intros; rfl
theorem eqAt_of {A : Around} {s : Shared} {v v' : Value} {a b : Addr} (ha : v = .ref a) (hb : v' = .ref b) (h : RcAt A s v v' true) : EqAt A s v v' true := by
  subst ha hb
  by_cases e : a = b
  · subst e; exact EqAt.same _
  · exact EqAt.of_refs e h
theorem rc_tm : ∀ {n : Nat} {t : Tm}, t.Dp n → ∀ {A : Around} {s : Shared} {v v' : Value}, A.units + n < cLine → IsTm s.heap v t → IsTm s.heap v' t → RcAt A s v v' true
  | 0, _, hd, _, _, _, _, _, _, _ => hd.elim
  | n + 1, .node op ks, ⟨_, _, _, d4⟩, A, s, v, v', hu, x, y => by
    obtain ⟨a, tk, vs, rfl, ht, hl, hk⟩ := x.inv
    obtain ⟨a', tk', vs', rfl, ht', hl', hk'⟩ := y.inv
    have := RcAt.tuples (A := A) (e := fun _ => true) ht ht' (by omega) (fun j h1 h2 => ?_)
    · rw [all_tt] at this
      have hz : ((Value.str op tk :: vs).toArray.size == (Value.str op tk' :: vs').toArray.size) = true := by simp [hl, hl']
      rw [hz] at this
      exact this
    · cases j with
      | zero =>
        have := eqAt_str (A := A.in1) (s := s) op op tk tk'
        simpa using this
      | succ j =>
        have hj : j < vs.length := by simp at h1; omega
        have hj' : j < vs'.length := by simp at h2; omega
        have hjk : j < ks.length := by omega
        have e1 := hk j vs[j] _ (List.getElem?_eq_getElem hj) (List.getElem?_eq_getElem hjk)
        have e2 := hk' j vs'[j] _ (List.getElem?_eq_getElem hj') (List.getElem?_eq_getElem hjk)
        have rc := rc_tm (d4 _ (List.getElem_mem hjk)) (A := A.in1) (s := s) (by show A.units + 1 + n < cLine; omega) e1 e2
        have g1 : (Value.str op tk :: vs).toArray[j + 1] = vs[j] := by simp
        have g2 : (Value.str op tk' :: vs').toArray[j + 1] = vs'[j] := by simp
        rw [g1, g2]
        cases hks : ks[j] with
        | node op2 ks2 =>
        rw [hks] at e1 e2
        obtain ⟨_, _, _, r1, _⟩ := e1.inv
        obtain ⟨_, _, _, r2, _⟩ := e2.inv
        exact eqAt_of r1 r2 rc
theorem eq_tm {n : Nat} {t : Tm} (hd : t.Dp n) {A : Around} {s : Shared} {v v' : Value} (hu : A.units + n < cLine) (x : IsTm s.heap v t) (y : IsTm s.heap v' t) : EqAt A s v v' true := by
  have rc := rc_tm hd hu x y
  cases t with
  | node op ks =>
  obtain ⟨_, _, _, r1, _⟩ := x.inv
  obtain ⟨_, _, _, r2, _⟩ := y.inv
  exact eqAt_of r1 r2 rc
section
variable {w : World} {A : Around} {E : Value → Shared → Prop} {s : Shared} {h g : Heap} {t : Nat} {Q : Value → Shared → Prop}
theorem cEqTm {n : Nat} {tm : Tm} {v v' : Value} (hd : tm.Dp n) (hu : A.units + n < cLine) (x : IsTm h v tm) (y : IsTm h v' tm) (q : Q (.bool true) (upd s h t)) : wpAny (model PR w) A (compareOp .Eq v v') Q E (upd s h t) :=
  rc_tm hd (s := upd s h t) hu x y PR w E Q q
/-- two pairs of terms, alike -/
theorem cNePair {n : Nat} {t1 t2 : Tm} {a b : Addr} {v1 v2 u1 u2 : Value} (d1 : t1.Dp n) (d2 : t2.Dp n) (hu : A.units + 1 + n < cLine) (ha : IsTup h a #[v1, v2]) (hb : IsTup h b #[u1, u2]) (x1 : IsTm h v1 t1) (y1 : IsTm h u1 t1) (x2 : IsTm h v2 t2) (y2 : IsTm h u2 t2)
    (q : Q (.bool false) (upd s h t)) : wpAny (model PR w) A (compareOp .NotEq (.ref a) (.ref b)) Q E (upd s h t) := by
  have := RcNeAt.tuples (A := A) (s := upd s h t) (e := fun _ => true) ha hb (by omega) (fun j h1 h2 => ?_)
  · have hz : ((#[v1, v2] : Array Value).size == (#[u1, u2] : Array Value).size) = true := rfl
    rw [all_tt, hz] at this
    exact this PR w E Q q
  · match j, h1, h2 with
    | 0, _, _ => exact eq_tm d1 (A := A.in1) (s := upd s h t) hu x1 y1
    | 1, _, _ => exact eq_tm d2 (A := A.in1) (s := upd s h t) hu x2 y2
    | j + 2, h1, _ => exact absurd h1 (by simp)
theorem cEqNil {l b : Addr} (hl : h.IsList l (([] : List Value)).toArray) (hb : h.IsList b (([] : List Value)).toArray) (hu : A.units < cLine) (q : Q (.bool true) (upd s h t)) : wpAny (model PR w) A (compareOp .Eq (.ref l) (.ref b)) Q E (upd s h t) :=
  cEqLS hl hb .nil .nil hu q
theorem cNeNil {l b : Addr} (hl : h.IsList l (([] : List Value)).toArray) (hb : h.IsList b (([] : List Value)).toArray) (hu : A.units < cLine) (q : Q (.bool false) (upd s h t)) : wpAny (model PR w) A (compareOp .NotEq (.ref l) (.ref b)) Q E (upd s h t) :=
  cNeLS hl hb .nil .nil hu q
end
end Rg
end
section
/-! _law_is_read, of what it should read -/
open PySem PySem.W PyProof.Rows PySem.Calls
set_option autoImplicit false
set_option maxRecDepth 100000
namespace Rg
def ReadSpec (w : World) (mg mb : Str → Option Value) (H0 : Heap) (ns : List Str) (n : Nat) : Prop :=
  ∀ {A : Around} {E : Value → Shared → Prop} {s : Shared} {h g : Heap} {t : Nat} {Q : Value → Shared → Prop} {pv tv : Value} {tm : Tm} {d : Addr} {kvs : List (Str × Value)} {σ : Str → Tm},
    Amb A (n + 1) (3 * n + 30) → Pre w mg mb H0 g h → IsTm g pv tm → tm.Gd ns n → IsTm g tv (tm.pl σ) → At g d (pD w kvs) → (∀ x ∈ tm.vs, ∃ u, valueAt kvs x = some u ∧ IsTm g u (σ x)) → (∀ x, (σ x).Dp 3) →
    (∀ h' t', Le h h' → Q (.bool true) (upd s h' t')) →
    wpAny (model PR w) A (call (.ref 268) [pv, tv, .ref d]) Q E (upd s h t)
section
variable {w : World} {mg mb : Str → Option Value} {H0 : Heap}
theorem read_step {ns : List Str} (hns : ∀ x ∈ ns, x ∈ vns) (n : Nat) (ih : ReadSpec w mg mb H0 ns n) : ReadSpec w mg mb H0 ns (n + 1) := by
  intro A E s h g t Q pv tv tm d kvs σ am P hv hd htv hD hσ hσd q
  cases tm with
  | node op kids =>
  have hdp := hd.dp hns
  obtain ⟨a, tk, vs, rfl, ht, hl, hk⟩ := hv.inv
  obtain ⟨d1, d2, d3, _⟩ := hdp
  obtain ⟨e1, e2, e3⟩ := id hd
  refine enter (D_isread w.params) P (X := []) (vol := []) am.room (A_isread _ _ _ _) (by rfl) (by decide) (by simp) (by simp) fun env L h₁ t₁ E' hL EF F => ?_
  have hsz : (Value.str op tk :: vs).toArray.size = kids.length + 1 := by rw [List.size_toArray, List.length_cons, hl]
  have h0 : seqIndex? 0 (Value.str op tk :: vs).toArray.size = some 0 := by rw [hsz]; simp [seqIndex?]; try omega
  obtain ⟨ch, hch, hq⟩ := first_isQ d2
  refine wpAny_execs_cons (wpAny_If (wpAny_isTrue_Compare1 ?_))
  refine Subscript_ (Subscript_ (ldL EF F rfl rfl (eInt fun k1 t2 => tGet (isTup_le ht F.keep) (by decide) (by decide) (j := 0) h0 (x := .str op tk) (by simp) ?_)))
  refine eInt fun k2 t3 => sGet (j := 0) (by simp [seqIndex?]; omega) hch (by decide) (by decide) fun t4 k3 => eStr fun k4 t5 => cEqS (tru ?_)
  rw [hq]
  cases hiq : isQ op with
  | true =>
    rw [if_pos rfl]
    have hop : op ∈ ns ∧ kids = [] := e2.resolve_right fun b => by rw [(gops_len b).2] at hiq; cases hiq
    have hiv : (kids.isEmpty && isQ op) = true := by rw [hop.2, hiq]; rfl
    have hpl : (Tm.node op kids).pl σ = σ op := by rw [Tm.pl, if_pos hiv]
    obtain ⟨u, u1, u2⟩ := hσ op (by rw [Tm.vs, if_pos hiv]; exact .head _)
    rw [hpl] at htv
    refine wpAny_execs_cons (wpAny_Return_some (wpAny_Compare1 (ldL EF F rfl rfl (Subscript_ (ldC EF F rfl rfl rfl (Subscript_ (ldL EF F rfl rfl (eInt fun k1 t2 => tGet (isTup_le ht F.keep) (by decide) (by decide) (j := 0) h0 (x := .str op tk) (by simp) ?_))))))))
    refine dGet (hD.le F.keep) u1 fun t6 => ?_
    refine cEqTm (hσd op) (by have := am.deeper (env := env).units; omega) (htv.le F.keep) (u2.le F.keep) ?_
    exact q _ _ F.old.le
  | false =>
    rw [if_neg Bool.false_ne_true]
    have hiv : (kids.isEmpty && isQ op) = false := by rw [hiq, Bool.and_false]
    have hpl : (Tm.node op kids).pl σ = .node op (kids.map (Tm.pl σ)) := by rw [Tm.pl, if_neg (by rw [hiv]; decide), plL_eq]
    have hvs : ∀ k ∈ kids, ∀ x ∈ k.vs, x ∈ (Tm.node op kids).vs := fun k hk x hx => by
      rw [Tm.vs, if_neg (by rw [hiv]; decide), vsL_eq]
      exact List.mem_flatMap.mpr ⟨k, hk, hx⟩
    rw [hpl] at htv
    obtain ⟨b, tkb, ts, rfl, hb, hlb, hkb⟩ := htv.inv
    have hszb : (Value.str op tkb :: ts).toArray.size = kids.length + 1 := by rw [List.size_toArray, List.length_cons, hlb, List.length_map]
    have h0b : seqIndex? 0 (Value.str op tkb :: ts).toArray.size = some 0 := by rw [hszb]; simp [seqIndex?]; try omega
    refine wpAny_execs_nil ?_
    refine wpAny_execs_cons (wpAny_If (isTrue_or (wpAny_isTrue_Compare1 ?_)))
    refine Subscript_ (ldL EF F rfl rfl (eInt fun k1 t2 => tGet (isTup_le hb F.keep) (by decide) (by decide) (j := 0) h0b (x := .str op tkb) (by simp) ?_))
    refine Subscript_ (ldL EF F rfl rfl (eInt fun k1 t2 => tGet (isTup_le ht F.keep) (by decide) (by decide) (j := 0) h0 (x := .str op tk) (by simp) ?_))
    refine cNeS (tru ?_)
    rw [bne_self_eq_false, if_neg Bool.false_ne_true]
    refine isTrue_or (wpAny_isTrue_Compare1 ?_)
    refine callBlt P.B EF F rfl (G0_len _) (by boot_by_name) (spl (ldL EF F rfl rfl (spl0 (tLen (isTup_le hb F.keep) (by omega) fun k1 t2 => ?_))))
    refine callBlt P.B EF F rfl (G0_len _) (by boot_by_name) (spl (ldL EF F rfl rfl (spl0 (tLen (isTup_le ht F.keep) (by omega) fun k1 t2 => cNe (tru ?_)))))
    rw [hszb, hsz, bne_self_eq_false, if_neg Bool.false_ne_true]
    refine isTrue_or_nil ?_
    rw [if_neg Bool.false_ne_true]
    refine wpAny_execs_nil ?_
    refine wpAny_execs_cons (wpAny_Return_some (wpAny_Compare1 (lc_open EF ?_)))
    refine callTy P.B EF F rfl (G0_zip _) (by boot_by_name) (spl (Subscript_ (ldL EF F rfl rfl ?_)))
    refine tFrom (i := 1) F ht rfl (by omega) (by omega) (by omega) fun b1 g₆ h₆ t₆ k6 htb F6 => ?_
    have htb' : IsTup g₆ b1 vs.toArray := by simpa using htb
    refine spl (Subscript_ (ldL EF F6 rfl rfl ?_))
    refine tFrom (i := 1) F6 (isTup_le hb k6) rfl (by omega) (by omega) (by omega) fun b2 g₇ h₇ t₇ k7 htc F7 => ?_
    have htc' : IsTup g₇ b2 ts.toArray := by simpa using htc
    refine spl0 (mkZip F7 (isTup_le htb' k7) htc' fun z TI TO i1 i2 h₈ D F8 => ?_)
    have hle : vs.toArray.size ≤ ts.toArray.size := by rw [List.size_toArray, List.size_toArray, hlb, List.length_map]; omega
    refine wpAny_pyIter_zip (s := upd s h₈ t₇) (zp_of (i := 0) (l1 := b1) (l2 := b2) fun p hp => F8.vat p (List.mem_append_left _ hp)).z ?_
    refine lc_close (n := vs.toArray.size) (vx := []) (vr := []) EF F8 (ItR.zip am.deeper.handled D (isTup_le htb' k7) htc' hle) (by rw [List.size_toArray]; omega) (fun i ys g' vx' => vx' = [] ∧ ys = []) ?_ ?_ ?_ ?_
    · exact ⟨rfl, rfl⟩
    · rintro _ _ _ _ ⟨rfl, _⟩; rfl
    · rintro C D' cenv i ys g₁ vx' mC h' t' v hi' ⟨rfl, rfl⟩ EC kg₁ FC ⟨T, x, y, rfl, hx, hy, hT⟩
      have hi : i < vs.length := by simpa using hi'
      have hik : i < kids.length := by omega
      have hx' : vs[i]? = some x := by simpa using hx
      have hy' : ts[i]? = some y := by simpa using hy
      have hgl : Le g g₁ := k6.trans (k7.trans kg₁)
      have hxt : IsTm g₁ x kids[i] := (hk i x _ hx' (List.getElem?_eq_getElem hik)).le hgl
      have hyt : IsTm g₁ y (kids[i].pl σ) := (hkb i y _ hy' (by rw [List.getElem?_map, List.getElem?_eq_getElem hik]; rfl)).le hgl
      refine asgP2 am.deeper.handled FC hT fun hA FA kA => ?_
      refine asgN EC FA rfl fun hB tB FB => asgN EC FB rfl fun hC tC FC' => tests1 (isTrue_not (isTrue_plain ?_))
      refine callDef P.B EC FC' rfl (G_law_is_read _) (D_isread _) (spl (ldL EC FC' rfl rfl (spl (ldL EC FC' rfl rfl (spl (ldC EC FC' rfl rfl rfl (spl0 ⟨FC'.H, ?_⟩)))))))
      refine ih am.deeper (FC'.pre P.B) hxt (e3 _ (List.getElem_mem hik)) hyt (hD.le hgl) (fun x hx => ?_) hσd fun h₉ t₉ k₉ => tru ?_
      · obtain ⟨u, e1, e2⟩ := hσ x (hvs _ (List.getElem_mem hik) x hx)
        exact ⟨u, e1, e2.le hgl⟩
      · rw [Bool.not_true, if_neg Bool.false_ne_true]
        exact ⟨h₉, t₉, g₁, [], _, rfl, FC'.ext k₉, rfl, rfl⟩
    · rintro D' ys g₁ gg vx' hh tt Ff kk1 kk2 hl' ⟨rfl, rfl⟩
      refine eList (spl0 (mkList Ff (by simp) fun D2 h₉ hD2 F9 => ?_))
      refine cEqNil (isList_le hl' F9.keep) (F9.vat _ (.head _)) am.deeper.hu ?_
      exact q _ _ F9.old.le
theorem read_spec {ns : List Str} (hns : ∀ x ∈ ns, x ∈ vns) : ∀ n : Nat, ReadSpec w mg mb H0 ns n
  | 0 => fun _ _ _ hd => hd.elim
  | n + 1 => read_step hns n (fun {A E s h g t Q pv tv tm d kvs σ} => read_spec hns n)
end
end Rg
end
section
/-! instances: attributes -/
open PySem PySem.W PyProof.Rows PySem.Calls
set_option autoImplicit false
set_option maxRecDepth 100000
namespace Rg
/-- entries of texts' keys -/
def Ents (es : List DictEntry) (kvs : List (Str × Value)) : Prop := (∀ e ∈ es, ∃ k tk, e.key = .str k tk) ∧ (∀ name, (es.find? (·.key.isStr name)).map (·.val) = kvs.lookup name) ∧ es.length ≤ kvs.length
theorem Ents.get {es : List DictEntry} {kvs : List (Str × Value)} (x : Ents es kvs) (name : Str) : getL name es = some (kvs.lookup name) := by
  unfold getL
  rw [← x.2.1 name]
  cases q : es.find? (·.key.isStr name) with
  | some e => rfl
  | none =>
    dsimp only
    rw [if_neg]
    · rfl
    · intro h
      obtain ⟨e, he, hr⟩ := List.any_eq_true.mp h
      obtain ⟨k, tk, hk⟩ := x.1 e he
      unfold DictEntry.refKey at hr
      rw [hk] at hr
      cases hr
theorem isStr_str (k : Str) (tk : Tok) (n : Str) : (Value.str k tk).isStr n = (k == n) := rfl
theorem putL_keys (name : Str) (hs : Int) (tk : Tok) (v : Value) : ∀ es : List DictEntry, (∀ e ∈ es, ∃ k tk, e.key = .str k tk) → ∀ e ∈ putL name hs (.str name tk) v es, ∃ k tk, e.key = .str k tk
  | [], _, e, he => by
    rw [List.mem_singleton.mp he]; exact ⟨name, tk, rfl⟩
  | x :: r, h, e, he => by
    unfold putL at he
    split at he
    · rcases List.mem_cons.mp he with rfl | he
      · exact h x (.head _)
      · exact h e (.tail _ he)
    · rcases List.mem_cons.mp he with rfl | he
      · exact h e (.head _)
      · exact putL_keys name hs tk v r (fun y hy => h y (.tail _ hy)) e he
theorem putL_get (name : Str) (hs : Int) (tk : Tok) (v : Value) (n : Str) : ∀ es : List DictEntry, (∀ e ∈ es, ∃ k tk, e.key = .str k tk) → ((putL name hs (.str name tk) v es).find? (·.key.isStr n)).map (·.val) = if n = name then some v else (es.find? (·.key.isStr n)).map (·.val)
  | [], _ => by
    unfold putL
    rw [List.find?_cons, isStr_str]
    by_cases e : n = name
    · subst e; simp [beq_self_eq_true]
    · rw [if_neg e, show (name == n) = false from beq_eq_false_iff_ne.mpr (Ne.symm e)]
  | x :: r, h => by
    obtain ⟨k, tk', hk⟩ := h x (.head _)
    have ih := putL_get name hs tk v n r fun y hy => h y (.tail _ hy)
    unfold putL
    by_cases e : k = name
    · subst e
      rw [if_pos (by rw [hk, isStr_str]; exact beq_self_eq_true _), List.find?_cons, List.find?_cons]
      dsimp only
      rw [hk, isStr_str]
      by_cases en : n = k
      · subst en; simp
      · rw [if_neg en, show (k == n) = false from beq_eq_false_iff_ne.mpr (Ne.symm en)]
    · rw [if_neg (by rw [hk, isStr_str]; exact fun q => e (beq_iff_eq.mp q)), List.find?_cons, List.find?_cons, hk, isStr_str]
      by_cases en : n = k
      · subst en
        rw [beq_self_eq_true, if_neg e]
      · rw [show (k == n) = false from beq_eq_false_iff_ne.mpr (Ne.symm en)]
        exact ih
theorem putL_len (name : Str) (hs : Int) (key v : Value) : ∀ es : List DictEntry, (putL name hs key v es).length ≤ es.length + 1
  | [] => by simp [putL]
  | x :: r => by
    unfold putL
    split
    · simp
    · have := putL_len name hs key v r; simp; omega
theorem Ents.put {es : List DictEntry} {kvs : List (Str × Value)} (x : Ents es kvs) (name : Str) (hs : Int) (tk : Tok) (v : Value) : Ents (putL name hs (.str name tk) v es) ((name, v) :: kvs) := by
  refine ⟨putL_keys name hs tk v es x.1, fun n => ?_, ?_⟩
  · rw [putL_get name hs tk v n es x.1, List.lookup_cons]
    by_cases e : n = name
    · subst e; simp
    · rw [if_neg e, show (n == name) = false from beq_eq_false_iff_ne.mpr e, x.2.1]
  · have := putL_len name hs (.str name tk) v es
    have := x.2.2
    rw [List.length_cons]; omega
def pEnt (kvs : List (Str × Value)) : Obj → Prop := fun o => ∃ es n, o = dictOf es n ∧ Ents es kvs
/-- an object with its attributes -/
def InsAt (h : Heap) (x C : Addr) (kvs : List (Str × Value)) : Prop := ∃ dx, h.get? x = some (instObj C dx) ∧ At h dx (pEnt kvs)
theorem InsAt.le {h h' : Heap} {x C : Addr} {kvs : List (Str × Value)} (y : InsAt h x C kvs) (k : Le h h') : InsAt h' x C kvs := let ⟨dx, a, b⟩ := y; ⟨dx, k _ _ a, b.le k⟩
/-- a class whose instances take attributes plainly -/
structure PlainC (K : Frag) (C : Addr) : Prop where
  set : findIn K (.ref C) "__setattr__" = some (some (.builtin "object.__setattr__"))
  over : plainOver K C = true
  hasD : hasDictIn K C = true
theorem Frm.vsetL {c : Cx} {L : Addr} {cl : List (Str × Addr)} {m cm : Str → Option Value} {g h h' : Heap} {a : Addr} {p₁ p₂ : Obj → Prop} {pre post : Vol} (F : Frm c L cl m cm (pre ++ (a, p₁) :: post) g h) (hn : h'.Ns L m) (k : LeX [a, L] h h') (e : At h' a p₂) :
    Frm c L cl m cm (pre ++ (a, p₂) :: post) g h' := by
  have V := F.volat (a, p₁) (by simp)
  have vap := F.vap
  simp only [List.map_append, List.map_cons] at vap
  have d := List.pairwise_append.mp vap
  have d2 := List.pairwise_cons.mp d.2.1
  have ne : ∀ p ∈ pre ++ post, p.1 ≠ a := fun p hp q => by
    rcases List.mem_append.mp hp with hp | hp
    · exact d.2.2 p.1 (List.mem_map_of_mem hp) a (.head _) q
    · exact d2.1 p.1 (List.mem_map_of_mem hp) q.symm
  have up : ∀ b o, b ≠ a → b ≠ L → h.get? b = some o → h'.get? b = some o := fun b o n1 n2 e => k b o (by simp [n1, n2]) e
  have keep : ∀ p ∈ pre ++ post, (∃ o, h'.get? p.1 = some o ∧ p.2 o) := fun p hp => by
    have hp' : p ∈ pre ++ (a, p₁) :: post := by rcases List.mem_append.mp hp with q | q <;> simp [q]
    obtain ⟨o, eo, r⟩ := (F.volat p hp').1
    exact ⟨o, up _ _ (ne p hp) (F.volat p hp').2.2.1 eo, r⟩
  exact { ns := hn
          cell := fun n b q => let ⟨o, ho, hd⟩ := F.cell n b q; ⟨o, up _ _ (V.2.2.2.1 n b q) (F.offC n b q).2 ho, hd⟩
          nod := F.nod
          apart := F.apart
          keep := fun b o q => up b o (fun z => by rw [z, V.2.1] at q; cases q) (fun z => by rw [z, F.offL] at q; cases q) (F.keep b o q)
          offL := F.offL
          offC := F.offC
          volat := fun p hp => by
            rcases List.mem_append.mp hp with q | q
            · exact ⟨keep p (List.mem_append_left _ q), (F.volat p (List.mem_append_left _ q)).2⟩
            · rcases List.mem_cons.mp q with rfl | q
              · exact ⟨e, V.2⟩
              · exact ⟨keep p (List.mem_append_right _ q), (F.volat p (by simp [q])).2⟩
          vap := by simpa [List.map_append] using vap
          k0 := F.k0
          k0L := F.k0L
          old := fun b o n q => by
            by_cases z : b = a
            · exact V.2.2.2.2.elim (fun x => absurd (z ▸ x) n) fun x => absurd (Heap.lt_size q) (Nat.not_lt.mpr (z ▸ x))
            · exact up b o z (fun z => absurd (Heap.lt_size q) (Nat.not_lt.mpr (z ▸ F.freshL))) (F.old b o n q)
          freshL := F.freshL
          gr := F.gr }
section
variable {w : World} {mg mb : Str → Option Value} {A : Around} {E : Value → Shared → Prop} {s : Shared} {h g : Heap} {t : Nat} {vol : Vol} {names : List (Str × NameKind)} {env : Env}
  {c : Cx} {L : Addr} {cl : List (Str × Addr)} {m cm : Str → Option Value}
theorem setA {pre post : Vol} {x C dx : Addr} {name : Str} {v : Value} {kvs : List (Str × Value)} {Q : Unit → Shared → Prop} (B : Bs w mg mb c.H0) (PC : PlainC (KF w) C) (F : Frm c L cl m cm (pre ++ (dx, pEnt kvs) :: post) g h) (hx : h.get? x = some (instObj C dx))
    (ht : takerIn (KF w) C name = some none) (hz : kvs.length ≤ 100)
    (q : ∀ h' t', Frm c L cl m cm (pre ++ (dx, pEnt ((name, v) :: kvs)) :: post) g h' → Q () (upd s h' t')) : wpAny (model PR w) A (setAttr (.ref x) name v) Q E (upd s h t) := by
  obtain ⟨⟨o, ho, es, n, rfl, hes⟩, hg, hL, _⟩ := F.volat (dx, pEnt kvs) (by simp)
  have hH : c.H0.get? dx = none := none_of_le F.k0 hg
  have N : News c.H0 L h ((dx, dictOf es n) :: (ulist c.H0 L h).filter fun p => decide (p.1 ≠ dx)) := fun p hp => by
    rcases List.mem_cons.mp hp with rfl | hp
    · exact ⟨ho, hL, hH⟩
    · exact ulist_news p (List.mem_filter.mp hp).1
  have I : InstAt h x (instObj C dx) C (some (dictOf es n)) := ⟨hx, rfl, rfl, ho⟩
  refine set_dict (s := upd s h t) F.fr B.K N I rfl PC.set PC.over ht PC.hasD (by rw [hes.get]; rfl) rfl (.head fun p hp => by simpa using (List.mem_filter.mp hp).2) (Nat.le_trans (putL_len _ _ _ _ es) (by have := hes.2.2; omega)) fun h' F' N' => ?_
  have kX : LeX [dx, L] h h' := fun b ob hb e => by
    have hb : b ≠ dx ∧ b ≠ L := by simpa using hb
    obtain ⟨hb, hbL⟩ := hb
    · cases q0 : c.H0.get? b with
      | some y =>
        have := F.H b y q0
        rw [e] at this; cases this
        exact F'.keep b ob q0
      | none => exact (N' (b, ob) (List.mem_cons_of_mem _ (List.mem_filter.mpr ⟨ulist_mem.mpr ⟨e, hbL, q0⟩, by simpa using hb⟩))).1
  exact q h' (t + 2) (F.vsetL (pre := pre) F'.ns kX ⟨_, (N' _ (.head _)).1, _, _, rfl, hes.put _ _ _ _⟩)
end
end Rg
end
section
/-! attributes read, methods called, instances made -/
open PySem PySem.W PyProof.Rows PySem.Calls
set_option autoImplicit false
set_option maxRecDepth 100000
namespace Rg
section
variable {w : World} {mg mb : Str → Option Value} {A : Around} {E : Value → Shared → Prop} {s : Shared} {h g : Heap} {t : Nat} {vol : Vol} {names : List (Str × NameKind)} {env : Env}
  {c : Cx} {L : Addr} {cl : List (Str × Addr)} {m cm : Str → Option Value} {Q : Value → Shared → Prop}
theorem getA {x C : Addr} {name : Str} {v : Value} {kvs : List (Str × Value)} {expr : Bool} (B : Bs w mg mb c.H0) (PC : PlainC (KF w) C) (F : Frm c L cl m cm vol g h) (hI : InsAt h x C kvs) (hg : plainGet (KF w) C name = true) (ha : findIn (KF w) (.ref C) name = some none)
    (hl : kvs.lookup name = some v) (hv : handedIn v = true) (q : ∀ t', Q v (upd s h t')) : wpAny (model PR w) A (getAttr (.ref x) name expr) Q E (upd s h t) := by
  obtain ⟨dx, hx, o, ho, es, n, rfl, hes⟩ := hI
  exact get_own (s := upd s h t) F.fr B.K ⟨hx, rfl, rfl, ho⟩ hg PC.hasD ha rfl (by rw [hes.get, hl]) hv (q (t + 1))
/-- n.attr -/
theorem attrL {x : Addr} {C : Addr} {n attr : Str} {np pos : Pos} {v : Value} {kvs : List (Str × Value)} (B : Bs w mg mb c.H0) (PC : PlainC (KF w) C) (EF : EnvF env names cl L) (F : Frm c L cl m cm vol g h) (hl : names.lookup n = some .local) (hm : m n = some (.ref x)) (hI : InsAt h x C kvs)
    (hg : plainGet (KF w) C attr = true) (ha : findIn (KF w) (.ref C) attr = some none) (hk : kvs.lookup attr = some v) (hv : handedIn v = true) (q : ∀ t', Q v (upd s h t'))
    (hd : (n == ("__debug__" : Str)) = false := by decide) : wpAny (model PR w) A (eval (.Attribute (.Name n np) attr pos) env) Q E (upd s h t) :=
  Attribute_name (ldL EF F hl hm (getA B PC F hI hg ha hk hv q) hd)
/-- n.name(e, ..) with a method of the class -/
theorem callM {x C f : Addr} {n name : Str} {np apos pos : Pos} {e : Expr} {rest : List Expr} {kvs : List (Str × Value)} {pl : Sem Bool} (B : Bs w mg mb c.H0) (EF : EnvF env names cl L) (F : Frm c L cl m cm vol g h) (hl : names.lookup n = some .local) (hm : m n = some (.ref x)) (hI : InsAt h x C kvs)
    (hg : plainGet (KF w) C name = true) (hf : findIn (KF w) (.ref C) name = some (some (.ref f))) (ht : isFn (KF w) (.ref f) = true) (hkp : keepIn (KF w) (.ref f) = true) (hk : kvs.lookup name = none)
    (q : wpAny (model PR w) A (spliced (backTo pos (starEach (e :: rest) env))) (fun vs s₁ => Le c.H0 s₁.heap ∧ wpAny (model PR w) A (call (.ref f) (.ref x :: vs)) Q E s₁) E (upd s h t))
    (hd : (n == ("__debug__" : Str)) = false := by decide)
    (he : eval (.Call (.Attribute (.Name n np) name apos) (e :: rest) [] pos) env = (do
      let ov ← eval (.Name n np) env
      standAt apos.atName
      let (f, first) ← holding [ov] (getMethod ov name pl)
      callWith pos f first (backTo pos (starEach (e :: rest) env)) (backToKw pos (keywordEach [] env))) := by rfl)
    (he2 : starEach (e :: rest) env = (false, eval e env) :: starEach rest env := by rfl) (hplain : (backTo pos (starEach rest env)).any (·.1) = false := by rfl) :
    wpAny (model PR w) A (eval (.Call (.Attribute (.Name n np) name apos) (e :: rest) [] pos) env) Q E (upd s h t) := by
  obtain ⟨dx, hx, o, ho, es, nn, rfl, hes⟩ := hI
  refine methodCall_KW (pl := pl) (ldL EF F hl hm (method_inst (s := upd s h t) F.fr B.K ⟨hx, rfl, rfl, ho⟩ hg hf ht (by rw [hes.get, hk]) ?_) hd) he
  exact callWith_K (f := .ref f) (first := [.ref x]) B.K hkp (wpAny_mono q (fun vs s₁ z => ⟨B.K.keeps z.1, z.2⟩) fun _ _ z => z) he2 hplain
theorem Amb.make {A : Around} {d u : Nat} (a : Amb A (d + 1) (u + 1)) (C : Addr) (vals : List Value) : Amb (A.under (.builtin "type.__call__" ⟨.ref C :: vals, []⟩)) d u :=
  ⟨a.handled, by rw [depth_under_make]; have := a.depth; omega, by rw [units_under_make]; have := a.units; omega⟩
/-- C(v, ..) of the text -/
theorem newI {C fI : Addr} {vs : List Value} (B : Bs w mg mb c.H0) (F : Frm c L cl m cm vol g h) (hm : makesIn (KF w) C = true) (hi : findIn (KF w) (.ref C) "__init__" = some (some (.ref fI))) (hf : isFn (KF w) (.ref fI) = true)
    (q : ∀ x dx g' h', Le g g' → g'.get? x = some (instObj C dx) → g'.get? dx = none → c.h₀.objs.size ≤ dx → h.objs.size ≤ dx → Frm c L cl m cm ((dx, pEnt []) :: vol) g' h' →
      codeAny (model PR w) (A.under (.builtin "type.__call__" ⟨.ref C :: vs, []⟩)) (.call (.ref fI) ⟨.ref x :: vs, []⟩) (InitBack x fun r s' => match r with | .ok (.ret v) => Q v s' | .ok _ => False | .error e => E e s') (upd s h' t)) :
    wpAny (model PR w) A (call (.ref C) vs) Q E (upd s h t) := by
  refine wpAny_call ?_
  refine make_core (h := h) (makes_of (B.K.keeps F.H) hm) (looks_findIn (B.K.keeps F.H) hi) (fun self => bind_fn (B.K.keeps F.H) self (beq_iff_eq.mp hf)) (.inl rfl) ?_
  have F1 := F.vpush (a := h.objs.size) (p := pEnt []) (Le.push h emptyDict) ⟨_, Heap.get?_push_size _ rfl, [], 0, rfl, ⟨by simp, fun _ => rfl, Nat.le_refl _⟩⟩ (Nat.le_refl _)
  obtain ⟨g', k, e, F2⟩ := F1.push (instObj C h.objs.size)
  rw [Heap.size_push] at e
  exact q (h.objs.size + 1) h.objs.size g' _ k e (F2.volat _ (.head _)).2.1 F.sz (Nat.le_refl _) F2
end
end Rg
end
section
/-! facts of the classes -/
open PySem PySem.W PyProof.Rows PySem.Calls
set_option autoImplicit false
set_option maxRecDepth 100000
namespace Rg
theorem PC_Rule (P : Params) : PlainC (Mine.hd.heap_39 P) 234 := ⟨by kernel_rfl, by kernel_rfl, by kernel_rfl⟩
theorem mk_Rule (P : Params) : makesIn (Mine.hd.heap_39 P) 234 = true := by kernel_rfl
theorem in_Rule (P : Params) : findIn (Mine.hd.heap_39 P) (.ref 234) "__init__" = some (some (.ref 224)) := by kernel_rfl
theorem fn_Rule (P : Params) : isFn (Mine.hd.heap_39 P) (.ref 224) = true := by kernel_rfl
theorem tk_Rule_name (P : Params) : takerIn (Mine.hd.heap_39 P) 234 "name" = some none := by kernel_rfl
theorem pg_Rule_name (P : Params) : plainGet (Mine.hd.heap_39 P) 234 "name" = true := by kernel_rfl
theorem fi_Rule_name (P : Params) : findIn (Mine.hd.heap_39 P) (.ref 234) "name" = some none := by kernel_rfl
theorem tk_Rule_left (P : Params) : takerIn (Mine.hd.heap_39 P) 234 "left" = some none := by kernel_rfl
theorem pg_Rule_left (P : Params) : plainGet (Mine.hd.heap_39 P) 234 "left" = true := by kernel_rfl
theorem fi_Rule_left (P : Params) : findIn (Mine.hd.heap_39 P) (.ref 234) "left" = some none := by kernel_rfl
theorem tk_Rule_right (P : Params) : takerIn (Mine.hd.heap_39 P) 234 "right" = some none := by kernel_rfl
theorem pg_Rule_right (P : Params) : plainGet (Mine.hd.heap_39 P) 234 "right" = true := by kernel_rfl
theorem fi_Rule_right (P : Params) : findIn (Mine.hd.heap_39 P) (.ref 234) "right" = some none := by kernel_rfl
theorem tk_Rule_needs (P : Params) : takerIn (Mine.hd.heap_39 P) 234 "needs" = some none := by kernel_rfl
theorem pg_Rule_needs (P : Params) : plainGet (Mine.hd.heap_39 P) 234 "needs" = true := by kernel_rfl
theorem fi_Rule_needs (P : Params) : findIn (Mine.hd.heap_39 P) (.ref 234) "needs" = some none := by kernel_rfl
theorem PC_Judge (P : Params) : PlainC (Mine.hd.heap_39 P) 208 := ⟨by kernel_rfl, by kernel_rfl, by kernel_rfl⟩
theorem mk_Judge (P : Params) : makesIn (Mine.hd.heap_39 P) 208 = true := by kernel_rfl
theorem in_Judge (P : Params) : findIn (Mine.hd.heap_39 P) (.ref 208) "__init__" = some (some (.ref 176)) := by kernel_rfl
theorem fn_Judge (P : Params) : isFn (Mine.hd.heap_39 P) (.ref 176) = true := by kernel_rfl
theorem tk_Judge_rules (P : Params) : takerIn (Mine.hd.heap_39 P) 208 "rules" = some none := by kernel_rfl
theorem pg_Judge_rules (P : Params) : plainGet (Mine.hd.heap_39 P) 208 "rules" = true := by kernel_rfl
theorem fi_Judge_rules (P : Params) : findIn (Mine.hd.heap_39 P) (.ref 208) "rules" = some none := by kernel_rfl
theorem tk_Judge_told (P : Params) : takerIn (Mine.hd.heap_39 P) 208 "told" = some none := by kernel_rfl
theorem pg_Judge_told (P : Params) : plainGet (Mine.hd.heap_39 P) 208 "told" = true := by kernel_rfl
theorem fi_Judge_told (P : Params) : findIn (Mine.hd.heap_39 P) (.ref 208) "told" = some none := by kernel_rfl
theorem pg_Judge_rule_sides (P : Params) : plainGet (Mine.hd.heap_39 P) 208 "rule_sides" = true := by kernel_rfl
theorem fi_Judge_rule_sides (P : Params) : findIn (Mine.hd.heap_39 P) (.ref 208) "rule_sides" = some (some (.ref 188)) := by kernel_rfl
theorem fm_Judge_rule_sides (P : Params) : isFn (Mine.hd.heap_39 P) (.ref 188) = true := by kernel_rfl
theorem kp_Judge_rule_sides (P : Params) : keepIn (Mine.hd.heap_39 P) (.ref 188) = true := by kernel_rfl
theorem pg_Judge_sides_of (P : Params) : plainGet (Mine.hd.heap_39 P) 208 "sides_of" = true := by kernel_rfl
theorem fi_Judge_sides_of (P : Params) : findIn (Mine.hd.heap_39 P) (.ref 208) "sides_of" = some (some (.ref 193)) := by kernel_rfl
theorem fm_Judge_sides_of (P : Params) : isFn (Mine.hd.heap_39 P) (.ref 193) = true := by kernel_rfl
theorem kp_Judge_sides_of (P : Params) : keepIn (Mine.hd.heap_39 P) (.ref 193) = true := by kernel_rfl
theorem pg_Judge_sides (P : Params) : plainGet (Mine.hd.heap_39 P) 208 "sides" = true := by kernel_rfl
theorem fi_Judge_sides (P : Params) : findIn (Mine.hd.heap_39 P) (.ref 208) "sides" = some (some (.ref 198)) := by kernel_rfl
theorem fm_Judge_sides (P : Params) : isFn (Mine.hd.heap_39 P) (.ref 198) = true := by kernel_rfl
theorem kp_Judge_sides (P : Params) : keepIn (Mine.hd.heap_39 P) (.ref 198) = true := by kernel_rfl
theorem kc_Rule (P : Params) : keepIn (Mine.hd.heap_39 P) (.ref 234) = true := by kernel_rfl
theorem kc_Judge (P : Params) : keepIn (Mine.hd.heap_39 P) (.ref 208) = true := by kernel_rfl
theorem kc_PaperFault (P : Params) : keepIn (Mine.hd.heap_39 P) (.ref 100) = true := by kernel_rfl
end Rg
end
section
/-! lists: sums, copies; classes called -/
open PySem PySem.W PyProof.Rows PySem.Calls
set_option autoImplicit false
set_option maxRecDepth 100000
namespace Rg
section
variable {w : World} {mg mb : Str → Option Value} {A : Around} {E : Value → Shared → Prop} {s : Shared} {h g : Heap} {t : Nat} {vol : Vol} {names : List (Str × NameKind)} {env : Env}
  {c : Cx} {L : Addr} {cl : List (Str × Addr)} {m cm : Str → Option Value} {Q : Value → Shared → Prop}
theorem lAdd {a b : Addr} {vs ws : List Value} (F : Frm c L cl m cm vol g h) (ha : h.IsList a vs.toArray) (hb : h.IsList b ws.toArray) (hz : vs.length + ws.length ≤ 2 ^ 23)
    (q : ∀ d g' h', Le g g' → g'.IsList d (vs ++ ws).toArray → Frm c L cl m cm vol g' h' → Q (.ref d) (upd s h' t)) : wpAny (model PR w) A (binaryOp .Add (.ref a) (.ref b)) Q E (upd s h t) := by
  refine add_lists (s := upd s h t) F.fr ulist_news ha hb (fun h' F' N' => ?_) (lt_sizeLine hz)
  have Fa := F.of_fr (x := [_]) F' N'
  obtain ⟨g', k, e, Fb⟩ := F.fresh Fa (N' _ (.head _)).1 (Nat.le_refl _)
  exact q _ g' h' k ⟨_, e, rfl, 0, rfl⟩ Fb
theorem listT {a : Addr} {items : List Value} (F : Frm c L cl m cm vol g h) (ha : IsTup h a items.toArray) (hz : items.length ≤ 2 ^ 23) (q : ∀ d g' h', Le g g' → g'.IsList d items.toArray → Frm c L cl m cm vol g' h' → Q (.ref d) (upd s h' t)) :
    wpAny (model PR w) A (call (.type "list") [.ref a]) Q E (upd s h t) := by
  obtain ⟨o, ho, hc, n, hd⟩ := ha
  refine call_list_seq (s := upd s h t) a (T := "tuple") (.inr rfl) ho hc hd (fun h' c' k e => ?_) (by rw [List.size_toArray]; exact lt_sizeLine hz)
  obtain ⟨g', kg, e', F'⟩ := F.fresh' k e fun b x e => Heap.lt_size e
  exact q _ g' h' kg ⟨_, e', rfl, _, rfl⟩ F'
/-- the slice of a list, its parts evaluated -/
theorem lTail {value slice : Expr} {ops : List Value} {l : Addr} {items : Array Value} {vl vu vk : Value} {lo hi sk : Option Int} (F : Frm c L cl m cm vol g h) (hl : h.IsList l items) (pl : IsPart vl lo) (pu : IsPart vu hi) (pk : IsPart vk sk) (h0 : sk ≠ some 0) (hz : items.size ≤ 2 ^ 20)
    (q : ∀ d g' h' t', Le g g' → g'.IsList d (slicePick items lo hi sk) → Frm c L cl m cm vol g' h' → Q (.ref d) (upd s h' t'))
    (hs : subscripted slice false (.ref l) (.ref h.objs.size) = operate ops (getItem (.ref l) (.ref h.objs.size)) := by with_unfolding_all rfl)
    (hg : ∀ r, letTemporaryGo value (.ref l) r = pure () := by intro _; rfl) :
    wpAny (model PR w) A (subscriptTail value slice (.ref l) (.ref h.objs.size)) Q E (upd s (h.push { cls := .type "slice", data := .fields #[vl, vu, vk] }) t) := by
  refine slice_list3 (s := upd s h t) F.fr ulist_news hl pl pu pk h0 (fun h' F' N' => ?_) hs hg (lt_sizeLine (by omega))
  have Fa := F.of_fr (x := [_]) F' N'
  obtain ⟨g', k, e, Fb⟩ := F.fresh Fa (N' _ (.head _)).1 (Nat.le_succ _)
  exact q _ g' h' t k ⟨_, e, rfl, 0, rfl⟩ Fb
theorem lSlice {value slice : Expr} {low up st : Option Expr} {pp : Pos} {l₀ : Addr} (q : wpAny (model PR w) A (evalPart low env) (fun l s₁ => wpAny (model PR w) A (evalPart up env) (fun u s₂ => wpAny (model PR w) A (evalPart st env) (fun k s₃ =>
      wpAny (model PR w) A (subscriptTail value slice (.ref l₀) (.ref s₃.heap.objs.size)) Q E { s₃ with heap := s₃.heap.push { cls := .type "slice", data := .fields #[l, u, k] } }) E s₂) E s₁) E (upd s h t)) :
    wpAny (model PR w) A (eval (.Slice low up st pp) env) (fun i s₂ => wpAny (model PR w) A (subscriptTail value slice (.ref l₀) i) Q E s₂) E (upd s h t) := wpAny_Slice q
theorem pN {Q : Value → Shared → Prop} {s : Shared} (q : Q .none s) : wpAny (model PR w) A (evalPart none env) Q E s := by rw [evalPart_none]; exact wpAny_pure q
theorem pS' {e : Expr} {Q : Value → Shared → Prop} {s : Shared} (q : wpAny (model PR w) A (eval e env) Q E s) : wpAny (model PR w) A (evalPart (some e) env) Q E s := by rw [evalPart_some]; exact q
/-- C(e, ..), C a class of the text -/
theorem callCls {x : Str} {np pos : Pos} {e : Expr} {args : List Expr} {a : Addr} (B : Bs w mg mb c.H0) (EF : EnvF env names cl L) (F : Frm c L cl m cm vol g h) (hl : names.lookup x = some .globalImplicit)
    (hg : nsIn (KF w) mainGlobals x = some (some (.ref a))) (hk : keepIn (KF w) (.ref a) = true)
    (q : wpAny (model PR w) A (spliced (backTo pos (starEach (e :: args) env))) (fun vs s₁ => Le c.H0 s₁.heap ∧ wpAny (model PR w) A (call (.ref a) vs) Q E s₁) E (upd s h t))
    (he : starEach (e :: args) env = (false, eval e env) :: starEach args env := by rfl) (hplain : (backTo pos (starEach args env)).any (·.1) = false := by rfl)
    (hd : (x == ("__debug__" : Str)) = false := by decide) : wpAny (model PR w) A (eval (.Call (.Name x np) (e :: args) [] pos) env) Q E (upd s h t) :=
  wpAny_Call_NameR (ldG B EF F hl hg (callWith_K (f := .ref a) (first := []) B.K hk (wpAny_mono q (fun vs s₁ z => ⟨B.K.keeps z.1, z.2⟩) fun _ _ z => z) he hplain) hd)
end
end Rg
end
section
/-! Rule's __init__ -/
open PySem PySem.W PyProof.Rows PySem.Calls
set_option autoImplicit false
set_option maxRecDepth 100000
namespace Rg
/-- one need over the names ks -/
def NeedAt (g : Heap) (v : Value) (ks : List Str) : Prop := ∃ a k tk v1 v2 t1 t2, v = .ref a ∧ IsTup g a #[.str k tk, v1, v2] ∧ (k = "alike" ∨ k = "unlike") ∧ IsTm g v1 t1 ∧ IsTm g v2 t2 ∧ t1.Gd vns 5 ∧ t2.Gd vns 5 ∧ (∀ x ∈ t1.vs, x ∈ ks) ∧ (∀ x ∈ t2.vs, x ∈ ks)
theorem NeedAt.le {g g' : Heap} {v : Value} {ks : List Str} (x : NeedAt g v ks) (k : Le g g') : NeedAt g' v ks := by
  obtain ⟨a, kk, tk, v1, v2, t1, t2, e, h1, h2, h3, h4, r⟩ := x
  exact ⟨a, kk, tk, v1, v2, t1, t2, e, isTup_le h1 k, h2, h3.le k, h4.le k, r⟩
section
variable {w : World} {mg mb : Str → Option Value} {A : Around} {s : Shared} {H0 h g : Heap} {t : Nat} {R : Result → Shared → Prop}
theorem vns_self : ∀ x ∈ vns, x ∈ vns := fun _ h => h
/-- variables, of a good term -/
theorem vars_good {E : Value → Shared → Prop} {Q : Value → Shared → Prop} {v : Value} {tm : Tm} (am : Amb A 7 45) (P : Pre w mg mb H0 g h) (hv : IsTm g v tm) (hd : tm.Gd vns 5)
    (q : ∀ D vs d' g' h' t', Grow h.objs.size g g' → Le g' h' → Le h h' → g'.IsList D vs.toArray → StrsAre vs (can tm.vs) → Q (.ref D) (upd { s with drawn := d' } h' t')) :
    wpAny (model PR w) A (call (.ref 114) [v]) Q E (upd s h t) := by
  have hp := Gd_parts hd
  have hm : (metL (vnames tm.parts)).length < 64 := by
    have := metL_len (vnames tm.parts) []
    have := vnames_len tm.parts
    show (List.foldl _ [] _).length < 64
    simp at *; omega
  refine vars_spec (n := 5) (am.mono (by omega) (by omega)) P hv (hd.dp vns_self) (by omega) hm (by omega) fun D vs ss d' g' h' t' G k kh hD hs hpm hso => ?_
  refine q D vs d' g' h' t' G k kh hD ?_
  have hmem : ∀ x, x ∈ metL (vnames tm.parts) ↔ x ∈ tm.vs := fun x => by
    rw [← vnames_vs tm]
    have := metL_mem (vnames tm.parts) [] x
    simpa [metL] using this
  rw [← sorted_is (xs := tm.vs) hpm (metL_nodup _ _ List.nodup_nil) hso hmem (Gd_sub vns_self hd)]
  exact hs
theorem rinit_spec {x dx : Addr} {nm : Str} {tkn : Tok} {lv rv : Value} {lt rt : Tm} {na : Addr} {nvs : List Value} (am : Amb A 9 60) (P : Pre w mg mb H0 g h) (hx : g.get? x = some (instObj 234 dx)) (hdx : At h dx (pEnt [])) (hgd : g.get? dx = none)
    (hl : IsTm g lv lt) (hld : lt.Gd vns 5) (hlv : lt.isVar = false) (hr : IsTm g rv rt) (hrd : rt.Gd vns 5) (hrs : ∀ x ∈ rt.vs, x ∈ can lt.vs) (hn : IsTup g na nvs.toArray) (hnz : nvs.length ≤ 1) (hnd : ∀ v ∈ nvs, NeedAt g v (can lt.vs))
    (q : ∀ d' g' h' t', Grow h.objs.size g g' → Le g' h' → LeX [dx] h h' → At h' dx (pEnt [("needs", .ref na), ("right", rv), ("left", lv), ("name", .str nm tkn)]) → R (.ok (.ret .none)) (upd { s with drawn := d' } h' t')) :
    codeAny (model PR w) A (.call (.ref 224) ⟨[.ref x, .str nm tkn, lv, rv, .ref na], []⟩) R (upd s h t) := by
  refine enterE (D_rinit w.params) P am.room (A_rinit _ _ _ _ _ _) (X := [dx]) (vol := [(dx, pEnt [])]) (by rfl) (by decide) ?_ (by simp) fun env L h₁ t₁ hL EF F _ _ => ?_
  · intro p hp
    rw [List.mem_singleton.mp hp]
    exact ⟨hdx, hgd, by simp⟩
  have amd : Amb (A.deeper env) 8 57 := am.deeper
  refine wpAny_execs_cons (wpAny_If (isTrue_plain ?_))
  refine callDef P.B EF F rfl (G_is_variable _) (D_isvar _) (spl (ldL EF F rfl rfl (spl0 ⟨F.H, ?_⟩)))
  refine isvar_spec (amd.mono (by omega) (by omega)) (F.pre P.B) hl (hld.dp vns_self) fun h₂ t₂ k₂ => tru ?_
  rw [hlv, if_neg Bool.false_ne_true]
  have F2 := F.ext k₂
  refine wpAny_execs_nil ?_
  refine wpAny_execs_cons (wpAny_Assign_Name ?_)
  refine callDef P.B EF F2 rfl (G_variables _) (D_vars _) (spl (ldL EF F2 rfl rfl (spl0 ⟨F2.H, ?_⟩)))
  refine vars_good (amd.mono (by omega) (by omega)) (F2.pre P.B) hl hld fun D kvs' s3 g₃ h₃ t₃ G₃ k₃ kh₃ hD hDs => ?_
  have F3 := F2.called0 kh₃ G₃ k₃
  have e3 : Le g g₃ := G₃.le
  refine stC EF F3 rfl rfl (by show h.objs.size ≤ L + 1; omega) fun h₄ F4 => ?_
  refine wpAny_execs_cons (wpAny_Assign_Name (wpAny_BinOp (eList (spl (eTup (spl (eStr fun k1 t5 => ?_)))))))
  refine spl (ldL EF F4 rfl rfl (spl (ldL EF F4 rfl rfl (spl0 (mkTup F4 (by simp) fun ta g₅ h₅ k₅ hta F5 => ?_)))))
  refine spl0 (mkList F5 (by simp) fun la h₆ hla F6 => ?_)
  refine callTy P.B EF F6 rfl (G0_list _) (by boot_by_name) (spl (ldL EF F6 rfl rfl (spl0 (listT F6 (isTup_le hn (e3.trans (k₅.trans F6.keep))) (by omega) fun lb g₇ h₇ k₇ hlb F7 => ?_))))
  refine lAdd F7 (F7.vat (la, _) (.head _)) (isList_le hlb F7.keep) (by simp; omega) fun lc g₈ h₈ k₈ hlc F8 => ?_
  have F8' := F8.vdrop (pre := [(la, _)])
  have e8 : Le g g₈ := e3.trans (k₅.trans (k₇.trans k₈))
  refine stL EF F8' rfl fun h₉ t₉ F9 => ?_
  have hneed : ∀ v ∈ Value.ref ta :: nvs, NeedAt g₈ v (can lt.vs) := fun v hv => by
    rcases List.mem_cons.mp hv with rfl | hv
    · exact ⟨ta, "alike", k1, rv, rv, rt, rt, rfl, isTup_le hta (k₇.trans k₈), .inl rfl, hr.le e8, hr.le e8, hrd, hrd, hrs, hrs⟩
    · exact (hnd v hv).le e8
  refine wpAny_execs_cons (wpAny_For ?_ ?_)
  · refine ldL EF F9 rfl rfl ?_
    refine itList F9 hlc fun I ha hI Fa => ?_
    refine for_close (n := (Value.ref ta :: nvs).toArray.size) (V := V1 I (pLI lc)) Fa (ItR.list amd.handled hI hlc) (fun s' => ∃ d, s' = { s with drawn := d }) ⟨s3, rfl⟩
      (fun i m' cm' vol' g' => vol' = [(dx, pEnt [])] ∧ cm' "known" = some (.ref D) ∧ m' "self" = some (.ref x) ∧ m' "name" = some (.str nm tkn) ∧ m' "left" = some lv ∧ m' "right" = some rv ∧ m' "needs" = some (.ref na)) ?_ ?_ ?_
    · exact ⟨rfl, rfl, rfl, rfl, rfl, rfl, rfl⟩
    · rintro i s' m' cm' vol' g' h' t' v ⟨d0, rfl⟩ hi' ⟨rfl, j1, j2, j3, j4, j5, j6⟩ kg FF hv
      have hv' : v ∈ Value.ref ta :: nvs := by
        have : (Value.ref ta :: nvs)[i]? = some v := by simpa using hv
        exact List.mem_of_getElem? this
      obtain ⟨a, k, tk, v1, v2, t1, t2, rfl, hT, hkk, htm1, htm2, hg1, hg2, hs1, hs2⟩ := (hneed v hv').le kg
      refine asgP3 amd.handled FF (isTup_le hT FF.keep) fun hb Fb kb => ?_
      refine asgN EF Fb rfl fun hc tc Fc => asgN EF Fc rfl fun hd td Fd => asgN EF Fd rfl fun he te Fe => ?_
      refine wpAny_execs_cons (wpAny_If (wpAny_isTrue_Compare1 (ldL EF Fe rfl rfl (eTup (spl (eStr fun k2 t6 => spl (eStr fun k3 t7 => spl0 (mkTup Fe (by simp) fun tp gf hf kf htp Ff => ?_))))))))
      refine cNotInT (fs := ["alike", "unlike"]) (isTup_le htp Ff.keep) (.cons _ _ (.cons _ _ .nil)) (tru ?_)
      rw [show (!(["alike", "unlike"] : List Str).contains k) = false by rcases hkk with rfl | rfl <;> decide +kernel, if_neg Bool.false_ne_true]
      refine wpAny_execs_nil ?_
      refine wpAny_execs_cons (lc_openA EF rfl ?_)
      refine wpAny_BinOp ?_
      refine callDef P.B EF Ff rfl (G_variables _) (D_vars _) (spl (ldL EF Ff rfl rfl (spl0 ⟨Ff.H, ?_⟩)))
      refine vars_good (amd.mono (by omega) (by omega)) (Ff.pre P.B) (htm1.le kf) hg1 fun D1 z1 s4 gg hg' tg G4 k4 kh4 hD1 hz1 => ?_
      have Fg := Ff.called0 kh4 G4 k4
      refine callDef P.B EF Fg rfl (G_variables _) (D_vars _) (spl (ldL EF Fg rfl rfl (spl0 ⟨Fg.H, ?_⟩)))
      refine vars_good (amd.mono (by omega) (by omega)) (Fg.pre P.B) (htm2.le (kf.trans G4.le)) hg2 fun D2 z2 s5 gh hh th G5 k5 kh5 hD2 hz2 => ?_
      have Fh := Fg.called0 kh5 G5 k5
      have l1 := strsAre_len hz1
      have l2 := strsAre_len hz2
      have c1 := can_len t1.vs
      have c2 := can_len t2.vs
      refine lAdd Fh (isList_le hD1 (G5.le.trans Fh.keep)) (isList_le hD2 Fh.keep) (by omega) fun D3 gi hi_ ki hD3 Fi => ?_
      have hz3 := strsAre_app hz1 hz2
      have l3 := strsAre_len hz3
      refine itList Fi hD3 fun I2 hj hI2 Fj => ?_
      have ej : Le g₈ gi := kg.trans (kf.trans (G4.le.trans (G5.le.trans ki)))
      refine lc_closeA (n := (z1 ++ z2).toArray.size) (vx := []) (vr := V1 I (pLI lc) (i + 1) ++ [(dx, pEnt [])]) EF rfl Fj (ItR.list amd.handled hI2 hD3) (by rw [List.size_toArray, List.length_append]; omega)
        (fun j us g₁ vx' => vx' = [] ∧ us = []) ?_ ?_ ?_ ?_
      · exact ⟨rfl, rfl⟩
      · rintro _ _ _ _ ⟨rfl, _⟩; rfl
      · rintro C D' cenv j us g₁ vx' mC h' t' v hj' ⟨rfl, rfl⟩ EC kg₁ FC hv
        have hjz : j < (z1 ++ z2).length := by simpa using hj'
        have hjc : j < (can t1.vs ++ can t2.vs).length := by omega
        obtain ⟨tkj, ej'⟩ := strsAre_get hz3 j hjz hjc
        have hv : v = .str (can t1.vs ++ can t2.vs)[j] tkj := by
          have : (z1 ++ z2)[j]? = some v := by simpa using hv
          rw [List.getElem?_eq_getElem hjz, ej'] at this
          exact (Option.some.inj this).symm
        subst hv
        have hin : (can t1.vs ++ can t2.vs)[j] ∈ can lt.vs := by
          rcases List.mem_append.mp (List.getElem_mem hjc) with q | q
          · exact hs1 _ (mem_can.mp q).2
          · exact hs2 _ (mem_can.mp q).2
        refine asgN EC FC rfl fun hB tB FB => tests1 (wpAny_isTrue_Compare1 ?_)
        refine ldL EC FB rfl rfl (ldC EC FB rfl rfl j1 ?_)
        refine cNotInL (isList_le hD ((k₅.trans (k₇.trans k₈)).trans (ej.trans (kg₁.trans FB.keep)))) hDs (tru ?_)
        rw [List.contains_iff_mem.mpr hin, Bool.not_true, if_neg Bool.false_ne_true]
        exact ⟨hB, _, g₁, [], _, rfl, FB, rfl, rfl⟩
      · rintro D' us g₁ gg' vx' hh' tt Fk kk1 kk2 hl' ⟨rfl, rfl⟩
        refine wpAny_execs_cons (wpAny_If (wpAny_isTrue_Compare1 (ldL EF Fk rfl rfl (eList (spl0 (mkList Fk (by simp) fun ln hm hln Fm => ?_))))))
        refine cNeNil (isList_le hl' Fm.keep) (Fm.vat _ (.head _)) amd.hu (tru ?_)
        rw [if_neg Bool.false_ne_true]
        have Fn := Fm.vdrop (pre := [(ln, _)])
        exact wpAny_execs_nil (wpAny_execs_nil ⟨_, hm, _, _, _, [(dx, pEnt [])], _, rfl, ⟨_, rfl⟩, Fn, kf.trans (G4.le.trans (G5.le.trans (ki.trans (kk1.trans kk2)))), rfl, j1, j2, j3, j4, j5, j6⟩)
    · rintro s' m' cm' vol' g' h' t' ⟨d0, rfl⟩ Ff kg ⟨rfl, j1, j2, j3, j4, j5, j6⟩
      have hxx : ∀ {h}, Le g' h → h.get? x = some (instObj 234 dx) := fun k => (e8.trans (kg.trans k)) _ _ hx
      refine wpAny_execs_cons (plainObj_wpAny_Assign_Attribute (ldL EF Ff rfl j3 (ldL EF Ff rfl j2 ?_)))
      refine setA (pre := []) P.B (PC_Rule _) Ff (hxx Ff.keep) (tk_Rule_name _) (by simp) fun ha ta Fa => ?_
      refine wpAny_execs_cons (plainObj_wpAny_Assign_Attribute (ldL EF Fa rfl j4 (ldL EF Fa rfl j2 ?_)))
      refine setA (pre := []) P.B (PC_Rule _) Fa (hxx Fa.keep) (tk_Rule_left _) (by simp) fun hb tb Fb => ?_
      refine wpAny_execs_cons (plainObj_wpAny_Assign_Attribute (ldL EF Fb rfl j5 (ldL EF Fb rfl j2 ?_)))
      refine setA (pre := []) P.B (PC_Rule _) Fb (hxx Fb.keep) (tk_Rule_right _) (by simp) fun hc tc Fc => ?_
      refine wpAny_execs_cons (plainObj_wpAny_Assign_Attribute ?_)
      refine callTy P.B EF Fc rfl (G0_tuple _) (by boot_by_name) (spl (ldL EF Fc rfl j6 (spl0 (tupT (isTup_le hn (e8.trans (kg.trans Fc.keep))) ?_))))
      refine ldL EF Fc rfl j2 ?_
      refine setA (pre := []) P.B (PC_Rule _) Fc (hxx Fc.keep) (tk_Rule_needs _) (by simp) fun hd td Fd => ?_
      exact wpAny_execs_nil (q d0 g' hd td Fd.gr Fd.keep Fd.old (Fd.volat _ (.head _)).1)
  · intro _; rfl
end
end Rg
end
section
/-! Judge's __init__; making a Rule and a Judge -/
open PySem PySem.W PyProof.Rows PySem.Calls
set_option autoImplicit false
set_option maxRecDepth 100000
namespace Rg
section
variable {w : World} {mg mb : Str → Option Value} {A : Around} {s : Shared} {H0 h g : Heap} {t : Nat} {R : Result → Shared → Prop}
theorem jinit_spec {x dx : Addr} {rv tv : Value} (am : Amb A 2 20) (P : Pre w mg mb H0 g h) (hx : g.get? x = some (instObj 208 dx)) (hdx : At h dx (pEnt [])) (hgd : g.get? dx = none)
    (q : ∀ h' t', LeX [dx] h h' → At h' dx (pEnt [("told", tv), ("rules", rv)]) → R (.ok (.ret .none)) (upd s h' t')) :
    codeAny (model PR w) A (.call (.ref 176) ⟨[.ref x, rv, tv], []⟩) R (upd s h t) := by
  refine enterE (D_jinit w.params) P am.room (A_jinit _ _ _ _) (X := [dx]) (vol := [(dx, pEnt [])]) (by rfl) (by decide) ?_ (by simp) fun env L h₁ t₁ hL EF F _ _ => ?_
  · intro p hp
    rw [List.mem_singleton.mp hp]
    exact ⟨hdx, hgd, by simp⟩
  refine wpAny_execs_cons (plainObj_wpAny_Assign_Attribute (ldL EF F rfl rfl (ldL EF F rfl rfl ?_)))
  refine setA (pre := []) P.B (PC_Judge _) F (F.keep _ _ hx) (tk_Judge_rules _) (by simp) fun ha ta Fa => ?_
  refine wpAny_execs_cons (plainObj_wpAny_Assign_Attribute (ldL EF Fa rfl rfl (ldL EF Fa rfl rfl ?_)))
  refine setA (pre := []) P.B (PC_Judge _) Fa (Fa.keep _ _ hx) (tk_Judge_told _) (by simp) fun hb tb Fb => ?_
  exact wpAny_execs_nil (q hb tb Fb.old (Fb.volat _ (.head _)).1)
end
section
variable {w : World} {mg mb : Str → Option Value} {A : Around} {E : Value → Shared → Prop} {s : Shared} {h g : Heap} {t : Nat} {vol : Vol} {names : List (Str × NameKind)} {env : Env}
  {c : Cx} {L : Addr} {cl : List (Str × Addr)} {m cm : Str → Option Value} {Q : Value → Shared → Prop}
/-- Rule(name, left, right, needs) -/
theorem mkRule {nm : Str} {tkn : Tok} {lv rv : Value} {lt rt : Tm} {na : Addr} {nvs : List Value} (am : Amb A 10 61) (B : Bs w mg mb c.H0) (F : Frm c L cl m cm vol g h)
    (hl : IsTm g lv lt) (hld : lt.Gd vns 5) (hlv : lt.isVar = false) (hr : IsTm g rv rt) (hrd : rt.Gd vns 5) (hrs : ∀ x ∈ rt.vs, x ∈ can lt.vs) (hn : IsTup g na nvs.toArray) (hnz : nvs.length ≤ 1) (hnd : ∀ v ∈ nvs, NeedAt g v (can lt.vs))
    (q : ∀ x d' g' h' t', Le g g' → InsAt g' x 234 [("needs", .ref na), ("right", rv), ("left", lv), ("name", .str nm tkn)] → Frm c L cl m cm vol g' h' → Q (.ref x) (upd { s with drawn := d' } h' t')) :
    wpAny (model PR w) A (call (.ref 234) [.str nm tkn, lv, rv, .ref na]) Q E (upd s h t) := by
  refine newI B F (mk_Rule _) (in_Rule _) (fn_Rule _) fun x dx g' h' k e hgd hdz hdz2 F' => ?_
  refine rinit_spec (am.make 234 _) (F'.pre B) e (F'.volat _ (.head _)).1 hgd (hl.le k) hld hlv (hr.le k) hrd hrs (isTup_le hn k) hnz (fun v hv => (hnd v hv).le k) fun s' g₂ h₂ t₂ G k₂ kX hd => ?_
  have F2 := F'.called1 (pre := []) kX hd G k₂
  obtain ⟨g₃, k₃, ⟨o, ho, ho'⟩, F3⟩ := F2.freeze (pre := []) hdz
  exact ⟨rfl, q x s' g₃ h₂ t₂ (k.trans (G.le.trans k₃)) ⟨dx, (G.le.trans k₃) _ _ e, o, ho, ho'⟩ F3⟩
/-- Judge(rules, told) -/
theorem mkJudge {rv tv : Value} (am : Amb A 3 21) (B : Bs w mg mb c.H0) (F : Frm c L cl m cm vol g h)
    (q : ∀ x g' h' t', Le g g' → InsAt g' x 208 [("told", tv), ("rules", rv)] → Frm c L cl m cm vol g' h' → Q (.ref x) (upd s h' t')) :
    wpAny (model PR w) A (call (.ref 208) [rv, tv]) Q E (upd s h t) := by
  refine newI B F (mk_Judge _) (in_Judge _) (fn_Judge _) fun x dx g' h' k e hgd hdz hdz2 F' => ?_
  refine jinit_spec (am.make 208 _) (F'.pre B) e (F'.volat _ (.head _)).1 hgd fun h₂ t₂ kX hd => ?_
  have F2 := F'.called1s (pre := []) kX hd
  obtain ⟨g₃, k₃, ⟨o, ho, ho'⟩, F3⟩ := F2.freeze (pre := []) hdz
  exact ⟨rfl, q x g₃ h₂ t₂ (k.trans k₃) ⟨dx, k₃ _ _ e, o, ho, ho'⟩ F3⟩
end
end Rg
end
section
/-! _law_bent -/
open PySem PySem.W PyProof.Rows PySem.Calls PySem.SeqAt
set_option autoImplicit false
set_option maxRecDepth 100000
namespace Rg
theorem PairsAt.app {h : Heap} {vs ws : List Value} {ps qs : List (Str × Value)} (x : PairsAt h vs ps) (y : PairsAt h ws qs) : PairsAt h (vs ++ ws) (ps ++ qs) :=
  ⟨by rw [List.length_append, List.length_append, x.1, y.1], fun _ v p a b => (getElem?_two x.1 a b).elim (fun z => x.2 _ v p z.1 z.2) fun z => y.2 _ v p z.1 z.2⟩
theorem PairsAt.take {h : Heap} {vs : List Value} {ps : List (Str × Value)} (x : PairsAt h vs ps) (n : Nat) : PairsAt h (vs.take n) (ps.take n) :=
  ⟨by rw [List.length_take, List.length_take, x.1], fun i v p a b => by
    rw [List.getElem?_take] at a b
    split at a
    · rename_i hi
      rw [if_pos hi] at b
      exact x.2 i v p a b
    · cases a⟩
theorem PairsAt.drop {h : Heap} {vs : List Value} {ps : List (Str × Value)} (x : PairsAt h vs ps) (n : Nat) : PairsAt h (vs.drop n) (ps.drop n) :=
  ⟨by rw [List.length_drop, List.length_drop, x.1], fun i v p a b => by
    rw [List.getElem?_drop] at a b
    exact x.2 _ v p a b⟩
theorem PairsAt.reverse {h : Heap} {vs : List Value} {ps : List (Str × Value)} (x : PairsAt h vs ps) : PairsAt h vs.reverse ps.reverse := by
  refine ⟨by rw [List.length_reverse, List.length_reverse, x.1], fun i v p a b => ?_⟩
  have hi : i < vs.length := by have := (List.getElem?_eq_some_iff.mp a).1; rwa [List.length_reverse] at this
  rw [List.getElem?_reverse hi] at a
  rw [List.getElem?_reverse (x.1 ▸ hi), ← x.1] at b
  exact x.2 _ v p a b
theorem PairsAt.one {h : Heap} {a : Addr} {k : Str} {tk : Tok} {v : Value} (ht : IsTup h a #[.str k tk, v]) : PairsAt h [.ref a] [(k, v)] :=
  ⟨rfl, fun i v' p e1 e2 => by
    cases i with
    | zero => simp at e1 e2; subst e1 e2; exact ⟨a, tk, rfl, ht⟩
    | succ i => simp at e1⟩
theorem cans : ∀ xs : List Str, can xs ∈ ([[], ["?x"], ["?y"], ["?z"], ["?x", "?y"], ["?x", "?z"], ["?y", "?z"], ["?x", "?y", "?z"]] : List (List Str)) := by
  intro xs
  unfold can vns
  rw [List.filter_cons, List.filter_cons, List.filter_cons, List.filter_nil]
  split <;> split <;> split <;> decide +kernel
theorem rev_can : ∀ ks ∈ ([[], ["?x"], ["?y"], ["?z"], ["?x", "?y"], ["?x", "?z"], ["?y", "?z"], ["?x", "?y", "?z"]] : List (List Str)), ks.reverse = ks → ks.length ≤ 1 := by decide +kernel
/-- what a bending leaves: the places as they were, or other names -/
def Bent (ps zs : List (Str × Value)) : Prop := zs = ps ∨ zs.map (·.1) ≠ ps.map (·.1)
theorem bent_len {ps zs : List (Str × Value)} (h : zs.length ≠ ps.length) : Bent ps zs := .inr fun e => h (by have := congrArg List.length e; simpa using this)
theorem bent_rev {ps : List (Str × Value)} {xs : List Str} (h : ps.map (·.1) = can xs) : Bent ps ps.reverse := by
  by_cases e : (ps.reverse).map (·.1) = ps.map (·.1)
  · left
    rw [List.map_reverse, h] at e
    have := rev_can _ (cans xs) e
    rw [← h, List.length_map] at this
    match ps, this with
    | [], _ => rfl
    | [p], _ => rfl
    | _ :: _ :: _, t => simp at t
  · exact .inr e
theorem bent_v {ps : List (Str × Value)} {xs : List Str} (h : ps.map (·.1) = can xs) (n : Nat) (v : Value) : Bent ps (ps.take n ++ ([(("?v" : Str), v)] : List (Str × Value)) ++ ps.drop (n + 1)) := by
  right
  intro e
  have : ("?v" : Str) ∈ ps.map (·.1) := by rw [← e]; simp
  rw [h] at this
  exact absurd (can_sub _ this) (by decide +kernel)
section
variable {w : World} {mg mb : Str → Option Value} {A : Around} {E : Value → Shared → Prop} {s : Shared} {H0 h g : Heap} {t : Nat} {Q : Value → Shared → Prop}
theorem cEqE {l b : Addr} {vs : List Value} (hl : h.IsList l vs.toArray) (hb : h.IsList b (([] : List Value)).toArray) (hu : A.units < cLine) (q : Q (.bool vs.isEmpty) (upd s h t)) : wpAny (model PR w) A (compareOp .Eq (.ref l) (.ref b)) Q E (upd s h t) := by
  cases vs with
  | nil => exact cEqLS hl hb .nil .nil hu q
  | cons v vs => exact RcAt.lists_lengths (A := A) (s := upd s h t) hl hb (by simp) hu PR w E Q q
theorem cInTI {a : Addr} {k : Int} {tk u v : Tok} {x y : Int} (ha : IsTup h a #[.int x u, .int y v]) (q : Q (.bool (x == k || y == k)) (upd s h t)) : wpAny (model PR w) A (compareOp .In (.int k tk) (.ref a)) Q E (upd s h t) := by
  refine in_tupleAt (s := upd s h t) (PyProof.Rows.isInt k) ha (fun y' hy => (PyProof.Rows.eq_isInt k tk (vs := [.int x u, .int y v]) (ns := [x, y]) (.cons _ _ (.cons _ _ .nil)) y' (by simpa using hy)).at _ _) ?_
  show Q (.bool (#[Value.int x u, Value.int y v].any (PyProof.Rows.isInt k))) _
  rw [show #[Value.int x u, Value.int y v].any (PyProof.Rows.isInt k) = (x == k || y == k) by simp [PyProof.Rows.isInt]]
  exact q
theorem pick_rev (vs : List Value) (h : vs.length ≤ 3) : slicePick vs.toArray none none (some (-1)) = vs.reverse.toArray := by
  unfold slicePick
  match vs, h with
  | [], _ => rw [show sliceRange (sliceBounds none none (some (-1)) (([] : List Value)).toArray.size).1 (sliceBounds none none (some (-1)) (([] : List Value)).toArray.size).2.1 (sliceBounds none none (some (-1)) (([] : List Value)).toArray.size).2.2 = [] from by decide +kernel]; rfl
  | [a], _ => rw [show sliceRange (sliceBounds none none (some (-1)) [a].toArray.size).1 (sliceBounds none none (some (-1)) [a].toArray.size).2.1 (sliceBounds none none (some (-1)) [a].toArray.size).2.2 = [0] from by
      rw [show [a].toArray.size = 1 from rfl]; decide +kernel]; rfl
  | [a, b], _ => rw [show sliceRange (sliceBounds none none (some (-1)) [a, b].toArray.size).1 (sliceBounds none none (some (-1)) [a, b].toArray.size).2.1 (sliceBounds none none (some (-1)) [a, b].toArray.size).2.2 = [1, 0] from by
      rw [show [a, b].toArray.size = 2 from rfl]; decide +kernel]; rfl
  | [a, b, c], _ => rw [show sliceRange (sliceBounds none none (some (-1)) [a, b, c].toArray.size).1 (sliceBounds none none (some (-1)) [a, b, c].toArray.size).2.1 (sliceBounds none none (some (-1)) [a, b, c].toArray.size).2.2 = [2, 1, 0] from by
      rw [show [a, b, c].toArray.size = 3 from rfl]; decide +kernel]; rfl
  | _ :: _ :: _ :: _ :: _, z => simp at z
theorem bent_spec {fd row l : Addr} {i : Int} {vs : List Value} {ps : List (Str × Value)} {xs : List Str} (am : Amb A 3 30) (P : Pre w mg mb H0 g h) (hf : At h fd (pF w row i)) (hg : g.get? fd = none) (hr : RowOk g row) (h0 : 0 ≤ i) (h1 : i ≤ 9000)
    (hl : g.IsList l vs.toArray) (hp : PairsAt g vs ps) (hk : ps.map (·.1) = can xs)
    (q : ∀ D ws zs i' g' h' t', i ≤ i' → i' ≤ i + 2 → Grow h.objs.size g g' → Le g' h' → LeX [fd] h h' → At h' fd (pF w row i') → g'.IsList D ws.toArray → PairsAt g' ws zs → zs.length ≤ 4 → Bent ps zs → Q (.ref D) (upd s h' t')) :
    wpAny (model PR w) A (call (.ref 275) [.ref fd, .ref l]) Q E (upd s h t) := by
  obtain ⟨o, ho, hD⟩ := hf
  have hl3 : ps.length ≤ 3 := by have := can_len xs; rw [← hk, List.length_map] at this; exact this
  have hlen := hp.1
  refine enter (D_bent w.params) P (X := [fd]) (vol := [(fd, pF w row i)]) am.room (A_bent _ _ _) (by rfl) (by decide) ?_ (by simp) ?_
  · intro p hp
    rw [List.mem_singleton.mp hp]
    exact ⟨⟨o, ho, hD⟩, hg, by simp⟩
  · intro env L h₁ t₁ E' hL EF F
    have amd : Amb (A.deeper env) 2 27 := am.deeper
    refine wpAny_execs_cons (wpAny_Assign_Name ?_)
    refine callDef P.B EF F rfl (G_law_pick _) (D_pick _) (spl (ldL EF F rfl rfl (spl (eInt fun k3 t3 => spl0 ⟨F.H, ?_⟩))))
    refine pick_spec (amd.mono (by omega) (by omega)) (F.pre P.B) (F.volat _ (.head _)).1 (F.volat _ (.head _)).2.1 hr h0 (by omega) (by decide) (by decide) fun way tkw h₂ t₂ r0 r1 k hf2 => ?_
    have F1 := F.called1s (pre := []) k hf2
    refine stL EF F1 rfl fun h₃ t₃ F2 => ?_
    refine wpAny_execs_cons (wpAny_If (wpAny_isTrue_Compare1 (ldL EF F2 rfl rfl (eInt fun k1 t4 => cEq (tru ?_)))))
    split
    · refine wpAny_execs_cons (wpAny_Return_some (wpAny_BinOp (ldL EF F2 rfl rfl (eList (spl (eTup (spl (eStr fun k2 t5 => ?_))))))))
      refine spl (eTup (spl (eStr fun k3 t6 => spl0 (mkTup F2 (by simp) fun a1 g₄ h₄ k₄ ha1 F4 => ?_))))
      refine spl0 (mkTup F4 (by simp) fun a2 g₅ h₅ k₅ ha2 F5 => spl0 (mkList F5 (by simp) fun a3 h₆ ha3 F6 => ?_))
      refine lAdd F6 (isList_le hl (k₄.trans (k₅.trans F6.keep))) (F6.vat (a3, _) (.head _)) (by simp; omega) fun D g₇ h₇ k₇ hD7 F7 => ?_
      have F8 := F7.vdrop (pre := [(a3, _)])
      exact q D _ (ps ++ ([(("?w" : Str), Value.ref a1)] : List (Str × Value))) (i + 1) g₇ h₇ _ (by omega) (by omega) F8.gr F8.keep F8.old (F8.vat _ (.head _)) hD7 ((hp.le (k₄.trans (k₅.trans k₇))).app (.one (isTup_le ha2 k₇))) (by simp; omega) (bent_len (by simp))
    · refine wpAny_execs_nil (wpAny_execs_cons (wpAny_If (wpAny_isTrue_Compare1 (ldL EF F2 rfl rfl (eInt fun k1 t4 => cEq (tru ?_))))))
      split
      · refine wpAny_execs_cons (wpAny_Return_some (Subscript_ (ldL EF F2 rfl rfl ?_)))
        refine lSlice (pN (pN (pS' ?_)))
        refine wpAny_UnaryOp (eInt fun k2 t5 => PyProof.Rows.neg_int (s := upd s _ t5) ?_)
        refine lTail F2 (isList_le hl F2.keep) .none .none (.int _ _) (by decide) (by rw [List.size_toArray]; omega) fun D g₄ h₄ t₆ k₄ hD4 F4 => ?_
        have hrv := pick_rev vs (by omega)
        rw [hrv] at hD4
        exact q D _ ps.reverse (i + 1) g₄ h₄ _ (by omega) (by omega) F4.gr F4.keep F4.old (F4.vat _ (.head _)) hD4 (hp.le k₄).reverse (by simp; omega) (bent_rev hk)
      · refine wpAny_execs_nil (wpAny_execs_cons (wpAny_If ?_))
        refine cut (R := fun b s' => ∃ g₄ h₄ t₄, s' = upd s h₄ t₄ ∧ Le g g₄ ∧ (b = false → vs ≠ []) ∧ Frm ⟨H0, h, g, [fd]⟩ L (cellsFrom (L + 1) N_bent []) (fun y => if y = "way" then some (.int way tkw) else bindL (fun x => N_bent.lookup x) [("feed", .ref fd), ("places", .ref l)] (fun _ => none) y)
          (bindC (fun x => N_bent.lookup x) [("feed", .ref fd), ("places", .ref l)] fun _ => none) [(fd, pF w row (i + 1))] g₄ h₄) ?_ ?_
        · refine isTrue_or (wpAny_isTrue_Compare1 (ldL EF F2 rfl rfl (eList (spl0 (mkList F2 (by simp) fun ln h₄ hln F3 => ?_)))))
          refine cEqE (isList_le hl F3.keep) (F3.vat (ln, _) (.head _)) amd.hu (tru ?_)
          have F4 := F3.vdrop (pre := [(ln, _)])
          split
          · exact ⟨g, h₄, _, rfl, Le.refl _, by simp, F4⟩
          · rename_i hne
            refine isTrue_or (wpAny_isTrue_Compare1 (ldL EF F4 rfl rfl (eTup (spl (eInt fun k5 t6 => spl (eInt fun k6 t7 => spl0 (mkTup F4 (by simp) fun tp g₅ h₅ k₅ htp F5 => ?_)))))))
            refine cInTI (isTup_le htp F5.keep) (tru ?_)
            split
            · exact ⟨g₅, h₅, _, rfl, k₅, by simp, F5⟩
            · exact isTrue_or_nil ⟨g₅, h₅, _, rfl, k₅, fun _ e => hne (by rw [e]; rfl), F5⟩
        · rintro b s' ⟨g₄, h₄, t₄, rfl, kg4, hb, F4⟩
          have hl4 := isList_le hl kg4
          have hp4 := hp.le kg4
          split
          · refine wpAny_execs_cons (wpAny_Return_some (ldL EF F4 rfl rfl ?_))
            exact q l vs ps (i + 1) g₄ h₄ _ (by omega) (by omega) F4.gr F4.keep F4.old (F4.vat _ (.head _)) hl4 hp4 (by omega) (.inl rfl)
          · rename_i hbf
            have hne := hb (eq_false_of_ne_true hbf)
            have hpos : 1 ≤ vs.length := by
              rcases vs with _ | ⟨v, vs⟩
              · exact absurd rfl hne
              · simp
            refine wpAny_execs_nil (wpAny_execs_cons (wpAny_Assign_Name ?_))
            refine callDef P.B EF F4 rfl (G_law_pick _) (D_pick _) (spl (ldL EF F4 rfl rfl (spl ?_)))
            refine callBlt P.B EF F4 rfl (G0_len _) (by boot_by_name) (spl (ldL EF F4 rfl rfl (spl0 (lLen (isList_le hl4 F4.keep) (by rw [List.size_toArray]; omega) fun k7 t8 => spl0 ⟨F4.H, ?_⟩))))
            refine pick_spec (amd.mono (by omega) (by omega)) (F4.pre P.B) (F4.vat _ (.head _)) (F4.volat _ (.head _)).2.1 (hr.le kg4) (by omega) (by omega) (by rw [List.size_toArray]; omega) (by rw [List.size_toArray]; omega) fun spot tks h₅ t₅ p0 p1 kX hf5 => ?_
            rw [List.size_toArray] at p1
            have F5 := F4.called1s (pre := []) kX hf5
            obtain ⟨sp, rfl⟩ : ∃ sp : Nat, spot = (sp : Int) := ⟨spot.toNat, by omega⟩
            have hsp : sp < vs.length := by omega
            have hspp : sp < ps.length := by omega
            refine stL EF F5 rfl fun h₆ t₆ F6 => ?_
            have pu : slicePick vs.toArray none (some (sp : Int)) none = (vs.take sp).toArray := slicePick_upto' vs.toArray sp
            have pu1 : slicePick vs.toArray none (some ((sp : Int) + 1)) none = (vs.take (sp + 1)).toArray := slicePick_upto' vs.toArray (sp + 1)
            have pf : slicePick vs.toArray (some (sp : Int)) none none = (vs.drop sp).toArray := slicePick_from' vs.toArray sp
            have pf1 : slicePick vs.toArray (some ((sp : Int) + 1)) none none = (vs.drop (sp + 1)).toArray := slicePick_from' vs.toArray (sp + 1)
            have hz : vs.toArray.size ≤ 2 ^ 20 := by rw [List.size_toArray]; omega
            refine wpAny_execs_cons (wpAny_If (wpAny_isTrue_Compare1 (ldL EF F6 rfl rfl (eInt fun k8 t9 => cEq (tru ?_)))))
            split
            · refine wpAny_execs_cons (wpAny_Return_some (wpAny_BinOp (Subscript_ (ldL EF F6 rfl rfl (lSlice (pN (pS' (ldL EF F6 rfl rfl (pN ?_)))))))))
              refine lTail F6 (isList_le hl4 F6.keep) .none (.int _ _) .none (by decide) hz fun D1 g₇ h₇ t₇ k₇ hD1 F7 => ?_
              rw [pu] at hD1
              refine Subscript_ (ldL EF F7 rfl rfl (lSlice (pS' (wpAny_BinOp (ldL EF F7 rfl rfl (eInt fun k9 ta => oAdd fun kb tb => pN (pN ?_)))))))
              refine lTail F7 (isList_le hl4 (k₇.trans F7.keep)) (.int _ _) .none .none (by decide) hz fun D2 g₈ h₈ t₈ k₈ hD2 F8 => ?_
              rw [pf1] at hD2
              refine lAdd F8 (isList_le hD1 (k₈.trans F8.keep)) (isList_le hD2 F8.keep) (by simp; omega) fun D g₉ h₉ k₉ hD9 F9 => ?_
              exact q D _ (ps.take sp ++ ps.drop (sp + 1)) (i + 1 + 1) g₉ h₉ _ (by omega) (by omega) F9.gr F9.keep F9.old (F9.vat _ (.head _)) hD9 (((hp4.take sp).app (hp4.drop (sp + 1))).le (k₇.trans (k₈.trans k₉))) (by simp; omega) (bent_len (by simp; omega))
            · refine wpAny_execs_nil (wpAny_execs_cons (wpAny_If (wpAny_isTrue_Compare1 (ldL EF F6 rfl rfl (eInt fun k8 t9 => cEq (tru ?_))))))
              split
              · refine wpAny_execs_cons (wpAny_Return_some (wpAny_BinOp (Subscript_ (ldL EF F6 rfl rfl (lSlice (pN (pS' (wpAny_BinOp (ldL EF F6 rfl rfl (eInt fun k9 ta => oAdd fun kb tb => pN ?_))))))))))
                refine lTail F6 (isList_le hl4 F6.keep) .none (.int _ _) .none (by decide) hz fun D1 g₇ h₇ t₇ k₇ hD1 F7 => ?_
                rw [pu1] at hD1
                refine Subscript_ (ldL EF F7 rfl rfl (lSlice (pS' (ldL EF F7 rfl rfl (pN (pN ?_))))))
                refine lTail F7 (isList_le hl4 (k₇.trans F7.keep)) (.int _ _) .none .none (by decide) hz fun D2 g₈ h₈ t₈ k₈ hD2 F8 => ?_
                rw [pf] at hD2
                refine lAdd F8 (isList_le hD1 (k₈.trans F8.keep)) (isList_le hD2 F8.keep) (by simp; omega) fun D g₉ h₉ k₉ hD9 F9 => ?_
                exact q D _ (ps.take (sp + 1) ++ ps.drop sp) (i + 1 + 1) g₉ h₉ _ (by omega) (by omega) F9.gr F9.keep F9.old (F9.vat _ (.head _)) hD9 (((hp4.take (sp + 1)).app (hp4.drop sp)).le (k₇.trans (k₈.trans k₉))) (by simp; omega) (bent_len (by simp; omega))
              · refine wpAny_execs_nil (wpAny_execs_cons (wpAny_Return_some (wpAny_BinOp (wpAny_BinOp ?_))))
                refine Subscript_ (ldL EF F6 rfl rfl (lSlice (pN (pS' (ldL EF F6 rfl rfl (pN ?_))))))
                refine lTail F6 (isList_le hl4 F6.keep) .none (.int _ _) .none (by decide) hz fun D1 g₇ h₇ t₇ k₇ hD1 F7 => ?_
                rw [pu] at hD1
                obtain ⟨pp, ap, tkp, e1, e2, e3⟩ := hp4.get (List.getElem?_eq_getElem hsp)
                refine eList (spl (eTup (spl (eStr fun ka ta => ?_))))
                refine spl (Subscript_ (Subscript_ (ldL EF F7 rfl rfl (ldL EF F7 rfl rfl ?_))))
                refine lGet (isList_le hl4 (k₇.trans F7.keep)) (by omega) (by omega) (x := vs[sp]) (by simp [hsp]) ?_
                rw [e2]
                refine eInt fun kb tb => tGet (isTup_le e3 (k₇.trans F7.keep)) (by decide) (by decide) (j := 1) (by simp [seqIndex?]) (x := pp.2) (by simp) ?_
                refine spl0 (mkTup F7 (by simp) fun a2 gb hb' kb' ha2 Fb => spl0 (mkList Fb (by simp) fun a3 hc ha3 Fc => ?_))
                refine lAdd Fc (isList_le hD1 (kb'.trans Fc.keep)) (Fc.vat (a3, _) (.head _)) (by simp; omega) fun D4 gd hd kd hD4 Fd => ?_
                have Fd' := Fd.vdrop (pre := [(a3, _)])
                refine Subscript_ (ldL EF Fd' rfl rfl (lSlice (pS' (wpAny_BinOp (ldL EF Fd' rfl rfl (eInt fun k9 ta => oAdd fun kb tb => pN (pN ?_)))))))
                refine lTail Fd' (isList_le hl4 (k₇.trans (kb'.trans (kd.trans Fd'.keep)))) (.int _ _) .none .none (by decide) hz fun D2 g₈ h₈ t₈ k₈ hD2 F8 => ?_
                rw [pf1] at hD2
                refine lAdd F8 (isList_le hD4 (k₈.trans F8.keep)) (isList_le hD2 F8.keep) (by simp; omega) fun D g₉ h₉ k₉ hD9 F9 => ?_
                refine q D _ (ps.take sp ++ ([(("?v" : Str), pp.2)] : List (Str × Value)) ++ ps.drop (sp + 1)) (i + 1 + 1) g₉ h₉ _ (by omega) (by omega) F9.gr F9.keep F9.old (F9.vat _ (.head _)) hD9 ?_ (by simp; omega) (bent_v hk sp pp.2)
                exact (((hp4.take sp).le (k₇.trans (kb'.trans (kd.trans (k₈.trans k₉))))).app (.one (isTup_le ha2 (kd.trans (k₈.trans k₉))))).app ((hp4.drop (sp + 1)).le (k₇.trans (kb'.trans (kd.trans (k₈.trans k₉)))))
end
end Rg
end
section
/-! is_plain_term -/
open PySem PySem.W PyProof.Rows PySem.Calls PySem.SeqAt
set_option autoImplicit false
set_option maxRecDepth 100000
namespace Rg
/-- a term without variables -/
def Gr (n : Nat) (t : Tm) : Prop := t.Dp n ∧ ∀ p ∈ t.parts, isQ p.op = false
theorem Gr.kid {n : Nat} {op : Str} {ks : List Tm} (h : Gr (n + 1) (.node op ks)) {k : Tm} (hk : k ∈ ks) : Gr n k :=
  ⟨h.1.2.2.2 k hk, fun p hp => h.2 p (by rw [Tm.parts, partsL_eq]; exact .tail _ (List.mem_flatMap.mpr ⟨k, hk, hp⟩))⟩
theorem Gr.mono {n m : Nat} {t : Tm} (h : Gr n t) (k : n ≤ m) : Gr m t := ⟨h.1.mono k, h.2⟩
theorem KidsOk.split {h : Heap} {vs : List Value} {ks : List Tm} {v : Value} (x : KidsOk h (vs ++ [v]) ks) : ∃ ks' k, ks = ks' ++ [k] ∧ KidsOk h vs ks' ∧ IsTm h v k := by
  have hl := x.1
  rw [List.length_append, List.length_singleton] at hl
  obtain ⟨ks', k, rfl⟩ : ∃ ks' k, ks = ks' ++ [k] := ⟨ks.dropLast, ks.getLast (by intro e; rw [e] at hl; simp at hl), (List.dropLast_concat_getLast _).symm⟩
  have hl' : vs.length = ks'.length := by simp at hl; omega
  refine ⟨ks', k, rfl, ⟨hl', fun i v' k' a b => x.2 i v' k' ?_ ?_⟩, x.2 vs.length v k (by simp) (by rw [hl']; simp)⟩
  · rw [List.getElem?_append_left (List.getElem?_eq_some_iff.mp a).1]; exact a
  · rw [List.getElem?_append_left (List.getElem?_eq_some_iff.mp b).1]; exact b
theorem KidsOk.app {h : Heap} {vs ws : List Value} {ks js : List Tm} (x : KidsOk h vs ks) (y : KidsOk h ws js) : KidsOk h (vs ++ ws) (ks ++ js) :=
  ⟨by rw [List.length_append, List.length_append, x.1, y.1], fun _ v p a b => (getElem?_two x.1 a b).elim (fun z => x.2 _ v p z.1 z.2) fun z => y.2 _ v p z.1 z.2⟩
section
variable {w : World} {mg mb : Str → Option Value} {A : Around} {E : Value → Shared → Prop} {s : Shared} {h g : Heap} {t : Nat} {vol : Vol} {names : List (Str × NameKind)} {env : Env}
  {c : Cx} {L : Addr} {cl : List (Str × Addr)} {m cm : Str → Option Value} {Q : Value → Shared → Prop}
theorem isiTT {a : Addr} {items : Array Value} (ha : IsTup h a items) (q : Q (.bool true) (upd s h t)) : wpAny (model PR w) A (call (.builtin "isinstance") [.ref a, .type "tuple"]) Q E (upd s h t) := by
  obtain ⟨o, ho, hc, _⟩ := ha
  exact IsiPair.tuple_tuple ho hc q
theorem isiSS {x : Str} {u : Tok} (q : Q (.bool true) (upd s h t)) : wpAny (model PR w) A (call (.builtin "isinstance") [.str x u, .type "str"]) Q E (upd s h t) := IsiPair.str_str q
/-- isinstance(e, T) -/
theorem callIsi {T : Str} {np tp pos : Pos} {e : Expr} {ty : String} (B : Bs w mg mb c.H0) (EF : EnvF env names cl L) (F : Frm c L cl m cm vol g h) (hl : names.lookup ("isinstance" : Str) = some .globalImplicit) (hT : names.lookup T = some .globalImplicit)
    (hg : nsIn (KF w) mainGlobals T = some none) (hv : bootBuiltins T = some (.type ty))
    (q : wpAny (model PR w) A (eval e env) (fun v s₁ => ∃ h₁ t₁ g₁, s₁ = upd s h₁ t₁ ∧ Frm c L cl m cm vol g₁ h₁ ∧ wpAny (model PR w) A (call (.builtin "isinstance") [v, .type ty]) Q E s₁) E (upd s h t))
    (he : starEach [e, .Name T tp] env = (false, eval e env) :: starEach [.Name T tp] env := by rfl) (hp : (backTo pos (starEach [e, .Name T tp] env)).any (·.1) = false := by rfl)
    (he2 : starEach [.Name T tp] env = (false, eval (.Name T tp) env) :: starEach [] env := by rfl)
    (hn : T ≠ "__name__" := by decide) (hd : (T == ("__debug__" : Str)) = false := by decide) : wpAny (model PR w) A (eval (.Call (.Name "isinstance" np) [e, .Name T tp] [] pos) env) Q E (upd s h t) := by
  refine callBlt B EF F hl (G0_isinstance _) (by boot_by_name) (spl ?_ he) he hp
  refine wpAny_mono q (fun v s₁ z => ?_) fun _ _ z => z
  obtain ⟨h₁, t₁, g₁, rfl, F1, z⟩ := z
  exact spl (ldB B EF F1 hT hg hv (spl0 z) hn hd) he2
end
section
variable {w : World} {mg mb : Str → Option Value} {A : Around} {E : Value → Shared → Prop} {s : Shared} {H0 h g : Heap} {t : Nat} {Q : Value → Shared → Prop}
theorem plain_spec {v : Value} {tm : Tm} {n : Nat} (am : Amb A 2 20) (P : Pre w mg mb H0 g h) (hv : IsTm g v tm) (hd : Gr n tm) (hn : n ≤ 5) (q : ∀ h' t', Le h h' → Q (.bool true) (upd s h' t')) :
    wpAny (model PR w) A (call (.ref 138) [v]) Q E (upd s h t) := by
  refine enter (D_plain w.params) P (X := []) (vol := []) am.room (A_plain _ _) (by rfl) (by decide) (by simp) (by simp) fun env L h₁ t₁ E' hL EF F => ?_
  have amd : Amb (A.deeper env) 1 17 := am.deeper
  refine wpAny_execs_cons (wpAny_Assign_Name (eList (spl (ldL EF F rfl rfl (spl0 (mkListM F (by simp) fun wl h₂ hwl F2 => ?_))))))
  refine stL EF F2 rfl fun h₃ t₃ F3 => ?_
  refine wpAny_execs_cons ?_
  refine while_close F3 (fun k m' cm' vol' g' => m' "waiting" = some (.ref wl) ∧ ∃ items ts, vol' = [(wl, pM items)] ∧ KidsOk g' items ts ∧ (∀ x ∈ ts, Gr n x) ∧ k = (partsL ts).length ∧ k ≤ 4 ^ 5) (partsL [tm]).length ?_ ?_
  · have hpl := parts_len hd.1
    refine ⟨rfl, [v], [tm], rfl, (KidsOk.nil _).snoc hv, by simp; exact hd, rfl, ?_⟩
    have : 4 ^ n ≤ 4 ^ 5 := Nat.pow_le_pow_right (by decide) hn
    simp [partsL]; omega
  · rintro k m' cm' vol' g' h' t' ⟨j1, items, ts, rfl, hk, hts, rfl, hkz⟩ kg FF
    have hvol := FF.volat (wl, pM items) (by simp)
    have hil : items.length ≤ (partsL ts).length := by
      rw [hk.1, partsL_eq]
      clear hk hts hkz hvol FF
      induction ts with
      | nil => simp
      | cons x ts ih =>
        rw [List.flatMap_cons, List.length_append, List.length_cons]
        have : 1 ≤ x.parts.length := by cases x; rw [Tm.parts, List.length_cons]; omega
        omega
    refine wpAny_isTrue_Compare1 ?_
    refine callBlt P.B EF FF rfl (G0_len _) (by boot_by_name) (spl (ldL EF FF rfl j1 (spl0 (lLen (pM.at hvol.1) (by rw [List.size_toArray]; omega) fun k1 t4 => eInt fun k2 t5 => cGt (tru ?_)))))
    split
    · rename_i hpos
      have hpos : 0 < items.length := by have := of_decide_eq_true hpos; rw [List.size_toArray] at this; omega
      obtain ⟨its, x, rfl⟩ : ∃ its x, items = its ++ [x] := ⟨items.dropLast, items.getLast (by intro e; rw [e] at hpos; simp at hpos), (List.dropLast_concat_getLast _).symm⟩
      obtain ⟨ts', k, rfl, hk', hkx⟩ := hk.split
      cases k with
      | node op ks =>
      have hG := hts (.node op ks) (by simp)
      obtain ⟨a, tk, vs, rfl, ht, hl, hkk⟩ := hkx.inv
      cases n with
      | zero => exact hG.1.elim
      | succ n =>
      obtain ⟨d1, d2, d3, d4⟩ := hG.1
      have hiq : isQ op = false := hG.2 (.node op ks) (by rw [Tm.parts]; exact .head _)
      refine wpAny_execs_cons (wpAny_Assign_Name ?_)
      refine mList0 PySem.F.slot_list_pop PySem.F.type_list_pop hvol.1 (fun Q' z => ldL EF FF rfl j1 z) ?_
      refine popL hvol.1 (by simp at hil; omega) fun h₄ at4 kX => ?_
      have F4 := FF.called1s (pre := []) kX at4
      refine stL EF F4 rfl fun h₅ t₅ F5 => ?_
      have hsz : (Value.str op tk :: vs).toArray.size = ks.length + 1 := by rw [List.size_toArray, List.length_cons, hl]
      have h0 : seqIndex? 0 (Value.str op tk :: vs).toArray.size = some 0 := by rw [hsz]; simp [seqIndex?]; try omega
      have ht5 := isTup_le ht F5.keep
      refine wpAny_execs_cons (wpAny_If (isTrue_or (isTrue_not (isTrue_plain ?_))))
      refine callIsi P.B EF F5 rfl rfl (G0_tuple _) (by boot_by_name) (ldL EF F5 rfl rfl ⟨_, _, g', rfl, F5, isiTT ht5 (tru ?_)⟩)
      rw [Bool.not_true, if_neg Bool.false_ne_true]
      refine isTrue_or (wpAny_isTrue_Compare1 ?_)
      refine callBlt P.B EF F5 rfl (G0_len _) (by boot_by_name) (spl (ldL EF F5 rfl rfl (spl0 (tLen ht5 (by omega) fun k1 t2 => eInt fun k2 t3 => cEq (tru ?_)))))
      rw [hsz, show (((ks.length + 1 : Nat) : Int) == 0) = false from beq_eq_false_iff_ne.mpr (by omega), if_neg Bool.false_ne_true]
      refine isTrue_or (isTrue_not (isTrue_plain ?_))
      refine callIsi P.B EF F5 rfl rfl (G0_str _) (by boot_by_name) (Subscript_ (ldL EF F5 rfl rfl (eInt fun k3 t4 => tGet ht5 (by decide) (by decide) (j := 0) h0 (x := .str op tk) (by simp) ⟨_, _, g', rfl, F5, isiSS (tru ?_)⟩)))
      rw [Bool.not_true, if_neg Bool.false_ne_true]
      refine isTrue_or (wpAny_isTrue_Compare1 ?_)
      refine Subscript_ (Subscript_ (ldL EF F5 rfl rfl (eInt fun k3 t4 => tGet ht5 (by decide) (by decide) (j := 0) h0 (x := .str op tk) (by simp) ?_)))
      refine sTo F5 (by omega) fun tk' h₆ t₆ F6 => eTup (spl (eStr fun k4 t5 => spl (eStr fun k5 t6 => spl0 (mkTup F6 (by simp) fun tp g₇ h₇ k₇ htp F7 => ?_))))
      refine cInT (fs := ["", "?"]) (isTup_le htp F7.keep) (.cons _ _ (.cons _ _ .nil)) (tru ?_)
      have hnot : (["", "?"] : List Str).contains (Txt.slice op none (some 1)) = false := by
        obtain ⟨ch, r, e1, e2⟩ := slice1 d2
        have h1 : (Txt.slice op none (some 1) == ("?" : Str)) = false := by rw [show ("?" : Str) = Str.ofString "?" from rfl, slice1_isQ d2]; exact hiq
        have h2 : (Txt.slice op none (some 1) == ("" : Str)) = false := by
          rw [e2]
          refine beq_eq_false_iff_ne.mpr fun q => ?_
          rw [show ("" : Str) = ⟨#[]⟩ by decide +kernel] at q
          injection q with q; simp at q
        rw [List.contains_cons, List.contains_cons, h1, h2]; rfl
      rw [hnot, if_neg Bool.false_ne_true]
      refine isTrue_or_nil ?_
      rw [if_neg Bool.false_ne_true]
      refine wpAny_execs_nil ?_
      refine wpAny_execs_cons (wpAny_Expr_any ?_ EF.inter)
      have hvol7 := F7.volat (wl, pM its) (by simp)
      refine mList1 PySem.F.slot_list_extend PySem.F.type_list_extend hvol7.1 (fun Q' z => ldL EF F7 rfl j1 z) ?_
      refine Subscript_ (ldL EF F7 rfl rfl ?_)
      refine tFrom (i := 1) F7 (isTup_le ht k₇) rfl (by omega) (by omega) (by omega) fun b g₈ h₈ t₈ k₈ htb F8 => ?_
      have htb' : IsTup g₈ b vs.toArray := by simpa using htb
      have hvol8 := F8.volat (wl, pM its) (by simp)
      refine extL hvol8.1 (.inr (isTup_le htb' F8.keep)) (by rw [List.size_toArray]; simp at hil; omega) fun h₉ at9 kX9 => ?_
      have F9 := F8.called1s (pre := []) kX9 at9
      have hsum : (partsL (ts' ++ ks)).length + 1 = (partsL (ts' ++ [.node op ks])).length := by
        rw [partsL_eq, partsL_eq, List.flatMap_append, List.flatMap_append, List.length_append, List.length_append]
        simp [Tm.parts, partsL_eq]; omega
      refine wpAny_execs_nil ⟨h₉, _, (partsL (ts' ++ ks)).length, _, _, [(wl, pM (its ++ vs))], g₈, rfl, by omega, F9, k₇.trans k₈, j1, its ++ vs, ts' ++ ks, rfl, ?_, ?_, rfl, by omega⟩
      · exact (hk'.le (k₇.trans k₈)).app ⟨hl, fun i v k a b => (hkk i v k a b).le (k₇.trans k₈)⟩
      · intro x hx
        rcases List.mem_append.mp hx with hx | hx
        · exact hts x (by simp [hx])
        · exact (hG.kid hx).mono (by omega)
    · refine wpAny_execs_cons (wpAny_Return_some (eBool ?_))
      exact q _ _ FF.old.le
end
end Rg
end
section
/-! are_places, of good places -/
open PySem PySem.W PyProof.Rows PySem.Calls PySem.SeqAt
set_option autoImplicit false
set_option maxRecDepth 100000
namespace Rg
/-- the places' terms -/
def PlainPs (g : Heap) (ps : List (Str × Value)) : Prop := ∀ p ∈ ps, ∃ tm, IsTm g p.2 tm ∧ Gr 3 tm
theorem PlainPs.le {g g' : Heap} {ps : List (Str × Value)} (x : PlainPs g ps) (k : Le g g') : PlainPs g' ps := fun p hp => let ⟨tm, a, b⟩ := x p hp; ⟨tm, a.le k, b⟩
theorem cNotTwo : True := trivial
section
variable {w : World} {mg mb : Str → Option Value} {A : Around} {E : Value → Shared → Prop} {s : Shared} {H0 h g : Heap} {t : Nat} {Q : Value → Shared → Prop}
theorem places_spec {a : Addr} {vs : List Value} {ps : List (Str × Value)} {xs : List Str} (am : Amb A 3 40) (P : Pre w mg mb H0 g h) (ha : IsTup g a vs.toArray) (hp : PairsAt g vs ps) (hk : ps.map (·.1) = can xs) (hpl : PlainPs g ps)
    (q : ∀ d' h' t', Le h h' → Q (.bool true) (upd { s with drawn := d' } h' t')) : wpAny (model PR w) A (call (.ref 143) [.ref a]) Q E (upd s h t) := by
  have hl3 : ps.length ≤ 3 := by have := can_len xs; rw [← hk, List.length_map] at this; exact this
  have hlen := hp.1
  refine enter (D_places w.params) P (X := []) (vol := []) am.room (A_places _ _) (by rfl) (by decide) (by simp) (by simp) fun env L h₁ t₁ E' hL EF F => ?_
  have amd : Amb (A.deeper env) 2 37 := am.deeper
  refine wpAny_execs_cons (wpAny_If (isTrue_or (isTrue_not (isTrue_plain ?_))))
  refine callIsi P.B EF F rfl rfl (G0_tuple _) (by boot_by_name) (ldL EF F rfl rfl ⟨_, _, g, rfl, F, isiTT (isTup_le ha F.keep) (tru ?_)⟩)
  rw [Bool.not_true, if_neg Bool.false_ne_true]
  refine isTrue_or (wpAny_isTrue_Compare1 (lc_open EF (ldL EF F rfl rfl (itTup F ha fun it h₂ hit F2 => ?_))))
  refine lc_close (n := vs.toArray.size) (vx := []) (vr := []) EF F2 (ItR.tuple amd.handled hit ha) (by rw [List.size_toArray]; omega) (fun i ys g' vx' => vx' = [] ∧ ys = []) ?_ ?_ ?_ ?_
  · exact ⟨rfl, rfl⟩
  · rintro _ _ _ _ ⟨rfl, _⟩; rfl
  · rintro C D' cenv i ys g₁ vx' mC h' t' v hi' ⟨rfl, rfl⟩ EC kg₁ FC hx
    have hx' : vs[i]? = some v := by simpa using hx
    obtain ⟨p, b, tk, _, rfl, hb⟩ := hp.get hx'
    refine asgN EC FC rfl fun hA tA FA => tests1 (isTrue_or (isTrue_not (isTrue_plain ?_)))
    have hbA := isTup_le hb (kg₁.trans FA.keep)
    refine callIsi P.B EC FA rfl rfl (G0_tuple _) (by boot_by_name) (ldL EC FA rfl rfl ⟨_, _, g₁, rfl, FA, isiTT hbA (tru ?_)⟩)
    rw [Bool.not_true, if_neg Bool.false_ne_true]
    refine isTrue_or (wpAny_isTrue_Compare1 ?_)
    refine callBlt P.B EC FA rfl (G0_len _) (by boot_by_name) (spl (ldL EC FA rfl rfl (spl0 (tLen hbA (by simp) fun k1 t2 => eInt fun k2 t3 => cNe (tru ?_)))))
    rw [show (((#[Value.str p.1 tk, p.2] : Array Value).size : Int) != 2) = false by rfl, if_neg Bool.false_ne_true]
    refine isTrue_or_nil ?_
    rw [if_neg Bool.false_ne_true]
    exact ⟨hA, _, g₁, [], _, rfl, FA, rfl, rfl⟩
  · rintro D1 ys g₁ gg vx' hh tt Ff kk1 kk2 hl' ⟨rfl, rfl⟩
    refine eList (spl0 (mkList Ff (by simp) fun ln h₃ hln F3 => ?_))
    refine cNeNil (isList_le hl' F3.keep) (F3.vat _ (.head _)) amd.hu (tru ?_)
    have F4 := F3.vdrop (pre := [(ln, _)])
    rw [if_neg Bool.false_ne_true]
    refine isTrue_or_nil ?_
    rw [if_neg Bool.false_ne_true]
    have e4 : Le g gg := kk1.trans kk2
    refine wpAny_execs_nil (wpAny_execs_cons (lc_openA EF rfl (ldL EF F4 rfl rfl (itTup F4 (isTup_le ha e4) fun it2 h₅ hit2 F5 => ?_))))
    refine lc_closeA (n := vs.toArray.size) (vx := []) (vr := []) EF rfl F5 (ItR.tuple amd.handled hit2 (isTup_le ha e4)) (by rw [List.size_toArray]; omega) (fun i ys g' vx' => vx' = [] ∧ StrsAre ys ((ps.take i).map (·.1))) ?_ ?_ ?_ ?_
    · exact ⟨rfl, .nil⟩
    · rintro _ _ _ _ ⟨rfl, _⟩; rfl
    · rintro C D' cenv i ys g₁ vx' mC h' t' v hi' ⟨rfl, hys⟩ EC kg₁ FC hx
      have hx' : vs[i]? = some v := by simpa using hx
      obtain ⟨p, b, tk, ep, rfl, hb⟩ := hp.get hx'
      refine asgN EC FC rfl fun hA tA FA => tests0 ?_
      rw [if_pos rfl]
      refine Subscript_ (ldL EC FA rfl rfl (eInt fun k3 t4 => tGet (isTup_le hb (e4.trans (kg₁.trans FA.keep))) (by decide) (by decide) (j := 0) (by simp [seqIndex?]) (x := .str p.1 tk) (by simp) ?_))
      refine ⟨hA, _, g₁, [], _, rfl, FA, rfl, ?_⟩
      have hip : i < ps.length := (List.getElem?_eq_some_iff.mp ep).1
      have epi : ps[i] = p := (List.getElem?_eq_some_iff.mp ep).2
      rw [List.take_succ_eq_append_getElem hip, List.map_append, epi]
      exact strsAre_app hys (.cons _ tk .nil)
    · rintro D2 ys g₂ gg2 vx' hh2 tt2 Fg kk3 kk4 hl2 ⟨rfl, hys⟩
      rw [List.size_toArray, hlen, List.take_length, hk] at hys
      have hyl := strsAre_len hys
      have hc3 := can_len xs
      have e5 : Le g gg2 := e4.trans (kk3.trans kk4)
      refine wpAny_execs_cons (wpAny_If (wpAny_isTrue_Compare1 (lc_open EF (ldL EF Fg rfl rfl (itList Fg hl2 fun it3 h₆ hit3 F6 => ?_)))))
      refine lc_close (n := ys.toArray.size) (vx := []) (vr := []) EF F6 (ItR.list amd.handled hit3 hl2) (by rw [List.size_toArray]; omega) (fun i us g' vx' => vx' = [] ∧ us = []) ?_ ?_ ?_ ?_
      · exact ⟨rfl, rfl⟩
      · rintro _ _ _ _ ⟨rfl, _⟩; rfl
      · rintro C D' cenv i us g₁ vx' mC h' t' v hi' ⟨rfl, rfl⟩ EC kg₁ FC hx
        have hi : i < ys.length := by simpa using hi'
        obtain ⟨tki, ei⟩ := strsAre_get hys i hi (by omega)
        have hv : v = .str (can xs)[i] tki := by
          have : ys[i]? = some v := by simpa using hx
          rw [List.getElem?_eq_getElem hi, ei] at this
          exact (Option.some.inj this).symm
        subst hv
        have hvn := vns_len (can_sub _ (List.getElem_mem (l := can xs) (n := i) (by omega)))
        refine asgN EC FC rfl fun hA tA FA => tests1 (isTrue_or (isTrue_not (isTrue_plain ?_)))
        refine callIsi P.B EC FA rfl rfl (G0_str _) (by boot_by_name) (ldL EC FA rfl rfl ⟨_, _, g₁, rfl, FA, isiSS (tru ?_)⟩)
        rw [Bool.not_true, if_neg Bool.false_ne_true]
        refine isTrue_or (wpAny_isTrue_Compare1 (Subscript_ (ldL EC FA rfl rfl ?_)))
        refine sTo FA (by omega) fun tk' h₇ t₇ F7 => eStr fun k4 t5 => cNeS (tru ?_)
        have hsl : (Txt.slice (can xs)[i] none (some 1) != Str.ofString "?") = false := by
          unfold bne
          rw [slice1_isQ (by omega), hvn.2]; rfl
        rw [hsl, if_neg Bool.false_ne_true]
        refine isTrue_or_nil ?_
        rw [if_neg Bool.false_ne_true]
        exact ⟨h₇, _, g₁, [], _, rfl, F7, rfl, rfl⟩
      · rintro D3 us g₃ gg3 vx' hh3 tt3 Fh kk5 kk6 hl3' ⟨rfl, rfl⟩
        refine eList (spl0 (mkList Fh (by simp) fun ln2 h₇ hln2 F7 => ?_))
        refine cNeNil (isList_le hl3' F7.keep) (F7.vat _ (.head _)) amd.hu (tru ?_)
        have F8 := F7.vdrop (pre := [(ln2, _)])
        rw [if_neg Bool.false_ne_true]
        have e6 : Le gg2 gg3 := kk5.trans kk6
        refine wpAny_execs_nil (wpAny_execs_cons (wpAny_Return_some (BoolOp_and (wpAny_Compare1 (ldL EF F8 rfl rfl ?_)))))
        refine callBlt P.B EF F8 rfl (G0_sorted _) (by boot_by_name) (spl ?_)
        refine callTy P.B EF F8 rfl (G0_set _) (by boot_by_name) (spl (ldL EF F8 rfl rfl (spl0 ?_)))
        refine mkSet amd.handled F8 (isList_le hl2 (e6.trans F8.keep)) hys (by omega) fun sa h₉ t₉ F9 hS => ?_
        have hml := metL_len (can xs) []
        refine spl0 (sortSet amd.handled F9 hS (by have : (metL (can xs)).length ≤ _ := hml; simp at this; omega) fun D4 ws ss d ga ha' ta kA hD4 hws hpm hso Fa => ?_)
        have hss : ss = can xs := by
          have hm' : ∀ x, x ∈ metL (can xs) ↔ x ∈ can xs := fun x => by have := metL_mem (can xs) [] x; simpa [metL] using this
          rw [sorted_is (xs := can xs) hpm (metL_nodup _ _ List.nodup_nil) hso hm' can_sub, can_can]
        rw [hss] at hws
        refine cEqLS (isList_le hl2 (e6.trans (kA.trans Fa.keep))) (isList_le hD4 Fa.keep) hys hws amd.hu (tru ?_)
        rw [beq_self_eq_true, if_pos rfl]
        have e7 : Le g ga := e5.trans (e6.trans kA)
        refine BoolOp_one (wpAny_Compare1 (lc_open EF (ldL EF Fa rfl rfl (itTup Fa (isTup_le ha e7) fun it4 hb hit4 Fb => ?_))))
        refine lc_close (n := vs.toArray.size) (vx := []) (vr := []) EF Fb (ItR.tuple amd.handled hit4 (isTup_le ha e7)) (by rw [List.size_toArray]; omega) (fun i ys g' vx' => vx' = [] ∧ ys = []) ?_ ?_ ?_ ?_
        · exact ⟨rfl, rfl⟩
        · rintro _ _ _ _ ⟨rfl, _⟩; rfl
        · rintro C D' cenv i ys g₁ vx' mC h' t' v hi' ⟨rfl, rfl⟩ EC kg₁ FC hx
          have hx' : vs[i]? = some v := by simpa using hx
          obtain ⟨p, b, tk, ep, rfl, hb⟩ := hp.get hx'
          obtain ⟨tm, htm, hgr⟩ := hpl p (List.mem_of_getElem? ep)
          have e8 : Le g g₁ := e7.trans kg₁
          refine asgN EC FC rfl fun hA tA FA => tests1 (isTrue_not (isTrue_plain ?_))
          refine callDef P.B EC FA rfl (G_is_plain_term _) (D_plain _) (spl (Subscript_ (ldL EC FA rfl rfl (eInt fun k3 t4 => tGet (isTup_le hb (e8.trans FA.keep)) (by decide) (by decide) (j := 1) (by simp [seqIndex?]) (x := p.2) (by simp) (spl0 ⟨FA.H, ?_⟩)))))
          refine plain_spec (amd.mono (by omega) (by omega)) (FA.pre P.B) (htm.le e8) hgr (by decide) fun h₉ t₉ k₉ => tru ?_
          rw [Bool.not_true, if_neg Bool.false_ne_true]
          exact ⟨h₉, _, g₁, [], _, rfl, FA.ext k₉, rfl, rfl⟩
        · rintro D5 ys g₄ gg4 vx' hh4 tt4 Fc kk7 kk8 hl4 ⟨rfl, rfl⟩
          refine eList (spl0 (mkList Fc (by simp) fun ln3 hc hln3 Fd => ?_))
          refine cEqNil (isList_le hl4 Fd.keep) (Fd.vat _ (.head _)) amd.hu ?_
          exact q _ _ _ Fd.old.le
end
end Rg
end
section
/-! the paper of a rule: parts_of, has_form, want_form, in_order -/
open PySem PySem.W PyProof.Rows PySem.Calls PySem.SeqAt
set_option autoImplicit false
set_option maxRecDepth 100000
namespace Rg
/-- the paper of a rule -/
structure PaperAt (g : Heap) (pa sa : Addr) (nm : Str) (vs : List Value) (ps : List (Str × Value)) (xs : List Str) : Prop where
  pap : ∃ t1 t2, IsTup g pa #[.str "rule" t1, .str nm t2, .ref sa]
  some_ : IsTup g sa vs.toArray
  prs : PairsAt g vs ps
  nms : ps.map (·.1) = can xs
  pln : PlainPs g ps
theorem PaperAt.le {g g' : Heap} {pa sa : Addr} {nm : Str} {vs : List Value} {ps : List (Str × Value)} {xs : List Str} (x : PaperAt g pa sa nm vs ps xs) (k : Le g g') : PaperAt g' pa sa nm vs ps xs :=
  ⟨let ⟨a, b, c⟩ := x.pap; ⟨a, b, isTup_le c k⟩, isTup_le x.some_ k, x.prs.le k, x.nms, x.pln.le k⟩
section
variable {w : World} {mg mb : Str → Option Value} {A : Around} {E : Value → Shared → Prop} {s : Shared} {H0 h g : Heap} {t : Nat} {Q : Value → Shared → Prop} {pa sa : Addr} {nm : Str} {vs : List Value} {ps : List (Str × Value)} {xs : List Str}
theorem partsof_spec (am : Amb A 2 20) (P : Pre w mg mb H0 g h) (pp : PaperAt g pa sa nm vs ps xs) (q : ∀ e g' h' t', Grow h.objs.size g g' → Le g' h' → Le h h' → IsTup g' e #[] → Q (.ref e) (upd s h' t')) :
    wpAny (model PR w) A (call (.ref 131) [.ref pa]) Q E (upd s h t) := by
  obtain ⟨u1, u2, hpa⟩ := pp.pap
  refine enter (D_partsof w.params) P (X := []) (vol := []) am.room (A_partsof _ _) (by rfl) (by decide) (by simp) (by simp) fun env L h₁ t₁ E' hL EF F => ?_
  refine wpAny_execs_cons (wpAny_If (wpAny_isTrue_Compare1 (Subscript_ (ldL EF F rfl rfl (eInt fun k1 t2 => tGet (isTup_le hpa F.keep) (by decide) (by decide) (j := 0) (by simp [seqIndex?]) (x := .str "rule" u1) (by simp) ?_)))))
  refine eTup (spl (eStr fun k2 t3 => spl (eStr fun k3 t4 => spl0 (mkTup F (by simp) fun tp g₂ h₂ k₂ htp F2 => ?_))))
  refine cInT (fs := ["turn", "join"]) (isTup_le htp F2.keep) (.cons _ _ (.cons _ _ .nil)) (tru ?_)
  rw [show (["turn", "join"] : List Str).contains "rule" = false by decide +kernel, if_neg Bool.false_ne_true]
  refine wpAny_execs_nil (wpAny_execs_cons (wpAny_Return_some (wpAny_IfExp (wpAny_isTrue_Compare1 (Subscript_ (ldL EF F2 rfl rfl (eInt fun k1 t2 => tGet (isTup_le hpa (k₂.trans F2.keep)) (by decide) (by decide) (j := 0) (by simp [seqIndex?]) (x := .str "rule" u1) (by simp) ?_)))))))
  refine eStr fun k4 t5 => cEqS (tru ?_)
  rw [show (("rule" : Str) == Str.ofString "under") = false by decide +kernel, if_neg Bool.false_ne_true]
  refine eTup (spl0 (mkTup F2 (by simp) fun e g₃ h₃ k₃ he F3 => ?_))
  exact q e g₃ h₃ _ F3.gr F3.keep F3.old.le he
theorem hasform_spec (am : Amb A 4 50) (P : Pre w mg mb H0 g h) (pp : PaperAt g pa sa nm vs ps xs) (q : ∀ d' h' t', Le h h' → Q (.bool true) (upd { s with drawn := d' } h' t')) :
    wpAny (model PR w) A (call (.ref 150) [.ref pa]) Q E (upd s h t) := by
  obtain ⟨u1, u2, hpa⟩ := pp.pap
  refine enter (D_hasform w.params) P (X := []) (vol := []) am.room (A_hasform _ _) (by rfl) (by decide) (by simp) (by simp) fun env L h₁ t₁ E' hL EF F => ?_
  have amd : Amb (A.deeper env) 3 47 := am.deeper
  have hp1 := isTup_le hpa F.keep
  refine wpAny_execs_cons (wpAny_If (isTrue_or (isTrue_not (isTrue_plain ?_))))
  refine callIsi P.B EF F rfl rfl (G0_tuple _) (by boot_by_name) (ldL EF F rfl rfl ⟨_, _, g, rfl, F, isiTT hp1 (tru ?_)⟩)
  rw [Bool.not_true, if_neg Bool.false_ne_true]
  refine isTrue_or (wpAny_isTrue_Compare1 ?_)
  refine callBlt P.B EF F rfl (G0_len _) (by boot_by_name) (spl (ldL EF F rfl rfl (spl0 (tLen hp1 (by simp) fun k1 t2 => eInt fun k2 t3 => cLt (tru ?_)))))
  rw [show decide (((#[Value.str "rule" u1, Value.str nm u2, Value.ref sa] : Array Value).size : Int) < 2) = false by rfl, if_neg Bool.false_ne_true]
  refine isTrue_or (isTrue_not (isTrue_plain ?_))
  refine callIsi P.B EF F rfl rfl (G0_str _) (by boot_by_name) (Subscript_ (ldL EF F rfl rfl (eInt fun k1 t2 => tGet hp1 (by decide) (by decide) (j := 0) (by simp [seqIndex?]) (x := .str "rule" u1) (by simp) ⟨_, _, g, rfl, F, isiSS (tru ?_)⟩)))
  rw [Bool.not_true, if_neg Bool.false_ne_true]
  refine isTrue_or_nil ?_
  rw [if_neg Bool.false_ne_true]
  refine wpAny_execs_nil (wpAny_execs_cons (Assign_Tuple_swapped (names := ["kind", "many"]) ?_ (by rfl) (by rw [EF.rep]; rfl)))
  refine eTup (spl (Subscript_ (ldL EF F rfl rfl (eInt fun k1 t2 => tGet hp1 (by decide) (by decide) (j := 0) (by simp [seqIndex?]) (x := .str "rule" u1) (by simp) ?_))))
  refine spl ?_
  refine callBlt P.B EF F rfl (G0_len _) (by boot_by_name) (spl (ldL EF F rfl rfl (spl0 (tLen hp1 (by simp) fun k3 t4 => ?_))))
  refine spl0 (mkTup F (by simp) fun tp g₂ h₂ k₂ htp F2 => ?_)
  refine asgSw2_end amd.handled EF F2 rfl rfl (isTup_le htp F2.keep) fun h₃ t₃ F3 => ?_
  refine wpAny_execs_cons (wpAny_If (wpAny_isTrue_Compare1 (ldL EF F3 rfl rfl (eStr fun k4 t5 => cEqS (tru ?_)))))
  rw [show (("rule" : Str) == Str.ofString "same") = false by decide +kernel, if_neg Bool.false_ne_true]
  refine wpAny_execs_nil (wpAny_execs_cons (wpAny_If (wpAny_isTrue_Compare1 (ldL EF F3 rfl rfl (eStr fun k4 t5 => cEqS (tru ?_))))))
  rw [show (("rule" : Str) == Str.ofString "told") = false by decide +kernel, if_neg Bool.false_ne_true]
  refine wpAny_execs_nil (wpAny_execs_cons (wpAny_If (wpAny_isTrue_Compare1 (ldL EF F3 rfl rfl (eStr fun k4 t5 => cEqS (tru ?_))))))
  rw [show (("rule" : Str) == Str.ofString "rule") = true by decide +kernel, if_pos rfl]
  have hp3 := isTup_le hpa (k₂.trans F3.keep)
  refine wpAny_execs_cons (wpAny_Return_some (BoolOp_and (wpAny_Compare1 (ldL EF F3 rfl rfl (eInt fun k5 t6 => cEq (tru ?_))))))
  rw [show (((#[Value.str "rule" u1, Value.str nm u2, Value.ref sa] : Array Value).size : Int) == 3) = true by rfl, if_pos rfl]
  refine BoolOp_and ?_
  refine callIsi P.B EF F3 rfl rfl (G0_str _) (by boot_by_name) (Subscript_ (ldL EF F3 rfl rfl (eInt fun k1 t2 => tGet hp3 (by decide) (by decide) (j := 1) (by simp [seqIndex?]) (x := .str nm u2) (by simp) ⟨_, _, g₂, rfl, F3, isiSS (tru ?_)⟩)))
  rw [if_pos rfl]
  refine BoolOp_one ?_
  refine callDef P.B EF F3 rfl (G_are_places _) (D_places _) (spl (Subscript_ (ldL EF F3 rfl rfl (eInt fun k1 t2 => tGet hp3 (by decide) (by decide) (j := 2) (by simp [seqIndex?]) (x := .ref sa) (by simp) (spl0 ⟨F3.H, ?_⟩)))))
  refine places_spec (amd.mono (by omega) (by omega)) (F3.pre P.B) (isTup_le pp.some_ k₂) (pp.prs.le k₂) pp.nms (pp.pln.le k₂) fun d' h₄ t₄ k₄ => ?_
  exact q d' h₄ t₄ (F3.ext k₄).old.le
theorem wantform_spec {v : Value} (am : Amb A 5 60) (P : Pre w mg mb H0 g h) (pp : PaperAt g pa sa nm vs ps xs) (q : ∀ d' h' t', Le h h' → Q .none (upd { s with drawn := d' } h' t')) :
    wpAny (model PR w) A (call (.ref 162) [.ref pa, v]) Q E (upd s h t) := by
  refine enter (D_want w.params) P (X := []) (vol := []) am.room (A_want _ _ _) (by rfl) (by decide) (by simp) (by simp) fun env L h₁ t₁ E' hL EF F => ?_
  have amd : Amb (A.deeper env) 4 57 := am.deeper
  refine wpAny_execs_cons (wpAny_If (isTrue_not (isTrue_plain ?_)))
  refine callDef P.B EF F rfl (G_has_form _) (D_hasform _) (spl (ldL EF F rfl rfl (spl0 ⟨F.H, ?_⟩)))
  refine hasform_spec (amd.mono (by omega) (by omega)) (F.pre P.B) pp fun d' h₄ t₄ k₄ => tru ?_
  rw [Bool.not_true, if_neg Bool.false_ne_true]
  exact wpAny_execs_nil (wpAny_execs_nil (q d' h₄ t₄ (F.ext k₄).old.le))
end
end Rg
end
section
/-! in_order, of the paper of a rule -/
open PySem PySem.W PyProof.Rows PySem.Calls PySem.SeqAt
set_option autoImplicit false
set_option maxRecDepth 100000
namespace Rg
section
variable {w : World} {mg mb : Str → Option Value} {A : Around} {E : Value → Shared → Prop} {s : Shared} {h g : Heap} {t : Nat} {vol : Vol} {names : List (Str × NameKind)} {env : Env}
  {c : Cx} {L : Addr} {cl : List (Str × Addr)} {m cm : Str → Option Value}
theorem while_closeG {test : Expr} {body : List Stmt} {pos : Pos} {Q : Flow → Shared → Prop} (F : Frm c L cl m cm vol g h)
    (B : Shared → Prop) (hB : B s) (J : Nat → (Str → Option Value) → (Str → Option Value) → Vol → Heap → Prop) (n : Nat) (hJ : J n m cm vol g)
    (turn : ∀ n s m' cm' vol' g' h' t', B s → J n m' cm' vol' g' → Le g g' → Frm c L cl m' cm' vol' g' h' →
      wpAny (model PR w) A (isTrue test env (eval test env)) (fun b s₂ => if b = true then wpAny (model PR w) A (execs body env) (fun f s₃ => match f with
          | .next | .cont => ∃ s₄ h₄ t₄ n₄ m₄ cm₄ vol₄ g₄, s₃ = upd s₄ h₄ t₄ ∧ B s₄ ∧ n₄ < n ∧ Frm c L cl m₄ cm₄ vol₄ g₄ h₄ ∧ Le g' g₄ ∧ J n₄ m₄ cm₄ vol₄ g₄
          | .brk => False
          | .ret v => Q (.ret v) s₃) (fun _ _ => False) s₂ else Q .next s₂) (fun _ _ => False) (upd s h' t')) :
    wpAny (model PR w) A (exec (.While test body [] pos) env) Q E (upd s h t) := by
  refine wpAny_While (codeAny_whileLoop (fun k s' => ∃ s₀ h' t' m' cm' vol' g', s' = upd s₀ h' t' ∧ B s₀ ∧ Le g g' ∧ Frm c L cl m' cm' vol' g' h' ∧ J k m' cm' vol' g') ?_ n ⟨s, h, t, m, cm, vol, g, rfl, hB, Le.refl _, F, hJ⟩)
  rintro k s' ⟨s₀, h', t', m', cm', vol', g', rfl, hB', hgg, F', hJ'⟩
  refine wpAny_mono (turn k s₀ m' cm' vol' g' h' t' hB' hJ' hgg F') (fun b s₂ z => ?_) fun _ _ f => f.elim
  cases b with
  | true =>
    rw [if_pos rfl] at z ⊢
    refine wpAny_mono z (fun f s₃ z => ?_) fun _ _ f => f.elim
    have nx : (∃ s₄ h₄ t₄ n₄ m₄ cm₄ vol₄ g₄, s₃ = upd s₄ h₄ t₄ ∧ B s₄ ∧ n₄ < k ∧ Frm c L cl m₄ cm₄ vol₄ g₄ h₄ ∧ Le g' g₄ ∧ J n₄ m₄ cm₄ vol₄ g₄) →
        ∃ k', k' < k ∧ ∃ s₀ h' t' m' cm' vol' g', s₃ = upd s₀ h' t' ∧ B s₀ ∧ Le g g' ∧ Frm c L cl m' cm' vol' g' h' ∧ J k' m' cm' vol' g' := by
      rintro ⟨s₄, h₄, t₄, n₄, m₄, cm₄, vol₄, g₄, rfl, b4, hn, F4, k4, hJ4⟩
      exact ⟨n₄, hn, s₄, h₄, t₄, m₄, cm₄, vol₄, g₄, rfl, b4, hgg.trans k4, F4, hJ4⟩
    cases f with
    | next => exact nx z
    | cont => exact nx z
    | brk => exact z.elim
    | ret v => exact z
  | false =>
    rw [if_neg Bool.false_ne_true] at z ⊢
    exact wpAny_execs_nil z
end
section
variable {w : World} {mg mb : Str → Option Value} {A : Around} {E : Value → Shared → Prop} {s : Shared} {H0 h g : Heap} {t : Nat} {Q : Value → Shared → Prop} {pa sa : Addr} {nm : Str} {vs : List Value} {ps : List (Str × Value)} {xs : List Str}
theorem inorder_spec (am : Amb A 5 60) (P : Pre w mg mb H0 g h) (pp : PaperAt g pa sa nm vs ps xs)
    (q : ∀ D y e d' g' h' t', Grow h.objs.size g g' → Le g' h' → Le h h' → g'.IsList D #[.ref y] → IsTup g' y #[.ref e, .ref pa] → IsTup g' e #[] → Q (.ref D) (upd { s with drawn := d' } h' t')) :
    wpAny (model PR w) A (call (.ref 155) [.ref pa]) Q E (upd s h t) := by
  refine enter (D_inorder w.params) P (X := []) (vol := []) am.room (A_inorder _ _) (by rfl) (by decide) (by simp) (by simp) fun env L h₁ t₁ E' hL EF F => ?_
  have amd : Amb (A.deeper env) 4 57 := am.deeper
  refine wpAny_execs_cons ?_
  refine Assign_Tuple_swapped (names := ["found", "waiting"]) ?_ ?h2 ?h3
  case h2 => rfl
  case h3 =>
    rw [EF.rep]
    kernel_rfl
  refine eTup (spl (eList (spl0 (mkListM F (by simp) fun fl h₂ hfl F2 => ?_))))
  refine spl (eList (spl (eTup (spl (eTup (spl0 (mkTup F2 (by simp) fun e g₃ h₃ k₃ he F3 => ?_)))))))
  refine spl (ldL EF F3 rfl rfl (spl0 (mkTup F3 (by simp) fun y g₄ h₄ k₄ hy F4 => ?_)))
  refine spl0 (mkListM F4 (by simp) fun wl h₅ hwl F5 => ?_)
  refine spl0 (mkTup F5 (by simp) fun tp g₆ h₆ k₆ htp F6 => ?_)
  refine asgSw2_end amd.handled EF F6 rfl rfl (isTup_le htp F6.keep) fun h₇ t₇ F7 => ?_
  have e7 : Le g g₆ := k₃.trans (k₄.trans k₆)
  refine wpAny_execs_cons ?_
  refine while_closeG F7 (fun s' => ∃ d, s' = { s with drawn := d }) ⟨s.drawn, rfl⟩ (fun k m' cm' vol' g' => m' "found" = some (.ref fl) ∧ m' "waiting" = some (.ref wl) ∧ ((k = 1 ∧ vol' = [(wl, pM [.ref y]), (fl, pM [])]) ∨ (k = 0 ∧ ∃ y1, vol' = [(wl, pM []), (fl, pM [.ref y1])] ∧ IsTup g' y1 #[.ref e, .ref pa]))) 1 ?_ ?_
  · exact ⟨rfl, rfl, .inl ⟨rfl, rfl⟩⟩
  · rintro k s' m' cm' vol' g' h' t' ⟨d0, rfl⟩ ⟨j1, j2, j3⟩ kg FF
    have he' := isTup_le he (k₄.trans (k₆.trans kg))
    rcases j3 with ⟨rfl, rfl⟩ | ⟨rfl, y1, rfl, hy1⟩
    · have hw := FF.volat (wl, pM [.ref y]) (by simp)
      refine wpAny_isTrue_Compare1 ?_
      refine callBlt P.B EF FF rfl (G0_len _) (by boot_by_name) (spl (ldL EF FF rfl j2 (spl0 (lLen (pM.at hw.1) (by simp) fun k1 t4 => eInt fun k2 t5 => cGt (tru ?_)))))
      rw [show decide ((0 : Int) < (([Value.ref y].toArray : Array Value).size : Int)) = true by rfl, if_pos rfl]
      refine wpAny_execs_cons (Assign_Tuple ?_)
      refine mList0 PySem.F.slot_list_pop PySem.F.type_list_pop hw.1 (fun Q' z => ldL EF FF rfl j2 z) ?_
      refine popL (items := []) hw.1 (by simp) fun h₈ at8 kX => ?_
      have F8 := FF.called1s (pre := []) kX at8
      refine asgP2 amd.handled F8 (isTup_le hy (k₆.trans (kg.trans F8.keep))) fun h₉ F9 k9 => ?_
      refine asgC EF F9 rfl rfl (by show h.objs.size ≤ L + 1; omega) fun ha Fa => asgN EF Fa rfl fun hb tb Fb => ?_
      refine wpAny_execs_cons (wpAny_Expr_any ?_ EF.inter)
      have hfv := Fb.volat (fl, pM []) (by simp)
      refine mList1 PySem.F.slot_list_append PySem.F.type_list_append hfv.1 (fun Q' z => ldL EF Fb rfl j1 z) ?_
      refine eTup (spl (ldC EF Fb rfl rfl rfl (spl (ldL EF Fb rfl rfl (spl0 (mkTup Fb (by simp) fun y1 gc hc kc hy1 Fc => ?_))))))
      have hfc := Fc.volat (fl, pM []) (by simp)
      refine appL hfc.1 (by simp) fun hd atd kXd => ?_
      have Fd := Fc.called1s (pre := [(wl, pM [])]) (post := []) kXd atd
      have ec : Le g gc := e7.trans (kg.trans kc)
      refine wpAny_execs_cons (wpAny_If (isTrue_plain ?_))
      refine callDef P.B EF Fd rfl (G_has_form _) (D_hasform _) (spl (ldL EF Fd rfl rfl (spl0 ⟨Fd.H, ?_⟩)))
      refine hasform_spec (amd.mono (by omega) (by omega)) (Fd.pre P.B) (pp.le ec) fun s2 he_ te ke => tru ?_
      have Fe := Fd.ext ke
      rw [if_pos rfl]
      refine wpAny_execs_cons (wpAny_Expr_any ?_ EF.inter)
      have hwe := Fe.volat (wl, pM []) (by simp)
      refine mList1 PySem.F.slot_list_extend PySem.F.type_list_extend hwe.1 (fun Q' z => ldL EF Fe rfl j2 z) ?_
      refine lc_open EF ?_
      refine callTy P.B EF Fe rfl (G0_enumerate _) (by boot_by_name) (spl ?_)
      refine callDef P.B EF Fe rfl (G_parts_of _) (D_partsof _) (spl (ldL EF Fe rfl rfl (spl0 ⟨Fe.H, ?_⟩)))
      refine partsof_spec (amd.mono (by omega) (by omega)) (Fe.pre P.B) (pp.le ec) fun e2 gf hf tf Gf kf khf he2 => ?_
      have Ff := Fe.called0 khf Gf kf
      refine spl0 (mkEnum Ff he2 fun ee it hg hei hee hit Fg => itEnum Fg ?_)
      refine lc_close (n := (#[] : Array Value).size) (vx := []) (vr := [(wl, pM []), (fl, pM [.ref y1])]) EF Fg (ItR.enum (items := #[]) amd.handled hei hee hit he2) (by simp) (fun i ys g' vx' => vx' = [] ∧ ys = []) ?_ ?_ ?_ ?_
      · exact ⟨rfl, rfl⟩
      · rintro _ _ _ _ ⟨rfl, _⟩; rfl
      · rintro C D' cenv i ys g₁ vx' mC h' t' v hi'
        exact absurd hi' (Nat.not_lt_zero _)
      · rintro D1 ys g₁ gg vx' hh tt Fh kk1 kk2 hl' ⟨rfl, rfl⟩
        have hwh := Fh.volat (wl, pM []) (by simp)
        refine extL hwh.1 (.inl (isList_le hl' Fh.keep)) (by simp) fun hk atk kXk => ?_
        have Fk := Fh.called1s (pre := []) kXk atk
        exact wpAny_execs_nil (wpAny_execs_nil ⟨_, hk, _, 0, _, _, [(wl, pM []), (fl, pM [.ref y1])], gg, rfl, ⟨_, rfl⟩, by decide, Fk, kc.trans (Gf.le.trans (kk1.trans kk2)), j1, j2, .inr ⟨rfl, y1, rfl, isTup_le hy1 (Gf.le.trans (kk1.trans kk2))⟩⟩)
    · have hw := FF.volat (wl, pM []) (by simp)
      refine wpAny_isTrue_Compare1 ?_
      refine callBlt P.B EF FF rfl (G0_len _) (by boot_by_name) (spl (ldL EF FF rfl j2 (spl0 (lLen (pM.at hw.1) (by simp) fun k1 t4 => eInt fun k2 t5 => cGt (tru ?_)))))
      rw [show decide ((0 : Int) < (([] : List Value).toArray.size : Int)) = false by rfl, if_neg Bool.false_ne_true]
      have hfv := FF.volat (fl, pM [.ref y1]) (by simp)
      refine wpAny_execs_cons (wpAny_Expr_any ?_ EF.inter)
      refine mList0 PySem.F.slot_list_reverse PySem.F.type_list_reverse hfv.1 (fun Q' z => ldL EF FF rfl j1 z) ?_
      refine revL hfv.1 (by simp) fun h₈ at8 kX => ?_
      have F8 := FF.called1s (pre := [(wl, pM [])]) (post := []) kX at8
      refine wpAny_execs_cons (wpAny_Return_some (ldL EF F8 rfl j1 ?_))
      obtain ⟨g₉, k9, ⟨o, ho, hp⟩, F9⟩ := F8.freeze (pre := [(wl, pM [])]) hfl
      exact q fl y1 e d0 g₉ h₈ _ F9.gr F9.keep F9.old.le ⟨o, ho, hp.l⟩ (isTup_le hy1 k9) (isTup_le he' k9)
end
end Rg
end
section
/-! rule_sides -/
open PySem PySem.W PyProof.Rows PySem.Calls PySem.SeqAt
set_option autoImplicit false
set_option maxRecDepth 100000
namespace Rg
/-- the judge of the law, its rule r -/
structure JudgeAt (w : World) (H0 g : Heap) (x rx : Addr) (lv rv : Value) (lt rt : Tm) : Prop where
  jud : ∃ tv rd kvs, InsAt g x 208 [("told", tv), ("rules", .ref rd)] ∧ H0.objs.size ≤ rd ∧ At g rd (pD w kvs) ∧ valueAt kvs "r" = some (.ref rx) ∧ valueAt kvs "nobody" = none
  rul : ∃ nv dv, InsAt g rx 234 [("needs", nv), ("right", rv), ("left", lv), ("name", dv)]
  lft : IsTm g lv lt
  rgt : IsTm g rv rt
  lgd : lt.Gd vns 5
  rgd : rt.Gd vns 5
  sub : ∀ x ∈ rt.vs, x ∈ can lt.vs
theorem JudgeAt.le {w : World} {H0 g g' : Heap} {x rx : Addr} {lv rv : Value} {lt rt : Tm} (j : JudgeAt w H0 g x rx lv rv lt rt) (k : Le g g') : JudgeAt w H0 g' x rx lv rv lt rt :=
  ⟨let ⟨a, b, c, d, e, f, r⟩ := j.jud; ⟨a, b, c, d.le k, e, f.le k, r⟩, let ⟨a, b, d⟩ := j.rul; ⟨a, b, d.le k⟩, j.lft.le k, j.rgt.le k, j.lgd, j.rgd, j.sub⟩
theorem IsTm.handed {g : Heap} {v : Value} {tm : Tm} (x : IsTm g v tm) : handedIn v = true := by
  cases tm with
  | node op ks =>
  obtain ⟨_, _, _, rfl, _⟩ := x.inv
  rfl
section
variable {w : World} {mg mb : Str → Option Value} {A : Around} {E : Value → Shared → Prop} {s : Shared} {H0 h g : Heap} {t : Nat} {Q : Value → Shared → Prop} {x rx sa : Addr} {lv rv pv : Value} {lt rt : Tm} {vs : List Value} {ps : List (Str × Value)}
theorem rsides_ok {tkn : Tok} {σ : Str → Tm} (am : Amb A 9 60) (P : Pre w mg mb H0 g h) (J : JudgeAt w H0 g x rx lv rv lt rt) (hs : IsTup g sa vs.toArray) (hn : NoD g sa vs) (hp : PairsAt g vs ps) (hk : ps.map (·.1) = can lt.vs)
    (hσ : ∀ y ∈ can lt.vs, ∃ u, valueAt ps y = some u ∧ IsTm g u (σ y))
    (q : ∀ a v1 v2 d' g' h' t', Grow h.objs.size g g' → Le g' h' → Le h h' → IsTup g' a #[v1, v2] → IsTm g' v1 (lt.pl σ) → IsTm g' v2 (rt.pl σ) → Q (.ref a) (upd { s with drawn := d' } h' t')) :
    wpAny (model PR w) A (call (.ref 188) [.ref x, .str "r" tkn, .ref sa, pv]) Q E (upd s h t) := by
  obtain ⟨tv, rd, kvs, hI, hrd, hD, hv1, hv2⟩ := J.jud
  obtain ⟨nv, dv, hR⟩ := J.rul
  have hll : handedIn lv = true := J.lft.handed
  have hrr : handedIn rv = true := J.rgt.handed
  have hl3 : ps.length ≤ 3 := by have := can_len lt.vs; rw [← hk, List.length_map] at this; exact this
  have hlen := hp.1
  have hnd : (ps.map (·.1)).Nodup := hk ▸ can_nodup _
  have hlv : ∀ y ∈ lt.vs, y ∈ can lt.vs := fun y hy => mem_can.mpr ⟨Gd_sub vns_self J.lgd y hy, hy⟩
  refine enter (D_rsides w.params) P (X := []) (vol := []) am.room (A_rsides _ _ _ _ _) (by rfl) (by decide) (by simp) (by simp) fun env L h₁ t₁ E' hL EF F => ?_
  have amd : Amb (A.deeper env) 8 57 := am.deeper
  refine wpAny_execs_cons (wpAny_If (wpAny_isTrue_Compare1 (ldL EF F rfl rfl ?_)))
  refine attrL P.B (PC_Judge _) EF F rfl rfl (hI.le F.keep) (pg_Judge_rules _) (fi_Judge_rules _) (by rfl) (by rfl) fun t₂ => ?_
  refine cNotInD P.B hrd (hD.le F.keep) fun t₃ => tru ?_
  rw [hv1, Option.isSome_some, Bool.not_true, if_neg Bool.false_ne_true]
  refine wpAny_execs_nil (wpAny_execs_cons (wpAny_Assign_Name (Subscript_ ?_)))
  refine attrL P.B (PC_Judge _) EF F rfl rfl (hI.le F.keep) (pg_Judge_rules _) (fi_Judge_rules _) (by rfl) (by rfl) fun t₂ => ?_
  refine ldL EF F rfl rfl (dGet (hD.le F.keep) hv1 fun t₃ => ?_)
  refine stL EF F rfl fun h₂ t₂ F2 => ?_
  refine wpAny_execs_cons (wpAny_If (wpAny_isTrue_Compare1 ?_))
  refine lc_open EF (ldL EF F2 rfl rfl (itTup F2 hs fun it h₃ hit F3 => ?_))
  refine lc_close (n := vs.toArray.size) (vx := []) (vr := []) EF F3 (ItR.tuple amd.handled hit hs) (by rw [List.size_toArray]; omega)
    (fun i ys g' vx' => vx' = [] ∧ StrsAre ys ((ps.take i).map (·.1))) ?_ ?_ ?_ ?_
  · exact ⟨rfl, .nil⟩
  · rintro _ _ _ _ ⟨rfl, _⟩; rfl
  · rintro C D' cenv i ys g₁ vx' mC h' t' v hi' ⟨rfl, hys⟩ EC kg₁ FC hx
    have hi : i < vs.length := by simpa using hi'
    have hip : i < ps.length := by omega
    have hx' : vs[i]? = some v := by simpa using hx
    obtain ⟨pp, ap, tkp, e1, e2, e3⟩ := hp.get hx'
    subst e2
    refine asgP2 amd.handled FC (isTup_le e3 (kg₁.trans FC.keep)) fun ha Fa ka => ?_
    refine asgN EC Fa rfl fun hb tb Fb => asgN EC Fb rfl fun hc tc Fc => tests0 ?_
    rw [if_pos rfl]
    refine ldL EC Fc rfl rfl ⟨hc, _, g₁, [], _, rfl, Fc, rfl, ?_⟩
    have hpi : ps[i] = pp := by rw [List.getElem?_eq_getElem hip] at e1; exact Option.some.inj e1
    rw [List.take_succ_eq_append_getElem hip, List.map_append, hpi]
    exact strsAre_app hys (.cons _ _ .nil)
  · rintro D1 ys g₁ gg vx' hh tt Fh kk1 kk2 hl' ⟨rfl, hys⟩
    rw [show vs.toArray.size = ps.length by rw [List.size_toArray]; omega, List.take_length, hk] at hys
    refine callDef P.B EF Fh rfl (G_variables _) (D_vars _) (spl ?_)
    refine attrL P.B (PC_Rule _) EF Fh rfl rfl (hR.le ((kk1.trans kk2).trans Fh.keep)) (pg_Rule_left _) (fi_Rule_left _) (by rfl) hll fun t₂ => spl0 ⟨Fh.H, ?_⟩
    refine vars_good (amd.mono (by omega) (by omega)) (Fh.pre P.B) (J.lft.le (kk1.trans kk2)) J.lgd fun D2 zs s2 g3 h3 t3 G3 k3 kh3 hD2 hzs => ?_
    have F4 := Fh.called0 kh3 G3 k3
    refine cNeLS (isList_le hl' (G3.le.trans k3)) (isList_le hD2 k3) hys hzs amd.hu (tru ?_)
    rw [bne_self_eq_false, if_neg Bool.false_ne_true]
    have e4 : Le g g3 := kk1.trans (kk2.trans G3.le)
    refine wpAny_execs_nil (wpAny_execs_cons (wpAny_Try_except (wpAny_execs_cons (wpAny_Return_some (eTup ?_)))))
    refine spl ?_
    refine callDef P.B EF F4 rfl (G_placed _) (D_placed _) (spl ?_)
    refine attrL P.B (PC_Rule _) EF F4 rfl rfl (hR.le (e4.trans F4.keep)) (pg_Rule_left _) (fi_Rule_left _) (by rfl) hll fun t₂ => spl ?_
    refine callTy P.B EF F4 rfl (G0_dict _) (by boot_by_name) (spl (ldL EF F4 rfl rfl (spl0 ?_)))
    refine mkDict amd.handled F4 (hn.le (e4.trans F4.keep)) (PairsAt.le hp (e4.trans F4.keep)) hnd (by omega) fun d1 g5 h5 t5 k5 hd1 hD1 F5 => spl0 ⟨F5.H, ?_⟩
    refine placed_spec 5 (amd.mono (by omega) (by omega)) (F5.pre P.B) (J.lft.le (e4.trans k5)) (J.lgd.dp vns_self) hD1 hd1 (σ := σ) (fun y hy => ?_) fun v1 g6 h6 t6 G6 k6 kh6 hv1 => ?_
    · obtain ⟨u, e1, e2⟩ := hσ y (hlv y hy)
      exact ⟨u, e1, e2.le (e4.trans k5)⟩
    have F6 := F5.called0 kh6 G6 k6
    have e6 : Le g g6 := e4.trans (k5.trans G6.le)
    refine spl ?_
    refine callDef P.B EF F6 rfl (G_placed _) (D_placed _) (spl ?_)
    refine attrL P.B (PC_Rule _) EF F6 rfl rfl (hR.le (e6.trans F6.keep)) (pg_Rule_right _) (fi_Rule_right _) (by rfl) hrr fun t₂ => spl ?_
    refine callTy P.B EF F6 rfl (G0_dict _) (by boot_by_name) (spl (ldL EF F6 rfl rfl (spl0 ?_)))
    refine mkDict amd.handled F6 (hn.le (e6.trans F6.keep)) (PairsAt.le hp (e6.trans F6.keep)) hnd (by omega) fun d2 g7 h7 t7 k7 hd2 hD2' F7 => spl0 ⟨F7.H, ?_⟩
    refine placed_spec 5 (amd.mono (by omega) (by omega)) (F7.pre P.B) (J.rgt.le (e6.trans k7)) (J.rgd.dp vns_self) hD2' hd2 (σ := σ) (fun y hy => ?_) fun v2 g8 h8 t8 G8 k8 kh8 hv2 => ?_
    · obtain ⟨u, e1, e2⟩ := hσ y (J.sub y hy)
      exact ⟨u, e1, e2.le (e6.trans k7)⟩
    have F8 := F7.called0 kh8 G8 k8
    refine spl0 (mkTup F8 (by simp) fun a g9 h9 k9 ha F9 => ?_)
    exact q a v1 v2 s2 g9 h9 _ F9.gr F9.keep F9.old.le ha (hv1.le (k7.trans (G8.le.trans k9))) (hv2.le k9)
end
end Rg
end
section
/-! sides_of, sides -/
open PySem PySem.W PyProof.Rows PySem.Calls PySem.SeqAt
set_option autoImplicit false
set_option maxRecDepth 100000
namespace Rg
noncomputable def tK (w : World) : HeapKind PR w (List Str) := tupleKind (strKind PR w)
/-- a dict with tuples for keys -/
def pX (w : World) (xs : List (List Str × Addr × Value)) : Obj → Prop := fun o => ∃ es ep, o.ExactDict ∧ o.data = .dict es ep ∧ es.toList = xs.map (entryOfKey (tK w)) ∧ (xs.map (·.1)).Nodup
section
variable {w : World} {mg mb : Str → Option Value} {A : Around} {E : Value → Shared → Prop} {s : Shared} {h g : Heap} {t : Nat} {Q : Value → Shared → Prop}
theorem nilKey {e : Addr} (he : IsTup h e #[]) : (tK w).is h [] e := let ⟨o, ho, hc, n, hd⟩ := he; ⟨o, #[], n, ho, hc, hd, .nil⟩
theorem pX.at {d : Addr} {xs : List (List Str × Addr × Value)} (x : At h d (pX w xs)) (k : ∀ y ∈ xs, (tK w).is h y.1 y.2.1) : h.DictOfH (tK w) d xs := let ⟨o, ho, es, ep, a, b, c, d⟩ := x; ⟨o, es, ep, ho, a, b, c, k, d⟩
theorem pX.of {d : Addr} {xs : List (List Str × Addr × Value)} (x : h.DictOfH (tK w) d xs) : At h d (pX w xs) := let ⟨o, es, ep, ho, a, b, c, _, d⟩ := x; ⟨o, ho, es, ep, a, b, c, d⟩
theorem xSet {d e : Addr} {v : Value} {Q : Unit → Shared → Prop} (hu : A.units + 1 < cLine) (hd : At h d (pX w [])) (he : IsTup h e #[]) (q : ∀ h' t', At h' d (pX w [([], e, v)]) → Heap.SameBut d h h' → Q () (upd s h' t')) :
    wpAny (model PR w) A (setItem (.ref d) (.ref e) v) Q E (upd s h t) :=
  wpAny_setItem_heap (knd := tK w) (s := upd s h t) (k := []) (tupleKind_room_in1 hu) (nilKey he) (pX.at hd (by simp)) (fun h' hd' hs => q h' _ (pX.of hd') hs) (Nat.zero_le _)
theorem xGet {value slice : Expr} {d e e' : Addr} {v : Value} (hu : A.units + 1 < cLine) (hd : At h d (pX w [([], e, v)])) (he : IsTup h e #[]) (he' : IsTup h e' #[]) (q : ∀ t', Q v (upd s h t'))
    (hs : subscripted slice false (.ref d) (.ref e') = operate [.ref d, .ref e'] (getItem (.ref d) (.ref e')) := by rfl) :
    wpAny (model PR w) A (subscriptTail value slice (.ref d) (.ref e')) Q E (upd s h t) := by
  have hD := pX.at hd (by simp [nilKey he])
  exact tail_any (s := upd s h t) hD.typeIs slot_dict_getitem.lookup (wpAny_getItem_heap (knd := tK w) (s := upd s h t) (k := []) (p := (e, v)) (tupleKind_room_in1 hu) (nilKey he') hD (by rfl) (q _)) hs
end
section
variable {w : World} {mg mb : Str → Option Value} {A : Around} {E : Value → Shared → Prop} {s : Shared} {H0 h g : Heap} {t : Nat} {Q : Value → Shared → Prop} {x rx pa sa : Addr} {lv rv pv sv : Value} {lt rt : Tm} {vs : List Value} {ps : List (Str × Value)}
theorem sidesof_spec {xs : List Str} {σ : Str → Tm} (am : Amb A 10 63) (P : Pre w mg mb H0 g h) (J : JudgeAt w H0 g x rx lv rv lt rt) (pp : PaperAt g pa sa "r" vs ps xs) (hn : NoD g sa vs) (hk : ps.map (·.1) = can lt.vs)
    (hσ : ∀ y ∈ can lt.vs, ∃ u, valueAt ps y = some u ∧ IsTm g u (σ y))
    (q : ∀ a v1 v2 d' g' h' t', Grow h.objs.size g g' → Le g' h' → Le h h' → IsTup g' a #[v1, v2] → IsTm g' v1 (lt.pl σ) → IsTm g' v2 (rt.pl σ) → Q (.ref a) (upd { s with drawn := d' } h' t')) :
    wpAny (model PR w) A (call (.ref 193) [.ref x, .ref pa, pv, sv]) Q E (upd s h t) := by
  obtain ⟨tv, rd, kvs, hI, hrd, hD, hv1, hv2⟩ := J.jud
  obtain ⟨u1, u2, hpa⟩ := pp.pap
  refine enter (D_sidesof w.params) P (X := []) (vol := []) am.room (A_sidesof _ _ _ _ _) (by rfl) (by decide) (by simp) (by simp) fun env L h₁ t₁ E' hL EF F => ?_
  have amd : Amb (A.deeper env) 9 60 := am.deeper
  refine wpAny_execs_cons (wpAny_Assign_Name (Subscript_ (ldL EF F rfl rfl (eInt fun k1 t2 => tGet (isTup_le hpa F.keep) (by decide) (by decide) (j := 0) (by simp [seqIndex?]) (x := .str "rule" u1) (by simp) ?_))))
  refine stL EF F rfl fun h₂ t₂ F2 => ?_
  refine wpAny_execs_cons (wpAny_If (wpAny_isTrue_Compare1 (ldL EF F2 rfl rfl (eStr fun k4 t5 => cEqS (tru ?_)))))
  rw [show (("rule" : Str) == Str.ofString "same") = false by decide +kernel, if_neg Bool.false_ne_true]
  refine wpAny_execs_nil (wpAny_execs_cons (wpAny_If (wpAny_isTrue_Compare1 (ldL EF F2 rfl rfl (eStr fun k4 t5 => cEqS (tru ?_))))))
  rw [show (("rule" : Str) == Str.ofString "told") = false by decide +kernel, if_neg Bool.false_ne_true]
  refine wpAny_execs_nil (wpAny_execs_cons (wpAny_If (wpAny_isTrue_Compare1 (ldL EF F2 rfl rfl (eStr fun k4 t5 => cEqS (tru ?_))))))
  rw [show (("rule" : Str) == Str.ofString "rule") = true by decide +kernel, if_pos rfl]
  refine wpAny_execs_cons (wpAny_Return_some ?_)
  refine callM (pl := do return (← importBound (.Name "self" _) env).getD true) P.B EF F2 rfl rfl (hI.le F2.keep) (pg_Judge_rule_sides _) (fi_Judge_rule_sides _) (fm_Judge_rule_sides _) (kp_Judge_rule_sides _) (by rfl) ?_
  refine spl (Subscript_ (ldL EF F2 rfl rfl (eInt fun k1 t2 => tGet (isTup_le hpa F2.keep) (by decide) (by decide) (j := 1) (by simp [seqIndex?]) (x := .str "r" u2) (by simp) ?_)))
  refine spl (Subscript_ (ldL EF F2 rfl rfl (eInt fun k1 t2 => tGet (isTup_le hpa F2.keep) (by decide) (by decide) (j := 2) (by simp [seqIndex?]) (x := .ref sa) (by simp) ?_)))
  refine spl (ldL EF F2 rfl rfl (spl0 ⟨F2.H, ?_⟩))
  refine rsides_ok amd (F2.pre P.B) J pp.some_ hn pp.prs hk hσ fun a v1 v2 d' g' h' t' G k kh ha h1 h2 => ?_
  have F3 := F2.called0 kh G k
  exact q a v1 v2 d' g' h' t' F3.gr F3.keep F3.old.le ha h1 h2
theorem sides_spec {xs : List Str} {σ : Str → Tm} (am : Amb A 11 66) (P : Pre w mg mb H0 g h) (J : JudgeAt w H0 g x rx lv rv lt rt) (pp : PaperAt g pa sa "r" vs ps xs) (hn : NoD g sa vs) (hk : ps.map (·.1) = can lt.vs)
    (hσ : ∀ y ∈ can lt.vs, ∃ u, valueAt ps y = some u ∧ IsTm g u (σ y))
    (q : ∀ a v1 v2 d' g' h' t', Grow h.objs.size g g' → Le g' h' → Le h h' → IsTup g' a #[v1, v2] → IsTm g' v1 (lt.pl σ) → IsTm g' v2 (rt.pl σ) → Q (.ref a) (upd { s with drawn := d' } h' t')) :
    wpAny (model PR w) A (call (.ref 198) [.ref x, .ref pa]) Q E (upd s h t) := by
  obtain ⟨tv, rd, kvs, hI, hrd, hD, hv1, hv2⟩ := J.jud
  refine enter (D_sides w.params) P (X := []) (vol := []) am.room (A_sides _ _ _) (by rfl) (by decide) (by simp) (by simp) fun env L h₁ t₁ E' hL EF F => ?_
  have amd : Amb (A.deeper env) 10 63 := am.deeper
  refine wpAny_execs_cons (wpAny_Assign_Name (wpAny_Dict_empty ?_))
  have F2 := F.vpush (a := h₁.objs.size) (p := pX w []) (Le.push h₁ { cls := .type "dict", data := .dict #[] }) (pX.of (Heap.DictOfH.new _)) (Nat.le_refl _)
  refine stC EF F2 rfl rfl (by show h.objs.size ≤ _; omega) fun h₂ F3 => ?_
  refine wpAny_execs_cons (wpAny_For ?_ ?_)
  · refine callDef P.B EF F3 rfl (G_in_order _) (D_inorder _) (spl (ldL EF F3 rfl rfl (spl0 ⟨F3.H, ?_⟩)))
    refine inorder_spec (amd.mono (by omega) (by omega)) (F3.pre P.B) pp fun D y e s4 g4 h4 t4 G4 k4 kh4 hD4 hy he => ?_
    have F4 := F3.called0 kh4 G4 k4
    refine itList F4 hD4 fun I h5 hI5 F5 => ?_
    refine for_close (n := (#[Value.ref y] : Array Value).size) (V := V1 I (pLI D)) F5 (ItR.list amd.handled hI5 hD4) (fun s' => ∃ d h t, s' = upd { s with drawn := d } h t) ⟨s4, _, _, rfl⟩
      (fun i m' cm' vol' g' => m' "self" = some (.ref x) ∧ cm' "known" = some (.ref h₁.objs.size) ∧ ((i = 0 ∧ vol' = [(h₁.objs.size, pX w [])]) ∨ (i = 1 ∧ ∃ a v1 v2, vol' = [(h₁.objs.size, pX w [([], e, .ref a)])] ∧ IsTup g' a #[v1, v2] ∧ IsTm g' v1 (lt.pl σ) ∧ IsTm g' v2 (rt.pl σ)))) ?_ ?_ ?_
    · exact ⟨rfl, rfl, .inl ⟨rfl, rfl⟩⟩
    · rintro i s' m' cm' vol' g' h' t' v ⟨d0, h0, t0, rfl⟩ hi' ⟨j1, j2, j3⟩ kg FF hv
      have hi0 : i = 0 := Nat.lt_one_iff.mp hi'
      subst hi0
      rcases j3 with ⟨-, rfl⟩ | ⟨q0, -⟩
      case inr => cases q0
      have hv' : v = .ref y := by simpa using hv.symm
      subst hv'
      refine asgP2 amd.handled FF (isTup_le hy (kg.trans FF.keep)) fun ha Fa ka => ?_
      refine asgC EF Fa rfl rfl (by show h.objs.size ≤ _; omega) fun hb Fb => asgN EF Fb rfl fun hc tc Fc => ?_
      refine wpAny_execs_cons (wpAny_Expr_any ?_ EF.inter)
      refine callDef P.B EF Fc rfl (G_want_form _) (D_want _) (spl (ldL EF Fc rfl rfl (spl (ldC EF Fc rfl rfl rfl (spl0 ⟨Fc.H, ?_⟩)))))
      refine wantform_spec (amd.mono (by omega) (by omega)) (Fc.pre P.B) (pp.le (G4.le.trans kg)) fun s5 hd td kd => ?_
      have Fd := Fc.ext kd
      refine wpAny_execs_cons (wpAny_Assign_Subscript ?_)
      refine callM (pl := do return (← importBound (.Name "self" _) env).getD true) P.B EF Fd rfl j1 (hI.le (G4.le.trans (kg.trans Fd.keep))) (pg_Judge_sides_of _) (fi_Judge_sides_of _) (fm_Judge_sides_of _) (kp_Judge_sides_of _) (by rfl) ?_
      refine spl (ldL EF Fd rfl rfl (spl (ldC EF Fd rfl rfl rfl (spl ?_))))
      refine lc_open EF ?_
      refine callTy P.B EF Fd rfl (G0_range _) (by boot_by_name) (spl ?_)
      refine callBlt P.B EF Fd rfl (G0_len _) (by boot_by_name) (spl ?_)
      refine callDef P.B EF Fd rfl (G_parts_of _) (D_partsof _) (spl (ldL EF Fd rfl rfl (spl0 ⟨Fd.H, ?_⟩)))
      refine partsof_spec (amd.mono (by omega) (by omega)) (Fd.pre P.B) (pp.le (G4.le.trans kg)) fun e2 ge he_ te Ge ke khe he2 => ?_
      have Fe := Fd.called0 khe Ge ke
      refine spl0 (tLen (isTup_le he2 Fe.keep) (by simp) fun k1 t6 => spl0 (mkRange (n := 0) (by simp) Fe fun r h₅ t₅ hr5 Ff => ?_))
      refine itRange Ff hr5 (by omega) fun I2 h₆ hI2 Fg => ?_
      refine lc_close (n := 0) (vx := []) (vr := V1 I (pLI D) 1 ++ [(h₁.objs.size, pX w [])]) EF Fg (ItR.range amd.handled) (by omega) (fun i ys g' vx' => vx' = [] ∧ ys = []) ?_ ?_ ?_ ?_
      · exact ⟨rfl, rfl⟩
      · rintro _ _ _ _ ⟨rfl, _⟩; rfl
      · rintro C D' cenv i ys g₁ vx' mC h' t' v hi'
        exact absurd hi' (Nat.not_lt_zero _)
      · rintro D1 ys g₁ gg vx' hh tt Fh kk1 kk2 hl' ⟨rfl, rfl⟩
        have e6 : Le g gg := G4.le.trans (kg.trans (Ge.le.trans (kk1.trans kk2)))
        refine spl0 ⟨Fh.H, ?_⟩
        refine sidesof_spec (σ := σ) amd (Fh.pre P.B) (J.le e6) (pp.le e6) (hn.le e6) hk (fun z hz => ?_) fun a v1 v2 s7 g7 h7 t7 G7 k7 kh7 ha7 h71 h72 => ?_
        · obtain ⟨u, e1, e2⟩ := hσ z hz
          exact ⟨u, e1, e2.le e6⟩
        have F7 := Fh.called0 kh7 G7 k7
        refine ldC EF F7 rfl rfl j2 (ldC EF F7 rfl rfl rfl ?_)
        refine xSet (by have := amd.hu; have := amd.units; omega) (F7.volat (h₁.objs.size, pX w []) (by simp)).1 (isTup_le he (kg.trans (Ge.le.trans (kk1.trans (kk2.trans (G7.le.trans F7.keep)))))) fun h8 t8 d8 s8 => ?_
        have F8 := Frm.vset (pre := V1 I (pLI D) 1) (post := []) F7 (le_of_sameBut s8) d8
        exact wpAny_execs_nil ⟨_, h8, _, _, _, [(h₁.objs.size, pX w [([], e, .ref a)])], _, rfl, ⟨_, _, _, rfl⟩, F8, Ge.le.trans (kk1.trans (kk2.trans G7.le)), j1, j2, .inr ⟨rfl, a, v1, v2, rfl, ha7, h71, h72⟩⟩
    · rintro s' m' cm' vol' g' h' t' ⟨d0, h0, t0, rfl⟩ Ff kg ⟨j1, j2, j3⟩
      rcases j3 with ⟨q0, -⟩ | ⟨-, a, v1, v2, rfl, ha, h1, h2⟩
      · cases q0
      refine wpAny_execs_cons (wpAny_Return_some (Subscript_ (ldC EF Ff rfl rfl j2 (eTup (spl0 (mkTup Ff (by simp) fun e2 g9 h9 k9 he2 F9 => ?_))))))
      refine xGet (by have := amd.hu; have := amd.units; omega) (F9.volat (h₁.objs.size, pX w [([], e, .ref a)]) (by simp)).1 (isTup_le he (kg.trans (k9.trans F9.keep))) (isTup_le he2 F9.keep) fun t' => ?_
      exact q a v1 v2 d0 g9 h9 _ F9.gr F9.keep F9.old.le (isTup_le ha k9) (h1.le k9) (h2.le k9)
  · intro _; rfl
end
end Rg
end
section
/-! exceptions of the text: made -/
open PySem PySem.W
set_option autoImplicit false
set_option maxRecDepth 100000
namespace Rg
section
variable {prog : Program} {w : World} {A : Around} {E : Value → Shared → Prop} {R : Result → Shared → Prop} {h : Heap} {g : Array GenState} {d : Drawn} {t : Nat} {os : OsState}
variable {nm q : Str} {C N : Addr} {bs bm : List Value} {hdct : Bool} {sn : List Str} {sub : List Value} {ab : Bool} {col : Option Bool} {dd : Option Addr} {k0 k1 k2 k3 k5 : Option Value}
/-- what the bases are -/
structure ExcBm (bm : List Value) : Prop where
  exc : bm.contains (.type "Exception") = true
  base : bm.contains (.type "BaseException") = true
  attr : bm.contains (.type "AttributeError") = false
  name : bm.contains (.type "NameError") = false
theorem check_new_v (T : ExcBm bm) {M : Model} {rest : List Value} {Q : Unit → Shared → Prop} (hC : h.get? C = some (excClassObj nm q C N bs bm hdct sn sub ab col dd k0 k1 k2 k3 k5 "Exception.__new__"))
    (hq : Q () ⟨h, g, d, t, os⟩) : wpAny M A (checkBuiltinCall "Exception.__new__" ⟨.ref C :: rest, []⟩) Q E ⟨h, g, d, t, os⟩ := by
  have Fn := F.excBase_Exception
  have hcont : (Value.ref C :: bm).contains (.type "Exception") = true := by rw [List.contains_cons, T.exc, Bool.or_true]
  have hstar := Fn.noStar
  simp only [checkBuiltinCall, Fn.newKind, Fn.newSplit, Fn.newRow]
  repeat (first | refine wpAny_loadPart_at hC ?_ | (refine wpAny_isSubtype_exc hC ?_; rw [hcont]) | refine wpAny_staticBase_exc hC ?_ | refine wpAny_madeBy_exc hC ?_ | simp only [bne_self_eq_false, Bool.false_eq_true, if_false] | wp_step)
  exact hq
theorem exc_new_v (T : ExcBm bm) {rest : List Value} (hC : h.get? C = some (excClassObj nm q C N bs bm hdct sn sub ab col dd k0 k1 k2 k3 k5 "Exception.__new__"))
    (hq : R (.ok (.ret (.ref (h.objs.size + 1)))) ⟨(h.push { cls := .type "tuple", data := .seq rest.toArray }).push
      { cls := .ref C, data := .fields #[.ref h.objs.size, .none, .none, .none, .bool false, .none] }, g, d, t, os⟩) (hrest : rest.length ≤ sizeLine) :
    codeAny (model prog w) A (.builtin "Exception.__new__" ⟨.ref C :: rest, []⟩) R ⟨h, g, d, t, os⟩ := by
  have Fn := F.excBase_Exception
  have hends := Fn.ends
  have hcB : (Value.ref C :: bm).contains (.type "Exception") = true := by rw [List.contains_cons, T.exc, Bool.or_true]
  have hcA : (Value.ref C :: bm).contains (.type "AttributeError") = false := by rw [List.contains_cons, T.attr]; rfl
  have hcN : (Value.ref C :: bm).contains (.type "NameError") = false := by rw [List.contains_cons, T.name]; rfl
  refine codeAny_builtinAt Fn.entry ?_
  unfold Builtin.«BaseException.__new__»
  refine wpAt_bind ?_
  show wpAt _ _ _ (stack >>= _) _ _ _
  refine wpAt_bind (wpAt_stack fun p below => wpAt_of_wpAny ?_)
  wp_walk
  refine wpAt_of_wpAny ?_
  rw [Fn.owner]
  repeat (first | with_reducible refine wpAny_madeHere_exc Fn.canon hC ?_ | with_reducible refine wpAny_loadPart_at hC ?_ | (with_reducible refine wpAny_isSubtype_exc hC ?_; first | rw [hcB] | rw [hcA] | rw [hcN]) | wp_step)
  show R _ _
  rw [Heap.size_push]
  exact hq
theorem type_call_v (T : ExcBm bm) {rest : List Value} {fI : Addr} {Q : Fin → Shared → Prop}
    (hC : h.get? C = some (excClassObj nm q C N bs bm hdct sn sub ab col dd k0 k1 k2 k3 k5 "Exception.__new__")) (hi : Looks (model prog w) h (typeLookup (.ref C) "__init__") (some (.ref fI)))
    (hb : ∀ self, Looks (model prog w) h (bindSpecial (.ref fI) self) (.ref fI, [self]))
    (hq : ∀ h' e, e = h.objs.size + 1 → Heap.MadeExcOf h h' e (.ref C) rest →
      wpAny (model prog w) A (call (.ref fI) (.ref e :: rest)) (fun r s' => r = .none ∧ Q (.done (.ret (.ref e))) s') E ⟨h', g, d, t, os⟩) (hrest : rest.length ≤ sizeLine) :
    wpAny (model prog w) A (Builtin.«type.__call__» ⟨.ref C :: rest, []⟩) Q E ⟨h, g, d, t, os⟩ := by
  have Fn := F.excBase_Exception
  repeat (first | with_reducible refine wpAny_loadPart_at hC ?_ | with_reducible refine wpAny_madeBy_exc hC ?_ | wp_step)
  refine codeAny_call_builtin_code (Code.quiet_builtin _ Fn.quiet) (check_new_v T hC ?_)
  refine exc_new_v T hC ?_ hrest
  show wpAny _ _ _ _ _ _
  have k₁ : ∀ b o, h.get? b = some o → ((h.push { cls := .type "tuple", data := .seq rest.toArray }).push { cls := .ref C, data := .fields #[.ref h.objs.size, .none, .none, .none, .bool false, .none] }).get? b = some o :=
    fun b o e => Heap.get?_push_of_some _ (Heap.get?_push_of_some _ e)
  have hC₁ := k₁ _ _ hC
  have hget : ((h.push { cls := .type "tuple", data := .seq rest.toArray }).push
      { cls := .ref C, data := .fields #[.ref h.objs.size, .none, .none, .none, .bool false, .none] }).get? (h.objs.size + 1) = some
      { cls := .ref C, data := .fields #[.ref h.objs.size, .none, .none, .none, .bool false, .none] } := by heap_get
  have hcC : (Value.ref C :: bm).contains (.ref C) = true := by simp
  unfold isInstance
  repeat (first | with_reducible refine wpAny_loadPart_at hget ?_ | (with_reducible refine wpAny_isSubtype_exc hC₁ ?_; rw [hcC]) | wp_step)
  show wpAny _ _ (typeLookup (.ref C) _) _ _ _
  refine Looks.at (hi.keeps k₁) ?_
  refine wpAny_holding (wpAny_bind ?_)
  refine Looks.at ((hb _).keeps k₁) ?_
  refine wpAny_bind (wpAny_mono (hq _ (h.objs.size + 1) rfl ⟨k₁, Heap.get?_none_of_le (Nat.le_succ _), h.objs.size, hget, Heap.get?_none_of_le (Nat.le_refl _), ?_⟩) (fun r s' hr => ?_) fun _ _ x => x)
  · exact Heap.get?_push_of_some _ (Heap.get?_push_at rfl rfl)
  · obtain ⟨rfl, hQ⟩ := hr
    wp_walk
    exact hQ
theorem call_exc_v (T : ExcBm bm) {rest : List Value} {fI : Addr} {Q : Value → Shared → Prop}
    (hC : h.get? C = some (excClassObj nm q C N bs bm hdct sn sub ab col dd k0 k1 k2 k3 k5 "Exception.__new__")) (hi : Looks (model prog w) h (typeLookup (.ref C) "__init__") (some (.ref fI)))
    (hb : ∀ self, Looks (model prog w) h (bindSpecial (.ref fI) self) (.ref fI, [self]))
    (hq : ∀ h' e, e = h.objs.size + 1 → Heap.MadeExcOf h h' e (.ref C) rest →
      wpAny (model prog w) (A.under (.builtin "type.__call__" ⟨.ref C :: rest, []⟩)) (call (.ref fI) (.ref e :: rest)) (fun r s' => r = .none ∧ Q (.ref e) s') E ⟨h', g, d, t, os⟩) (hrest : rest.length ≤ sizeLine) :
    wpAny (model prog w) A (call (.ref C) rest) Q E ⟨h, g, d, t, os⟩ := by
  have f1 := tc_lookup
  have f2 := tc_bind (.ref C)
  have hT : (⟨h, g, d, t, os⟩ : Shared).TypeIs (.ref C) "type" := ⟨_, hC, rfl⟩
  refine wpAny_call (codeAny_of_tree ?_)
  show wpAny _ _ (callAny (.ref C) _) _ _ _
  repeat (any_goals (first | assumption | with_reducible refine wpAny_loadPart_at hC ?_ | wp_step))
  refine ⟨rfl, ?_⟩
  refine codeAny_call_builtin_at (Code.quiet_builtin _ (by decide +kernel)) entry_typeCall (wpAny_check_type_call_sub hC (type_call_v (hrest := hrest) T hC hi hb fun h' e he hm => ?_))
  exact hq h' e he hm
end
abbrev faultObj : Obj := excClassObj "PaperFault" "PaperFault" 100 99 [.ref 47] [.ref 47, .type "Exception", .type "BaseException", .type "object"] true [] [] false none none (some (.ref 75)) none (some (.str "PaperFault" 266)) (some (.str "PaperFault" 274)) (some (.bool true)) "Exception.__new__"
theorem bm_fault : ExcBm [.ref 47, .type "Exception", .type "BaseException", .type "object"] := ⟨by decide +kernel, by decide +kernel, by decide +kernel, by decide +kernel⟩
theorem cls_fault (P : Params) : (Mine.hd.heap_39 P).lookup 100 = some faultObj := by kernel_rfl
theorem in_fault (P : Params) : findIn (Mine.hd.heap_39 P) (.ref 100) "__init__" = some (some (.ref 90)) := by kernel_rfl
theorem fn_fault (P : Params) : isFn (Mine.hd.heap_39 P) (.ref 90) = true := by kernel_rfl
end Rg
end
section
/-! exceptions of the text: their attributes -/
open PySem PySem.W PySem.Builtin PySem.Builtin.ObjectAttr
set_option autoImplicit false
set_option maxRecDepth 100000
namespace Rg
section
variable {prog : Program} {w : World} {A : Around} {E : Value → Shared → Prop} {h : Heap} {g : Array GenState} {d : Drawn} {t : Nat} {os : OsState}
variable {nm q : Str} {C D N x : Addr} {bs bm : List Value} {sn : List Str} {sub : List Value} {ab : Bool} {col : Option Bool} {dd : Option Addr} {k0 k1 k2 k3 k5 : Option Value} {newId : String}
  {mA : Str → Option Value} {name : Str} {v : Value}
abbrev bmE : List Value := [.type "Exception", .type "BaseException", .type "object"]
theorem exc_sa {M : Model} {o : Obj} {nameV : Value} {Q : Unit → Shared → Prop}
    (hC : h.get? C = some (excClassObj nm q C N bs (.ref D :: bmE) true sn sub ab col dd k0 k1 k2 k3 k5 newId)) (hx : h.get? x = some o) (hc : o.cls = .ref C) (hq : Q () ⟨h, g, d, t, os⟩) :
    wpAny M A (checkBuiltinCall "object.__setattr__" ⟨[.ref x, nameV, v], []⟩) Q E ⟨h, g, d, t, os⟩ := by
  have SF := F.store_Exception
  have hcB : (Value.ref C :: .ref D :: bmE).contains (.type "object") = true := by rw [List.contains_cons, List.contains_cons, SF.hasOwner, Bool.or_true, Bool.or_true]
  have ha := SF.args (.ref x) nameV v
  simp only [checkBuiltinCall, SF.kind, SF.split]
  refine wpAny_bind ?_
  · unfold isInstance
    repeat (first | (with_reducible refine wpAny_loadPart_at hx ?_; rw [hc]) | (with_reducible refine wpAny_isSubtype_exc hC ?_; rw [hcB]) | wp_step)
    exact hq
theorem exc_store {tk : Tok} {Q : PySem.Fin → Shared → Prop} {ns : List Str}
    (hC : h.get? C = some (excClassObj nm q C N bs (.ref D :: bmE) true sn sub ab col dd k0 k1 k2 k3 k5 newId)) (hna : Looks (model prog w) h (typeLookup (.ref C) name) none) (I : h.Inst x C mA)
    (hq : ∀ h' tk', h'.Inst x C (fun y => if y = name then some v else mA y) →
      (∀ b o, b ≠ x → (∀ o₀ dx, h.get? x = some o₀ → o₀.dict = some dx → b ≠ dx) → h.get? b = some o → h'.get? b = some o) →
      (∀ o₀, h.get? x = some o₀ → ∃ o₁, h'.get? x = some o₁ ∧ o₁.cls = o₀.cls ∧ o₁.data = o₀.data ∧ o₁.slots = o₀.slots ∧ (∀ dx, o₀.dict = some dx → o₁.dict = some dx) ∧ (o₀.dict = none → o₁.dict = some h.objs.size)) → Q (.done (.ret .none)) ⟨h', g, d, tk', os⟩) (hw : Within mA ns) (hsz : ns.length ≤ 1000) :
    wpAny (model prog w) A (Builtin.«object.__setattr__» ⟨[.ref x, .str name tk, v], []⟩) Q E ⟨h, g, d, t, os⟩ := by
  have SF := F.store_Exception
  obtain ⟨o, hx, hc, hnc, hd⟩ := I
  have hpass := SF.passes (.ref x)
  unfold Builtin.«object.__setattr__»
  repeat (first | rw [refuse_eq] | (rw [refuseLoop_ref, refuseLoop_ref, hpass]) | (with_reducible refine wpAny_loadPart_at hx ?_; rw [hc]) | with_reducible refine wpAny_mroOf_exc hC ?_ | (with_reducible refine Looks.at hna ?_) | wp_step)
  rcases hd with ⟨hdn, hmA⟩ | ⟨dx, hdx, hne, hns⟩
  ·
    rw [hdn, if_neg (by simp [typeHasDict])]
    split
    · rename_i hcd
      cases hcd
    split
    · rename_i c hcd
      exact absurd hcd (hnc c)
    · have hx₁ : (h.push { cls := .type "dict", data := .dict #[] }).get? x = some o := Heap.get?_push_of_some _ hx
      have hxs : x ≠ h.objs.size := Nat.ne_of_lt (Heap.lt_size hx)
      refine wpAny_bind (wpAny_alloc' ?_)
      refine wpAny_bind (wpAny_update' hx₁ ?_)
      refine wpAny_pure ?_
      have hgd : ((h.push { cls := .type "dict", data := .dict #[] }).update x fun o => { cls := o.cls, dict := some h.objs.size, data := o.data, slots := o.slots }).get? h.objs.size
          = some { cls := .type "dict", data := .dict #[] } :=
        (Heap.get?_update_ne _ _ _ _ hxs.symm).trans (Heap.get?_push_at rfl rfl)
      have hnd : ((h.push { cls := .type "dict", data := .dict #[] }).update x fun o => { cls := o.cls, dict := some h.objs.size, data := o.data, slots := o.slots }).Ns h.objs.size (fun _ => none) :=
        ⟨_, #[], _, hgd, rfl, fun e he => absurd he (by simp), fun _ => rfl⟩
      show wpAny _ _ (storeInDict h.objs.size (.str name tk) name v) _ _ _
      unfold storeInDict newKeyGuard
      refine wpAny_bind (wpAny_pure (wpAny_bind (wpAny_nsSet1 (Heap.Ns1.of_empty hnd) fun h' hn' hs => ?_)))
      obtain ⟨oD, esD, epD, hoD, hdD, hcD⟩ := hn'.count (Within.cons name v Within.nil)
      refine wpAny_bind (wpAny_lookBehind hoD (by rw [hdD]; exact pastItsLine_dict (Nat.le_trans hcD (by rw [List.length_cons, List.length_nil, sizeLine_eq]; omega))) ?_)
      wp_walk
      have hx' : h'.get? x = some { cls := o.cls, dict := some h.objs.size, data := o.data, slots := o.slots } := ?_
      refine hq h' _ ⟨{ cls := o.cls, dict := some h.objs.size, data := o.data, slots := o.slots }, hx', hc, hnc, .inr ⟨h.objs.size, rfl, hxs.symm, ?_⟩⟩ (fun b ob hbx _ hb => ?_)
        (fun o₀ h₀ => by obtain rfl : o = o₀ := Option.some.inj (hx.symm.trans h₀); exact ⟨_, hx', rfl, rfl, rfl, (fun dx e => by rw [hdn] at e; cases e), fun _ => rfl⟩)
      · obtain ⟨o', es, ep, e1, e2, e3, eu, e4⟩ := hn'
        exact ⟨o', es, ep, e1, e2, e3, eu, fun y => by rw [e4 y]; by_cases hy : y = name <;> simp [hy, hmA]⟩
      · exact (hs.2 b (Nat.ne_of_lt (Heap.lt_size hb))).trans ((Heap.get?_update_ne _ _ _ _ hbx).trans (Heap.get?_push_of_some _ hb))
      · refine (hs.2 x hxs).trans (Heap.get?_update_self _ hx₁ ?_)
        have hfr := (Heap.get?_some_iff.mp hx).2
        obtain ⟨oc, od, odt, osl⟩ := o
        cases odt <;> first | rfl | exact hfr
  ·
    rw [hdx]
    refine wpAny_pure ?_
    show wpAny _ _ (storeInDict dx (.str name tk) name v) _ _ _
    unfold storeInDict newKeyGuard
    refine wpAny_bind (wpAny_pure (wpAny_bind (wpAny_nsSet1 hns fun h' hn' hs => ?_)))
    obtain ⟨oD, esD, epD, hoD, hdD, hcD⟩ := hn'.count (Within.cons name v hw)
    refine wpAny_bind (wpAny_lookBehind hoD (by rw [hdD]; exact pastItsLine_dict (Nat.le_trans hcD (by rw [List.length_cons, sizeLine_eq]; omega))) ?_)
    wp_walk
    refine hq h' _ ⟨o, (hs.2 x hne.symm).trans hx, hc, hnc, .inr ⟨dx, hdx, hne, hn'⟩⟩ (fun b ob _ hbd hb => ?_)
      (fun o₀ h₀ => ⟨o₀, (hs.2 x hne.symm).trans h₀, rfl, rfl, rfl, (fun _ e => e), fun e => by obtain rfl : o = o₀ := Option.some.inj (hx.symm.trans h₀); rw [hdx] at e; cases e⟩)
    exact (hs.2 b (hbd o dx hx hdx)).trans hb
theorem exc_set {Q : Unit → Shared → Prop} {ns : List Str}
    (hC : h.get? C = some (excClassObj nm q C N bs (.ref D :: bmE) true sn sub ab col dd k0 k1 k2 k3 k5 newId)) (hns : Looks (model prog w) h (typeLookup (.ref C) "__setattr__") (some (.builtin "object.__setattr__"))) (hna : Looks (model prog w) h (typeLookup (.ref C) name) none) (I : h.Inst x C mA)
    (hq : ∀ h' tk', h'.Inst x C (fun y => if y = name then some v else mA y) →
      (∀ b o, b ≠ x → (∀ o₀ dx, h.get? x = some o₀ → o₀.dict = some dx → b ≠ dx) → h.get? b = some o → h'.get? b = some o) →
      (∀ o₀, h.get? x = some o₀ → ∃ o₁, h'.get? x = some o₁ ∧ o₁.cls = o₀.cls ∧ o₁.data = o₀.data ∧ o₁.slots = o₀.slots ∧ (∀ dx, o₀.dict = some dx → o₁.dict = some dx) ∧ (o₀.dict = none → o₁.dict = some h.objs.size)) → Q () ⟨h', g, d, tk', os⟩) (hw : Within mA ns) (hsz : ns.length ≤ 1000) :
    wpAny (model prog w) A (setAttr (.ref x) name v) Q E ⟨h, g, d, t, os⟩ := by
  have SF := F.store_Exception
  obtain ⟨o, hx, hc, _⟩ := id I
  have f3 := SF.slot.bind (.ref x)
  unfold setAttr callSpecial? specialOf
  repeat (any_goals (first | assumption | (with_reducible refine wpAny_loadPart_at hx ?_; rw [hc]) | (with_reducible refine Looks.at hns ?_) | wp_step))
  refine codeAny_call_builtin SF.slot.plain SF.entry (exc_sa hC hx hc (exc_store hC hna I (fun h' tk' I' hk hsame => ?_) hw hsz))
  repeat (any_goals (first | assumption | wp_step))
  exact hq h' tk' I' hk hsame
theorem exc_get_entry {tk : Tok} {Q : PySem.Fin → Shared → Prop}
    (hC : h.get? C = some (excClassObj nm q C N bs (.ref D :: bmE) true sn sub ab col dd k0 k1 k2 k3 k5 newId)) (hna : Looks (model prog w) h (typeLookup (.ref C) name) none) (I : h.Inst x C mA) (hv : mA name = some v) (hq : Q (.done (.ret v)) ⟨h, g, d, t, os⟩) :
    wpAny (model prog w) A (Builtin.«object.__getattribute__» ⟨[.ref x, .str name tk], []⟩) Q E ⟨h, g, d, t, os⟩ := by
  obtain ⟨o, hx, hc, hnc, hd⟩ := I
  rcases hd with ⟨_, hmA⟩ | ⟨dx, hdx, hne, hns⟩
  · rw [hmA name] at hv; cases hv
  repeat (first | (with_reducible refine wpAny_loadPart_at hx ?_; rw [hc]) | (with_reducible refine Looks.at hna ?_) | wp_step)
  split
  · rename_i c hcd
    exact absurd hcd (hnc c)
  unfold instanceDict
  repeat (first | (with_reducible refine wpAny_loadPart_at hx ?_; rw [hc]) | with_reducible refine wpAny_loadPart_at hC ?_ | wp_step)
  rw [hdx]
  repeat (first | (with_reducible refine wpAny_nsGet hns.ns ?_; rw [hv]) | wp_step)
  exact hq
theorem exc_check_ga {M : Model} {o : Obj} {nameV : Value} {Q : Unit → Shared → Prop}
    (hC : h.get? C = some (excClassObj nm q C N bs (.ref D :: bmE) true sn sub ab col dd k0 k1 k2 k3 k5 newId)) (hx : h.get? x = some o) (hc : o.cls = .ref C) (hq : Q () ⟨h, g, d, t, os⟩) :
    wpAny M A (checkBuiltinCall "BaseException.__getattribute__" ⟨[.ref x, nameV], []⟩) Q E ⟨h, g, d, t, os⟩ := by
  have hk : builtinKind "BaseException.__getattribute__" = some .slot := by decide +kernel
  have hsplit : splitId "BaseException.__getattribute__" = some ("BaseException", "__getattribute__") := by decide +kernel
  have hcB : (Value.ref C :: .ref D :: bmE).contains (.type "BaseException") = true := by rw [List.contains_cons, List.contains_cons]; rfl
  have ha := F.args_bexc_ga (.ref x) nameV
  simp only [checkBuiltinCall, hk, hsplit]
  refine wpAny_bind ?_
  · unfold isInstance
    repeat (first | (with_reducible refine wpAny_loadPart_at hx ?_; rw [hc]) | (with_reducible refine wpAny_isSubtype_exc hC ?_; rw [hcB]) | wp_step)
    exact hq
theorem exc_get {expr : Bool} {Q : Value → Shared → Prop}
    (hC : h.get? C = some (excClassObj nm q C N bs (.ref D :: bmE) true sn sub ab col dd k0 k1 k2 k3 k5 newId)) (hga : Looks (model prog w) h (typeLookup (.ref C) "__getattribute__") (some (.builtin "BaseException.__getattribute__"))) (hgn : Looks (model prog w) h (typeLookup (.ref C) "__getattr__") none)
    (hna : Looks (model prog w) h (typeLookup (.ref C) name) none) (I : h.Inst x C mA) (hv : mA name = some v) (hh : handedOut v = pure v) (hb : bindSpecial (.builtin "BaseException.__getattribute__") (.ref x) = pure (.builtin "BaseException.__getattribute__", [.ref x])) (hp : plainId "BaseException.__getattribute__" = true) (hq : Q v ⟨h, g, d, t + 1, os⟩) :
    wpAny (model prog w) A (getAttr (.ref x) name expr) Q E ⟨h, g, d, t, os⟩ := by
  have hx0 : (expr && onTheHeap (Value.builtin "BaseException.__getattribute__")) = false := by cases expr <;> rfl
  have hx2 : (Value.builtin "BaseException.__getattribute__" == Value.builtin "object.__getattribute__") = false := by decide +kernel
  have hx1 : (onTheHeap (Value.ref C) && Value.builtin "BaseException.__getattribute__" == Value.builtin "object.__getattribute__") = false := by rw [hx2]; rfl
  obtain ⟨o, hx, hc, _⟩ := id I
  unfold getAttr
  repeat (any_goals (first | assumption | (with_reducible refine wpAny_loadPart_at hx ?_; rw [hc]) | (with_reducible refine Looks.at hga ?_) | (with_reducible refine Looks.at hgn ?_) | wp_step))
  refine codeAny_call_builtin hp F.entry_bexc_ga (exc_check_ga hC hx hc (exc_get_entry hC hna I hv ?_))
  repeat (any_goals (first | assumption | wp_step))
end
end Rg
end
section
/-! exceptions of the text: super().__init__ -/
open PySem PySem.W PySem.Builtin PySem.Builtin.ObjectAttr
set_option autoImplicit false
set_option maxRecDepth 100000
namespace Rg
section
variable {prog : Program} {w : World} {A : Around} {E : Value → Shared → Prop} {h : Heap} {g : Array GenState} {d : Drawn} {t : Nat} {os : OsState}
theorem exc_init_own : classOwn (.type "Exception") "__init__" = pure (some (.builtin "Exception.__init__")) := by
  show (pure (builtinOwn "Exception" "__init__") : Sem (Option Value)) = _
  rw [builtinOwn_eq_fast]; kernel_rfl
theorem forIn_exc {β : Type} {M : Model} {init : β} {body : Value → β → Sem (ForInStep β)} {k : Option Value → Sem (ForInStep β)} {Q : β → Shared → Prop} {s : Shared}
    (hb : ∀ c r, body c r = classOwn c "__init__" >>= k) (hq : wpAny M A (k (some (.builtin "Exception.__init__"))) (fun st s' => match st with | .done b => Q b s' | .yield _ => False) E s) : wpAny M A (forIn bmE init body) Q E s := by
  rw [List.forIn_cons, hb, exc_init_own]
  refine wpAny_bind (wpAny_bind (wpAny_pure (wpAny_mono hq (fun st s' hs => ?_) fun _ _ z => z)))
  cases st with
  | done b => exact wpAny_pure hs
  | yield b => exact hs.elim
theorem ty_exc_init : typeOf (.builtin "Exception.__init__") = pure (.type "wrapper_descriptor") := by
  have hop : withoutEnding? "Exception.__init__" "#opaque" = none := by decide +kernel
  have hdat : withoutEnding? "Exception.__init__" "#data" = none := by decide +kernel
  have hk : builtinKind "Exception.__init__" = some .slot := F.excCall_Exception.initKind
  simp only [typeOf, builtinType, hop, hdat, hk]
  rfl
theorem slot_wd_get : Slot "wrapper_descriptor" "__get__" "wrapper_descriptor.__get__" := .of (owner := "wrapper_descriptor") (n := "__get__") (by rw [typeLookup_type, builtinLookup_eq_fast]; kernel_rfl) (by decide +kernel) (by decide +kernel) (by decide +kernel)
  (by first | exact .inl (by decide +kernel) | exact .inr (by decide +kernel)) (by rw [isSubtype_type]; kernel_rfl)
theorem entry_wd_get : entryFor table "wrapper_descriptor.__get__" = some Builtin.«wrapper_descriptor.__get__» := entryFor_of_tree (by kernel_rfl)
theorem args_wd_get (a b c : Value) : argsOk "wrapper_descriptor.__get__" ⟨[a, b, c], []⟩ := by unfold argsOk; kernel_rfl
theorem wd_step {x C : Addr} {ox : Obj} {R : ForInStep (Option PySem.Fin × Unit) → Shared → Prop} (hx : h.get? x = some ox) (hc : ox.cls = .ref C) (hsub : Looks (model prog w) h (isSubtype (.ref C) (.type "Exception")) true)
    (hq : R (.done (some (.done (.ret (.ref h.objs.size))), ())) ⟨h.push { cls := .type "method-wrapper", data := .fields #[.builtin "Exception.__init__", .ref x] }, g, d, t, os⟩) :
    wpAny (model prog w) A (do
      let ty ← typeOf (.builtin "Exception.__init__")
      let gg ← typeLookup ty "__get__"
      match gg with
        | some gg => do
          let v ← holding [.builtin "Exception.__init__"] (call gg [.builtin "Exception.__init__", Value.ref x, Value.ref C])
          let v ← ret v
          pure (ForInStep.done (some v, ()))
        | none => do
          let v ← handedOut (.builtin "Exception.__init__")
          let v ← ret v
          pure (ForInStep.done (some v, ()))) R E ⟨h, g, d, t, os⟩ := by
  refine wpAny_bind (wpAny_of_eq ty_exc_init (wpAny_bind (wpAny_of_eq slot_wd_get.lookup ?_)))
  refine wpAny_bind (wpAny_holding (wpAny_call_entry slot_wd_get (show Shared.TypeIs _ (.builtin "Exception.__init__") "wrapper_descriptor" from ty_exc_init) entry_wd_get ?_ (args_wd_get _ _ _)))
  unfold Builtin.«wrapper_descriptor.__get__»
  repeat (first | (with_reducible refine wpAny_loadPart_at hx ?_; rw [hc]) | (with_reducible refine Looks.at hsub ?_) | wp_step)
  rw [show ".".intercalate ("Exception.__init__".cutAt '.').dropLast = "Exception" by decide +kernel]
  refine Looks.at hsub ?_
  rw [Bool.not_true, if_neg Bool.false_ne_true]
  refine wpAny_pure ?_
  unfold newFields
  refine wpAny_bind (wpAny_newObj_type (wpAny_pure ⟨_, rfl, wpAny_pure hq⟩) (by size_fits))
theorem super_ga_exc {so D x C : Addr} {l₀ : List Value} {tk : Tok} {ox : Obj} {Q : PySem.Fin → Shared → Prop}
    (hso : h.get? so = some { cls := .type "super", dict := none, data := .fields #[.ref D, .ref x, .ref C], slots := #[] }) (hno : Looks (model prog w) h (opaqueClassAbove (.ref C)) none)
    (hC : Looks (model prog w) h (mroOf (.ref C)) l₀) (hl : (l₀.dropWhile (· != .ref D)).drop 1 = bmE) (hxC : x ≠ C) (hx : h.get? x = some ox) (hc : ox.cls = .ref C) (hsub : Looks (model prog w) h (isSubtype (.ref C) (.type "Exception")) true)
    (hq : Q (.done (.ret (.ref h.objs.size))) ⟨h.push { cls := .type "method-wrapper", data := .fields #[.builtin "Exception.__init__", .ref x] }, g, d, t, os⟩) :
    wpAny (model prog w) A (Builtin.«super.__getattribute__» ⟨[.ref so, .str "__init__" tk], []⟩) Q E ⟨h, g, d, t, os⟩ := by
  have hne : (Value.ref x == Value.ref C) = false := by simp [hxC]
  have hdt : ({ cls := .type "super", dict := none, data := .fields #[.ref D, .ref x, .ref C], slots := #[] } : Obj).data = .fields #[.ref D, .ref x, .ref C] := rfl
  have f0 : (#[.ref D, .ref x, .ref C] : Array Value)[0]? = some (.ref D) := rfl
  have f1 : (#[.ref D, .ref x, .ref C] : Array Value)[1]? = some (.ref x) := rfl
  have f2 : (#[.ref D, .ref x, .ref C] : Array Value)[2]? = some (.ref C) := rfl
  have hn : (("__init__" : Str) == ("__class__" : Str)) = false := by decide +kernel
  unfold Builtin.«super.__getattribute__»
  repeat (first
    | (with_reducible refine wpAny_field hso hdt f0 ?_) | (with_reducible refine wpAny_field hso hdt f1 ?_) | (with_reducible refine wpAny_field hso hdt f2 ?_)
    | (with_reducible refine ks_wpAny_notOpaque hno ?_)
    | (with_reducible refine Looks.at hC ?_; rw [hl])
    | (refine forIn_exc (fun _ _ => rfl) ?_; exact wd_step hx hc hsub (wpAny_pure hq))
    | (simp only [hn, hne, Bool.or_false, Bool.false_eq_true, if_false])
    | wp_step
    | dsimp only)
theorem getMethod_super_exc {so D x C : Addr} {l₀ : List Value} {pl : Sem Bool} {ox : Obj} {Q : Value × List Value → Shared → Prop}
    (hso : h.get? so = some { cls := .type "super", dict := none, data := .fields #[.ref D, .ref x, .ref C], slots := #[] }) (hno : Looks (model prog w) h (opaqueClassAbove (.ref C)) none)
    (hC : Looks (model prog w) h (mroOf (.ref C)) l₀) (hl : (l₀.dropWhile (· != .ref D)).drop 1 = bmE) (hxC : x ≠ C) (hx : h.get? x = some ox) (hc : ox.cls = .ref C) (hsub : Looks (model prog w) h (isSubtype (.ref C) (.type "Exception")) true)
    (hq : Q (.ref h.objs.size, []) ⟨h.push { cls := .type "method-wrapper", data := .fields #[.builtin "Exception.__init__", .ref x] }, g, d, t + 1, os⟩) :
    wpAny (model prog w) A (getMethod (.ref so) "__init__" pl) Q E ⟨h, g, d, t, os⟩ := by
  have hlk := F.ks_slot_super_ga.lookup
  have hcan := F.ks_canon_super_ga
  have hT : ∀ t', (⟨h, g, d, t', os⟩ : Shared).TypeIs (.ref so) "super" := fun _ => ⟨_, hso, rfl⟩
  unfold getMethod
  refine wpAny_bind (wpAny_specialOf (hT _) hlk ?_)
  show wpAny _ _ (if (Manifest.canonical "super.__getattribute__" != "object.__getattribute__") = true then _ else _) _ _ _
  rw [if_pos hcan]
  unfold getAttr getAttrBy
  refine wpAny_bind (wpAny_bind (wpAny_mkText (wpAny_holding (wpAny_bind (wpAny_typeOf (hT _) (wpAny_bind (wpAny_of_eq hlk ?_)))))))
  show wpAny _ _ (getAttrByItsOwn (.ref so) (.str "__init__" t) (.type "super") (.builtin "super.__getattribute__") true false) _ _ _
  unfold getAttrByItsOwn hookBefore callGetattribute boundAndCalled
  refine wpAny_bind (wpAny_of_eq (show (if onTheHeap (.type "super") then typeLookup (.type "super") "__getattr__" else pure none) = pure none from rfl) ?_)
  refine wpAny_bind (wpAny_attempt (wpAny_holding ?_))
  show wpAny _ _ (bindSpecial (.builtin "super.__getattribute__") (.ref so) >>= _) _ _ _
  refine wpAny_bind (wpAny_of_eq (F.ks_slot_super_ga.bind _) ?_)
  refine wpAny_mono (Q := fun v s' => v = .ref h.objs.size ∧ s' = ⟨h.push { cls := .type "method-wrapper", data := .fields #[.builtin "Exception.__init__", .ref x] }, g, d, t + 1, os⟩) (E := fun _ _ => False)
    (wpAny_call_entry F.ks_slot_super_ga (hT _) F.ks_entry_super_ga (super_ga_exc hso hno hC hl hxC hx hc hsub ⟨_, rfl, rfl, rfl⟩) (F.ks_gaArgs_super _ _)) (fun v s' hv => ?_) fun _ _ z => z.elim
  obtain ⟨rfl, rfl⟩ := hv
  exact wpAny_pure (wpAny_pure hq)
abbrev mwObj (x : Addr) : Obj := { cls := .type "method-wrapper", data := .fields #[.builtin "Exception.__init__", .ref x] }
theorem callWith_mw {M : Model} {pos : Pos} {u x : Addr} {args : List (Bool × Sem Value)} {Q : Value → Shared → Prop} {s : Shared} (hplain : args.any (·.1) = false)
    (q : wpAny M A (evalArgs (.ref u) true args []) (fun y s₁ => s₁.heap.get? u = some (mwObj x) ∧ wpAny M A (call (.ref u) ([] ++ y.pos) y.kw) Q E s₁) E s) : wpAny M A (callWith pos (.ref u) [] args []) Q E s := by
  unfold callWith
  refine wpAny_bind (wpAny_holding (wpAny_mono q (fun x s₁ h₁ => wpAny_bind (wpAny_standAt ?_)) fun _ _ x => x))
  obtain ⟨ho, hcall⟩ := h₁
  simp only [hplain, List.any_nil, Bool.or_false]
  refine wpAny_bind (m := keeperOf (.ref u)) ?_
  unfold keeperOf
  refine wpAny_bind (wpAny_load ho ?_)
  simp only [mwObj, show (Value.type "method-wrapper" != Value.type "method") = true by decide, show (Value.type "method-wrapper" == Value.type "builtin_function_or_method" || Value.type "method-wrapper" == Value.type "method-wrapper") = true by decide, if_true]
  refine wpAny_pure ?_
  exact wpAny_bind (wpAny_mono hcall (fun r s₂ hr => wpAny_bind (wpAny_holding (wpAny_point (wpAny_pure hr)))) fun _ _ x => x)
theorem callWith_mw1 {M : Model} {pos : Pos} {u x : Addr} {env : Env} {e : Expr} {rest : List Expr} {Q : Value → Shared → Prop} {s : Shared}
    (q : wpAny M A (spliced (backTo pos (starEach (e :: rest) env))) (fun vs s₁ => s₁.heap.get? u = some (mwObj x) ∧ wpAny M A (call (.ref u) ([] ++ vs)) Q E s₁) E s)
    (he : starEach (e :: rest) env = (false, eval e env) :: starEach rest env := by rfl) (hplain : (backTo pos (starEach rest env)).any (·.1) = false := by rfl) :
    wpAny M A (callWith pos (.ref u) [] (backTo pos (starEach (e :: rest) env)) []) Q E s := by
  rw [he] at q ⊢
  refine callWith_mw (x := x) (by show (false || (backTo pos (starEach rest env)).any (·.1)) = false; rw [hplain]; rfl) ?_
  exact PySem.Calls.evalArgs_plain q
theorem check_bound_exc {nm q : Str} {C N : Addr} {bs bm : List Value} {hdct : Bool} {sn : List Str} {sub : List Value} {ab : Bool} {col : Option Bool} {dd : Option Addr} {k0 k1 k2 k3 k5 : Option Value} {newId : String} {M : Model} {x : Addr} {v : Value} {ob : Obj} {Q : Unit → Shared → Prop}
    (hC : h.get? C = some (excClassObj nm q C N bs bm hdct sn sub ab col dd k0 k1 k2 k3 k5 newId)) (hx : h.get? x = some ob) (hc : ob.cls = .ref C) (hq : Q () ⟨h, g, d, t, os⟩) :
    wpAny M A (checkBoundCall "Exception.__init__" ⟨[.ref x, v], []⟩) Q E ⟨h, g, d, t, os⟩ := by
  have Fn := F.excBase_Exception
  have hshort := Fn.noStar
  simp only [checkBoundCall, Fn.initKind, Fn.initRow]
  repeat (first | (with_reducible refine wpAny_loadPart_at hx ?_; rw [hc]) | with_reducible refine wpAny_loadPart_at hC ?_ | wp_step)
  exact hq
theorem call_mw {nm q : Str} {C N : Addr} {bs bm : List Value} {hdct : Bool} {sn : List Str} {sub : List Value} {ab : Bool} {col : Option Bool} {dd : Option Addr} {k0 k1 k2 k3 k5 : Option Value} {newId : String} {u x : Addr} {v : Value} {ob : Obj} {vs : Array Value} {t0 : Addr} {Q : Value → Shared → Prop}
    (hC : h.get? C = some (excClassObj nm q C N bs bm hdct sn sub ab col dd k0 k1 k2 k3 k5 newId)) (hc : ob.cls = .ref C) (hu : h.get? u = some (mwObj x)) (hx : h.get? x = some ob) (hd : ob.data = .fields vs) (h0 : vs[0]? = some (.ref t0))
    (hq : Q .none ⟨(h.push { cls := .type "tuple", data := .seq #[v] }).update x (Obj.mapFields (·.setIfInBounds 0 (.ref h.objs.size))), g, d, t, os⟩) :
    wpAny (model prog w) A (call (.ref u) [v]) Q E ⟨h, g, d, t, os⟩ := by
  have Fn := F.excBase_Exception
  refine wpAny_call (codeAny_of_tree ?_)
  show wpAny _ A.in1 (callAny (.ref u) _) _ _ _
  unfold callAny
  refine wpAny_bind (wpAny_load hu ?_)
  simp only [show (Value.type "method-wrapper" == Value.type "method" || Value.type "method-wrapper" == Value.type "builtin_function_or_method" || Value.type "method-wrapper" == Value.type "method-wrapper") = true by decide, if_true, show (Value.type "method-wrapper" != Value.type "method") = true by decide]
  show wpAny _ _ (checkBoundCall "Exception.__init__" ⟨[.ref x, v], []⟩ >>= fun _ => again (Code.builtin "Exception.__init__" ⟨[.ref x, v], []⟩)) _ _ _
  refine wpAny_bind (check_bound_exc hC hx hc (wpAny_pure ⟨Code.quiet_builtin _ (by decide +kernel), codeAny_builtin Fn.initEntry ?_⟩))
  unfold Builtin.«BaseException.__init__»
  dsimp only
  rw [if_neg (by simp)]
  unfold newTuple Builtin.BaseException.bexcPut
  have hsz : 0 < vs.size := (Array.getElem?_eq_some_iff.mp h0).1
  have he₁ := Heap.get?_push_of_some (h := h) { cls := .type "tuple", data := .seq #[v] } hx
  refine wpAny_bind (wpAny_newObj_type (wpAny_bind (wpAny_bind (wpAny_field he₁ hd h0 (wpAny_bind (wpAny_setField he₁ hd hsz ?_))))) (by size_fits))
  exact wpAny_letGo (wpAny_pure hq)
end
end Rg
end
section
/-! exceptions of the text: their two __init__ -/
open PySem PySem.W PyProof.Rows PySem.Calls
set_option autoImplicit false
set_option maxRecDepth 100000
namespace Rg
noncomputable def codeVs (P : Params) (a : Addr) : Array Value := match (Mine.hd.heap_39 P).lookup a with
  | some ⟨_, _, .fields vs, _⟩ => vs
  | _ => #[]
noncomputable def clsObj (P : Params) (a : Addr) : Obj := ((Mine.hd.heap_39 P).lookup a).getD default
noncomputable def firstArg (P : Params) (a : Addr) : Arg := (((fdAt P a).params.posonlyargs ++ (fdAt P a).params.args).head?).getD default
def tokOf : Option Value → Tok
  | some (.str _ t) => t
  | _ => 0
structure SupF (P : Params) (a : Addr) (names : List (Str × NameKind)) (cc D cd : Addr) : Prop where
  at_ : (Mine.hd.heap_39 P).lookup a = some ⟨.type "function", none, .func (fdAt P a), #[]⟩
  body : (fdAt P a).body = .stmts (bodyAt P a)
  names : (fdAt P a).scope.names = names
  code : codeIn (Mine.hd.heap_39 P) (fdAt P a).code (fdAt P a).qualname = true
  clo : (fdAt P a).closure = [(("__class__" : Str), cc)]
  glob : (fdAt P a).globals = mainGlobals
  blt : (fdAt P a).builtins = builtinsNs
  co : (fdAt P a).scope.isCoroutine = false
  gen : (fdAt P a).scope.isGenerator = false
  kind : (fdAt P a).scope.kind = .function
  cref : (fdAt P a).code = .ref cd
  first : ((fdAt P a).params.posonlyargs ++ (fdAt P a).params.args).head? = some (firstArg P a)
  self : (firstArg P a).arg = "self"
  cell : (Mine.hd.heap_39 P).lookup cc = some ⟨.type "cell", none, .cell (some (.ref D)), #[]⟩
  cobj : (Mine.hd.heap_39 P).lookup cd = some ⟨.type "code", none, .fields (codeVs P cd), #[]⟩
  cfile : (codeVs P cd)[2]? = some (.str "/claim/cut.py" (tokOf ((codeVs P cd)[2]?)))
  dcls : clsIn (Mine.hd.heap_39 P) D = some (match (clsObj P D).data with | .cls c => c | _ => default)
  dsub : mroIn (Mine.hd.heap_39 P) 100 (.ref D) = some true
abbrev N_hinit : List (Str × NameKind) := [("self", .local), ("what", .local), ("__class__", .free), ("super", .globalImplicit)]
abbrev N_finit : List (Str × NameKind) := [("self", .local), ("what", .local), ("place", .local), ("__class__", .free), ("super", .globalImplicit)]
theorem S_hinit (P : Params) : SupF P 37 N_hinit 25 47 36 := ⟨by kernel_rfl, by kernel_rfl, by kernel_rfl, by kernel_rfl, by kernel_rfl, by kernel_rfl, by kernel_rfl, by kernel_rfl, by kernel_rfl, by kernel_rfl, by kernel_rfl, by kernel_rfl, by kernel_rfl, by kernel_rfl, by kernel_rfl, by kernel_rfl, by kernel_rfl, by kernel_rfl⟩
theorem S_finit (P : Params) : SupF P 90 N_finit 78 100 89 := ⟨by kernel_rfl, by kernel_rfl, by kernel_rfl, by kernel_rfl, by kernel_rfl, by kernel_rfl, by kernel_rfl, by kernel_rfl, by kernel_rfl, by kernel_rfl, by kernel_rfl, by kernel_rfl, by kernel_rfl, by kernel_rfl, by kernel_rfl, by kernel_rfl, by kernel_rfl, by kernel_rfl⟩
theorem A_hinit (P : Params) (v0 v1 : Value) : bindArgs (fdAt P 37) ⟨[v0, v1], []⟩ = pure ([("self", v0), ("what", v1)] : List (Str × Value)) := by kernel_rfl
theorem A_finit (P : Params) (v0 v1 v2 : Value) : bindArgs (fdAt P 90) ⟨[v0, v1, v2], []⟩ = pure ([("self", v0), ("what", v1), ("place", v2)] : List (Str × Value)) := by kernel_rfl
theorem boot_super : bootBuiltins "super" = some (.type "super") := by boot_by_name
theorem file_main : ((PR.main.file : Str) == "/claim/cut.py") = true := by kernel_rfl
theorem top_super : (PR.main.scope.names.lookup ("super" : Str)).isSome = false := by kernel_rfl
theorem g_super (P : Params) : nsIn (Mine.hd.heap_39 P) mainGlobals "super" = some none := by kernel_rfl
/-- an exception of the text on the heap -/
def Exc (h : Heap) (e : Addr) (od : Option Addr) (mA : Str → Option Value) : Prop :=
  ∃ ob t0, h.get? e = some ob ∧ ob.cls = .ref 100 ∧ ob.data = .fields #[.ref t0, .none, .none, .none, .bool false, .none] ∧ ob.dict = od ∧ h.Inst e 100 mA
section
variable {w : World} {mg mb : Str → Option Value} {A : Around} {E : Value → Shared → Prop} {s : Shared} {H0 h : Heap} {t : Nat}
theorem super_base {a cc D cd L e : Addr} {names : List (Str × NameKind)} {m : Str → Option Value} {ob : Obj} {body : List Stmt} {p0 p1 : Pos} {whole : Sem Value} {Q : Value → Shared → Prop} (S : SupF w.params a names cc D cd) (B : Bs w mg mb H0) (k : Le H0 h)
    (hs : names.lookup ("super" : Str) = some .globalImplicit) (hc : names.lookup ("__class__" : Str) = some .free) (hl : names.lookup ("self" : Str) = some .local)
    (hns : h.Ns L m) (hm : m "self" = some (.ref e)) (he : h.get? e = some ob) (hec : ob.cls = .ref 100) (hnc : ∀ c, ob.data ≠ .cls c)
    (q : ∀ h', h'.get? h.objs.size = some (ks_superObj D e 100) → Le h h' → Q (.ref h.objs.size) (upd s h' t)) :
    _root_.PySem.wpAt (model PR w) A (.func body (callEnv (fdAt w.params a) L a)) (attributeBase (.Call (.Name "super" p0) [] [] p1) "__init__" (callEnv (fdAt w.params a) L a) whole) Q E (upd s h t) := by
  have X := B.K.keeps k
  have kd : ∀ x, (callEnv (fdAt w.params a) L a).kindOf x = names.lookup x := fun x => by rw [← S.names]; rfl
  obtain ⟨oD, hD1, hD2⟩ : ∃ oD, h.get? D = some oD ∧ ∃ cdD, oD.data = .cls cdD := by
    have hD := S.dcls
    unfold clsIn at hD
    split at hD
    · rename_i c d cd' sl ho
      exact ⟨_, X _ _ ho, _, rfl⟩
    · cases hD
  obtain ⟨cdD, hD2⟩ := hD2
  refine ks_wpAt_super_base (env := callEnv (fdAt w.params a) L a) ((kd _).trans hs) ((kd _).trans hc) (by decide +kernel) rfl (X _ _ S.at_) rfl S.first S.cref (X _ _ S.cobj) rfl S.cfile file_main top_super ?_
  refine ks_loadName_global S.kind ((kd _).trans hs) (loadGlobal_builtin (env := callEnv (fdAt w.params a) L a) (by rw [show (callEnv (fdAt w.params a) L a).globals = mainGlobals from S.glob]; exact B.T.g.keeps k) (mg_none_of B.K B.T.g (g_super _)) (by rw [show (callEnv (fdAt w.params a) L a).builtins = builtinsNs from S.blt]; exact B.T.b.keeps k) ((B.T.builtins "super" (by decide +kernel)).trans boot_super) ⟨rfl, ?_⟩)
  refine wpAny_loadName_free S.kind ((kd _).trans hc) (c := cc) (by show List.lookup _ (fdAt w.params a).closure = _; rw [S.clo]; rfl) ⟨_, X _ _ S.cell, rfl⟩ ?_
  refine wpAny_loadName_local S.kind ((kd _).trans (by rw [S.self]; exact hl)) hns (by rw [S.self]; exact hm) ?_
  refine ks_wpAny_isType_cls hD1 hD2 ⟨rfl, ?_⟩
  exact ks_wpAny_call_super hD1 hD2 he hec hnc (looks_mroIn X S.dsub) fun h' e' k' => q h' e' k'
theorem callWith_meth {pos : Pos} {q f : Addr} {self : Value} {env : Env} {e : Expr} {rest : List Expr} {Q : Value → Shared → Prop} {s : Shared} (hf : fnIn (KF w) f = true)
    (z : wpAny (model PR w) A (spliced (backTo pos (starEach (e :: rest) env))) (fun vs s₁ => MethP (KF w) q f self s₁.heap ∧ wpAny (model PR w) A (call (.ref q) ([] ++ vs)) Q E s₁) E s)
    (he : starEach (e :: rest) env = (false, eval e env) :: starEach rest env := by rfl) (hplain : (backTo pos (starEach rest env)).any (·.1) = false := by rfl) :
    wpAny (model PR w) A (callWith pos (.ref q) [] (backTo pos (starEach (e :: rest) env)) []) Q E s := by
  rw [he] at z ⊢
  exact callWith_of (P := MethP (KF w) q f self) (by show ((false || (backTo pos (starEach rest env)).any (·.1)) || false) = false; rw [hplain]; rfl) (keeps_M hf) (evalArgs_plain z)
theorem exc_looks (X : (KF w).In h) : h.get? 100 = some faultObj ∧ Looks (model PR w) h (typeLookup (.ref 100) "__setattr__") (some (.builtin "object.__setattr__")) ∧ Looks (model PR w) h (typeLookup (.ref 100) "what") none ∧ Looks (model PR w) h (typeLookup (.ref 100) "place") none ∧
    Looks (model PR w) h (typeLookup (.ref 100) "__getattribute__") (some (.builtin "BaseException.__getattribute__")) ∧ Looks (model PR w) h (typeLookup (.ref 100) "__getattr__") none ∧ Looks (model PR w) h (typeLookup (.ref 100) "__init__") (some (.ref 90)) ∧
    Looks (model PR w) h (opaqueClassAbove (.ref 100)) none ∧ Looks (model PR w) h (mroOf (.ref 100)) (.ref 100 :: .ref 47 :: bmE) ∧ Looks (model PR w) h (isSubtype (.ref 100) (.type "Exception")) true := by
  refine ⟨X _ _ (cls_fault _), looks_findIn X (by kernel_rfl), looks_findIn X (by kernel_rfl), looks_findIn X (by kernel_rfl), looks_findIn X (by kernel_rfl), looks_findIn X (by kernel_rfl), looks_findIn X (by kernel_rfl), looks_opaque X (by kernel_rfl), ?_, looks_mroIn X (by kernel_rfl)⟩
  exact (looks_clsIn X (C := 100) (cd := match faultObj.data with | .cls c => c | _ => default) (by kernel_rfl)).andThen .now
theorem lt_of_get {h : Heap} {a : Addr} {o : Obj} (e : h.get? a = some o) : a < h.objs.size := Heap.lt_size e
/-- the arguments of an exception put anew -/
theorem exc_put {h : Heap} {e : Addr} {ob : Obj} {t0 : Addr} {v : Value} (e1 : h.get? e = some ob) (e2 : ob.cls = .ref 100) (e3 : ob.data = .fields #[.ref t0, .none, .none, .none, .bool false, .none]) (e4 : ob.dict = none) :
    LeX [e] h ((h.push { cls := .type "tuple", data := .seq #[v] }).update e (Obj.mapFields (·.setIfInBounds 0 (.ref h.objs.size)))) ∧
    Exc ((h.push { cls := .type "tuple", data := .seq #[v] }).update e (Obj.mapFields (·.setIfInBounds 0 (.ref h.objs.size)))) e none fun _ => none := by
  have hne : h.objs.size ≠ e := Nat.ne_of_gt (Heap.lt_size e1)
  have hg := Heap.get?_update_self (Obj.mapFields (·.setIfInBounds 0 (Value.ref h.objs.size))) (Heap.get?_push_of_some (h := h) { cls := .type "tuple", data := .seq #[v] } e1) (Obj.isFreed_of_fields (Obj.data_mapFields e3 _))
  have hd := Obj.data_mapFields e3 (·.setIfInBounds 0 (Value.ref h.objs.size))
  refine ⟨fun b o n q => ?_, _, h.objs.size, hg, (Obj.cls_mapFields _ _).trans e2, hd, ?_, _, hg, (Obj.cls_mapFields _ _).trans e2, (fun c z => by rw [hd] at z; cases z), .inl ⟨?_, fun _ => rfl⟩⟩
  · rw [Heap.get?_update_other _ _ (fun z => n (by rw [z]; simp))]
    exact Heap.get?_push_of_some _ q
  · obtain ⟨oc, od, odt, osl⟩ := ob
    cases e3; exact e4
  · obtain ⟨oc, od, odt, osl⟩ := ob
    cases e3; exact e4
theorem hinit_spec {e : Addr} {wv : Value} {R : Result → Shared → Prop} (am : Amb A 1 10) (B : Bs w mg mb H0) (k : Le H0 h) (he : Exc h e none fun _ => none) (hfe : H0.get? e = none)
    (q : ∀ h' t' dx, LeX [e] h h' → h.objs.size ≤ dx → Exc h' e (some dx) (fun y => if y = "what" then some wv else none) → R (.ok (.ret .none)) (upd s h' t')) :
    codeAny (model PR w) A (.call (.ref 37) ⟨[.ref e, wv], []⟩) R (upd s h t) := by
  have S := S_hinit w.params
  have X := B.K.keeps k
  obtain ⟨ob, t0, e1, e2, e3, e4, e5⟩ := he
  have hnc : ∀ c, ob.data ≠ .cls c := fun c z => by rw [e3] at z; cases z
  refine ks_codeAny_call_defAt (body := bodyAt w.params 37) (binds := [("self", .ref e), ("what", wv)]) am.room (X _ _ S.at_) rfl (B.T.nolimit.keeps k) (codeRec_of X S.code) S.body (BindsTo.of_eq (A_hinit _ _ _)) (by rw [S.names]; decide) (locs (by rw [S.names]; rfl)) (fun h₀ hns hk => ?_) S.co S.gen S.kind
  have kk : Le H0 h₀ := k.trans hk
  have kd : ∀ x, (callEnv (fdAt w.params 37) h.objs.size 37).kindOf x = N_hinit.lookup x := fun x => by rw [← S.names]; rfl
  refine ks_wpAt_execs_cons (ks_wpAt_Expr_any (ks_wpAt_MethodCall ?_))
  refine super_base S B kk rfl rfl rfl hns rfl (hk _ _ e1) e2 hnc fun h₁ hso k₁ => ?_
  have X₁ := B.K.keeps (kk.trans k₁)
  obtain ⟨hC, l1, l2, l3, l4, l5, l6, l7, l8, l9⟩ := exc_looks X₁
  have hne : e ≠ 100 := fun z => by
    have := B.K _ _ (cls_fault _)
    rw [← z, hfe] at this; cases this
  have he1 := k₁ _ _ (hk _ _ e1)
  refine getMethod_super_exc hso l7 l8 (by decide +kernel) hne he1 e2 l9 ?_
  refine callWith_mw1 (x := e) (spl (ldc S.kind (kd _) (ns_le hns (k₁.trans (Le.push _ _))) rfl (spl0 ⟨Heap.get?_push_size _ rfl, ?_⟩)))
  refine call_mw (Heap.get?_push_of_some _ hC) e2 (Heap.get?_push_size _ rfl) (Heap.get?_push_of_some _ he1) e3 (by rfl) ?_
  have he1' := Heap.get?_push_of_some (h := h₁) { cls := .type "method-wrapper", data := .fields #[.builtin "Exception.__init__", .ref e] } he1
  obtain ⟨kX, hE⟩ := exc_put (v := wv) he1' e2 e3 e4
  generalize hh₂ : ((h₁.push { cls := .type "method-wrapper", data := .fields #[.builtin "Exception.__init__", .ref e] }).push { cls := .type "tuple", data := .seq #[wv] }).update e (Obj.mapFields (·.setIfInBounds 0 (.ref (h₁.push { cls := .type "method-wrapper", data := .fields #[.builtin "Exception.__init__", .ref e] }).objs.size))) = h₂ at kX hE
  have k2 : LeX [e] h₀ h₂ := (k₁.trans (Le.push _ _)).toX.trans kX
  have k3 : Le H0 h₂ := fun b o z => k2 b o (fun y => by rw [List.mem_singleton.mp y, hfe] at z; cases z) (kk b o z)
  have hL : h.objs.size ≠ e := Nat.ne_of_gt (Heap.lt_size e1)
  have hns2 : h₂.Ns h.objs.size fun x => ([("self", .ref e), ("what", wv)] : List (Str × Value)).reverse.lookup x := hns.at' fun o z => k2 _ o (by simpa using hL) z
  refine ks_wpAt_execs_cons (ks_wpAt_Assign_Attr (_root_.PySem.wpAt_of_wpAny ?_))
  show wpAny _ _ _ _ _ (upd s h₂ _)
  refine ldc S.kind (kd _) hns2 rfl (ldc S.kind (kd _) hns2 rfl ?_)
  obtain ⟨hC2, m1, m2, m3, m4, m5, m6, m7, m8, m9⟩ := exc_looks (B.K.keeps k3)
  obtain ⟨ob2, t2, f1, f2, f3, f4, f5⟩ := hE
  refine exc_set (D := 47) hC2 m1 m2 f5 (fun h₃ tk I3 kh3 so => ?_) Within.nil (by simp)
  obtain ⟨o3, g1, g2, g3, g4, g5, g6⟩ := so ob2 f1
  refine _root_.PySem.wpAt_of_wpAny (wpAny_execs_nil ?_)
  refine q h₃ tk h₂.objs.size (fun b o n z => kh3 b o (by simpa using n) (fun o₀ dx y1 y2 => by rw [f1] at y1; cases y1; rw [f4] at y2; cases y2) (k2 b o n (hk b o z))) ?_ ⟨o3, t2, g1, g2.trans f2, g3.trans f3, g6 f4, I3⟩
  exact Nat.le_of_lt hns2.lt
set_option maxHeartbeats 2000000 in
theorem finit_spec {e : Addr} {wv pv : Value} {R : Result → Shared → Prop} (am : Amb A 2 20) (B : Bs w mg mb H0) (k : Le H0 h) (he : Exc h e none fun _ => none) (hfe : H0.get? e = none)
    (q : ∀ h' t' dx, LeX [e] h h' → h.objs.size ≤ dx → Exc h' e (some dx) (fun y => if y = "place" then some pv else if y = "what" then some wv else none) → R (.ok (.ret .none)) (upd s h' t')) :
    codeAny (model PR w) A (.call (.ref 90) ⟨[.ref e, wv, pv], []⟩) R (upd s h t) := by
  have S := S_finit w.params
  have X := B.K.keeps k
  obtain ⟨ob, t0, e1, e2, e3, e4, e5⟩ := id he
  have hnc : ∀ c, ob.data ≠ .cls c := fun c z => by rw [e3] at z; cases z
  refine ks_codeAny_call_defAt (body := bodyAt w.params 90) (binds := [("self", .ref e), ("what", wv), ("place", pv)]) am.room (X _ _ S.at_) rfl (B.T.nolimit.keeps k) (codeRec_of X S.code) S.body (BindsTo.of_eq (A_finit _ _ _ _)) (by rw [S.names]; decide) (locs (by rw [S.names]; rfl)) (fun h₀ hns hk => ?_) S.co S.gen S.kind
  have kk : Le H0 h₀ := k.trans hk
  have kd : ∀ x, (callEnv (fdAt w.params 90) h.objs.size 90).kindOf x = N_finit.lookup x := fun x => by rw [← S.names]; rfl
  refine ks_wpAt_execs_cons (ks_wpAt_Expr_any (ks_wpAt_MethodCall ?_))
  refine super_base S B kk rfl rfl rfl hns rfl (hk _ _ e1) e2 hnc fun h₁ hso k₁ => ?_
  have X₁ := B.K.keeps (kk.trans k₁)
  obtain ⟨hC, l1, l2, l3, l4, l5, l6, l7, l8, l9⟩ := exc_looks X₁
  have hne : e ≠ 100 := fun z => by
    have := B.K _ _ (cls_fault _)
    rw [← z, hfe] at this; cases this
  have he1 := k₁ _ _ (hk _ _ e1)
  refine ks_wpAny_getMethod_super (f := 37) (l := .ref 47 :: bmE) hso l7 l8 (by decide +kernel) X₁ (by kernel_rfl) (X₁ _ _ (S_hinit w.params).at_) rfl hne (by decide +kernel) ?_
  have km : Le h₀ (h₁.push { cls := .type "method", data := .fields #[.ref 37, .ref e] }) := k₁.trans (Le.push _ _)
  refine callWith_meth (f := 37) (self := .ref e) (by kernel_rfl) (spl (ldc S.kind (kd _) (ns_le hns km) rfl (spl0 ⟨⟨Heap.get?_push_size _ rfl, B.K.keeps (kk.trans km)⟩, ?_⟩)))
  refine wpAny_call (ks_codeAny_call_bound (Heap.get?_push_size _ rfl) ?_)
  have heE : Exc (h₁.push { cls := .type "method", data := .fields #[.ref 37, .ref e] }) e none fun _ => none := ⟨ob, t0, km _ _ (hk _ _ e1), e2, e3, e4, ob, km _ _ (hk _ _ e1), e2, hnc, .inl ⟨e4, fun _ => rfl⟩⟩
  refine hinit_spec (am.deeper.mono (by omega) (by omega)) B (kk.trans km) heE hfe fun h₂ t₂ dx kX hdx hE => ?_
  have k2 : LeX [e] h₀ h₂ := km.toX.trans kX
  have k3 : Le H0 h₂ := fun b o z => k2 b o (fun y => by rw [List.mem_singleton.mp y, hfe] at z; cases z) (kk b o z)
  have hL : h.objs.size ≠ e := Nat.ne_of_gt (Heap.lt_size e1)
  have hns2 : h₂.Ns h.objs.size fun x => ([("self", .ref e), ("what", wv), ("place", pv)] : List (Str × Value)).reverse.lookup x := hns.at' fun o z => k2 _ o (by simpa using hL) z
  have hLm : h.objs.size < (h₁.push { cls := .type "method", data := .fields #[.ref 37, .ref e] }).objs.size := (ns_le hns km).lt
  refine ks_wpAt_execs_cons (ks_wpAt_Assign_Attr (_root_.PySem.wpAt_of_wpAny ?_))
  refine ldc S.kind (kd _) hns2 rfl (ldc S.kind (kd _) hns2 rfl ?_)
  obtain ⟨hC2, m1, m2, m3, m4, m5, m6, m7, m8, m9⟩ := exc_looks (B.K.keeps k3)
  obtain ⟨ob2, t2, f1, f2, f3, f4, f5⟩ := hE
  refine exc_set (D := 47) hC2 m1 m3 f5 (fun h₃ tk I3 kh3 so => ?_) (Within.cons "what" wv Within.nil) (by simp)
  obtain ⟨o3, g1, g2, g3, g4, g5, g6⟩ := so ob2 f1
  refine _root_.PySem.wpAt_of_wpAny (wpAny_execs_nil ?_)
  refine q h₃ tk dx (fun b o n z => kh3 b o (by simpa using n) (fun o₀ dx' y1 y2 => ?_) (k2 b o n (hk b o z))) (by omega) ⟨o3, t2, g1, g2.trans f2, g3.trans f3, g5 dx f4, I3⟩
  rw [f1] at y1; cases y1
  rw [f4] at y2; cases y2
  exact Nat.ne_of_lt (Nat.lt_of_lt_of_le (Heap.lt_size z) (by omega))
/-- PaperFault(what, place) made -/
theorem mkFault {wv pv : Value} {Q : Value → Shared → Prop} (am : Amb A 3 21) (B : Bs w mg mb H0) (k : Le H0 h)
    (q : ∀ e dx h' t', Le h h' → h.objs.size ≤ e → h.objs.size ≤ dx → Exc h' e (some dx) (fun y => if y = "place" then some pv else if y = "what" then some wv else none) → Q (.ref e) (upd s h' t')) :
    wpAny (model PR w) A (call (.ref 100) [wv, pv]) Q E (upd s h t) := by
  obtain ⟨hC, l1, l2, l3, l4, l5, l6, l7, l8, l9⟩ := exc_looks (B.K.keeps k)
  refine call_exc_v bm_fault hC l6 (fun self => bind_fn (B.K.keeps k) self (beq_iff_eq.mp (fn_fault _))) (fun h₁ e hez hm => ?_) (by rw [sizeLine_eq]; simp)
  obtain ⟨tt, ht, hn1, hn2⟩ := hm.there
  have he : Exc h₁ e none fun _ => none := ⟨_, tt, ht, rfl, rfl, rfl, _, ht, rfl, (fun c z => by cases z), .inl ⟨rfl, fun _ => rfl⟩⟩
  have hfe : H0.get? e = none := none_of_le k hm.new
  have z1 : h.objs.size ≤ e := hez ▸ Nat.le_succ _
  have z2 : h.objs.size < h₁.objs.size := Nat.lt_of_le_of_lt z1 (lt_of_get ht)
  refine wpAny_call (finit_spec (am.make 100 _) B (k.trans hm.keeps) he hfe fun h' t' dx kX hdx hE => ?_)
  exact ⟨rfl, q e dx h' t' (fun b o z => kX b o (fun y => by rw [List.mem_singleton.mp y, hm.new] at z; cases z) (hm.keeps b o z)) z1 (Nat.le_of_lt (Nat.lt_of_lt_of_le z2 hdx)) hE⟩
end
end Rg
end
section
/-! raising an exception of the text -/
open PySem PySem.W PySem.Calls
set_option autoImplicit false
set_option maxRecDepth 100000
namespace Rg
section
variable {M : Model} {A : Around} {E : Value → Shared → Prop} {env : Env}
theorem raiseStmt_v {s : Shared} {x : Sem Value} {Q : Flow → Shared → Prop} (hh : A.handled = none)
    (h : wpAny M A x (fun v s₁ => ∃ e ob t0, v = .ref e ∧ s₁.heap.get? 100 = some faultObj ∧ s₁.heap.get? e = some ob ∧ ob.cls = .ref 100 ∧ ob.data = .fields #[.ref t0, .none, .none, .none, .bool false, .none] ∧ E (.ref e) s₁) E s) :
    wpAny M A (raiseStmt env (some x) none) Q E s := by
  have hcB : (Value.ref 100 :: [.ref 47, .type "Exception", .type "BaseException", .type "object"]).contains (.type "BaseException") = true := by rw [List.contains_cons, bm_fault.base, Bool.or_true]
  unfold raiseStmt
  refine wpAny_bind (wpAny_mono h (fun v s₁ h₁ => ?_) fun _ _ x => x)
  obtain ⟨e, ob, t0, rfl, hC, he, hc, hd, hE⟩ := h₁
  obtain ⟨hp, g, d, tk, os⟩ := s₁
  obtain ⟨oc, od, odt, osl⟩ := ob
  cases hc; cases hd
  repeat (first | with_reducible refine wpAny_loadPart_at he ?_ | with_reducible refine wpAny_loadPart_at hC ?_ | (with_reducible refine wpAny_isSubtype_exc hC ?_; rw [hcB]) | wp_step)
  exact wpAny_raiseNew_none hh hE
theorem raise_v {s : Shared} {x : PySem.Expr} {pos : Pos} {Q : Flow → Shared → Prop} (hh : A.handled = none)
    (h : wpAny M A (eval x env) (fun v s₁ => ∃ e ob t0, v = .ref e ∧ s₁.heap.get? 100 = some faultObj ∧ s₁.heap.get? e = some ob ∧ ob.cls = .ref 100 ∧ ob.data = .fields #[.ref t0, .none, .none, .none, .bool false, .none] ∧ E (.ref e) s₁) E s) :
    wpAny M A (exec (.Raise (some x) none pos) env) Q E s := by
  rw [arm_exec_Raise]
  first
    | exact wpAny_bind (wpAny_standAt (raiseStmt_v hh (wpAny_bind (wpAny_mono h (fun v s₃ h₃ => wpAny_bind (wpAny_standAt (wpAny_pure h₃))) fun _ _ x => x))))
    | (simp only [evalOpt, Option.map]; exact wpAny_bind (wpAny_standAt (raiseStmt_v hh (wpAny_bind (wpAny_mono h (fun v s₃ h₃ => wpAny_bind (wpAny_standAt (wpAny_pure h₃))) fun _ _ x => x)))))
end
end Rg
end
section
/-! an exception of the text in flight: what its frames leave as it was -/
open PySem PySem.W
set_option autoImplicit false
set_option maxRecDepth 100000
namespace Rg
def noHeap : Heap := { objs := #[] }
/-- all of h stands in h', but e and late tracebacks, and of F only the slots may be new -/
structure Sl (F : List Addr) (e n : Addr) (h h' : Heap) : Prop where
  out : ∀ b o, b ∉ F → b ≠ e → (b < n ∨ ∀ vs, o.data ≠ .fields vs) → h.get? b = some o → h'.get? b = some o
  fr : ∀ b o, b ∈ F → h.get? b = some o → ∃ sl, h'.get? b = some { o with slots := sl }
theorem Sl.refl (F : List Addr) (e n : Addr) (h : Heap) : Sl F e n h h := ⟨fun _ _ _ _ _ q => q, fun b o _ q => ⟨o.slots, q⟩⟩
theorem Sl.trans {F : List Addr} {e n : Addr} {a b c : Heap} (x : Sl F e n a b) (y : Sl F e n b c) : Sl F e n a c :=
  ⟨fun p o k m l q => y.out p o k m l (x.out p o k m l q), fun p o k q => let ⟨s1, e1⟩ := x.fr p o k q; let ⟨s2, e2⟩ := y.fr p _ k e1; ⟨s2, e2⟩⟩
theorem Sl.frames {F : List Addr} {e n : Addr} {h h' : Heap} (x : Sl F e n h h') : ∀ {l : List Env}, (∀ env ∈ l, ∀ L, env.frame = some L → L ∈ F) → h.FunFrames noHeap l → h'.FunFrames noHeap l
  | [], _, _ => trivial
  | _ :: _, hm, ⟨hk, ⟨L, o, hf, hn, ho, hd⟩, hr⟩ => let ⟨_, e1⟩ := x.fr L o (hm _ (.head _) L hf) ho; ⟨hk, ⟨L, _, hf, hn, e1, hd⟩, x.frames (fun env he => hm env (.tail _ he)) hr⟩
theorem frames_mem {h : Heap} : ∀ {l : List Env}, h.FunFrames noHeap l → ∀ a ∈ l.filterMap (·.frame), ∃ o, h.get? a = some o ∧ ∀ vs, o.data ≠ .fields vs := fun hl a ha => (hl.mem ha).2
theorem frames_in {l : List Env} : ∀ env ∈ l, ∀ L, env.frame = some L → L ∈ l.filterMap (·.frame) := fun env he L hf => List.mem_filterMap.mpr ⟨env, he, hf⟩
/-- the trace of e -/
def Trc (n : Addr) (h : Heap) (e dx : Addr) (fl : Value) : Prop :=
  ∃ oe vs T oT ts, h.get? e = some oe ∧ oe.cls = .ref 100 ∧ oe.dict = some dx ∧ oe.data = .fields vs ∧ vs[1]? = some (.ref T) ∧ T ≠ e ∧ n ≤ T ∧ h.get? T = some oT ∧ oT.cls = .type "traceback" ∧ oT.data = .fields ts ∧ ts[3]? = some fl
section
variable {M : Model} {A : Around} {E : Value → Shared → Prop} {s : Shared}
theorem entry_v {env : Env} {outer : List Env} {L e dx : Addr} {oe : Obj} {vs : Array Value} {head : Value} {hadNext : Bool} {Q : Unit → Shared → Prop} {n : Addr} (hn : n ≤ e)
    (hfr : A.frames = some (env :: outer)) (hl : s.heap.FunFrames noHeap (env :: outer)) (hf : env.frame = some L)
    (he : s.heap.get? e = some oe) (hc : oe.cls = .ref 100) (hdx : oe.dict = some dx) (hd : oe.data = .fields vs) (hsz : 1 < vs.size)
    (h : ∀ h', Sl ((env :: outer).filterMap (·.frame)) e n s.heap h' → Trc n h' e dx (rawInt L) → Q () { s with heap := h' }) :
    wpAny M A (do let a ← frameOf env; let pl ← entryPlaceOf L hadNext; let b ← EntryCells.newEntry head a .none (rawInt L) .none pl; setField (.ref e) 1 b) Q E s := by
  have hene : e ∉ (env :: outer).filterMap (·.frame) := fun hm => by
    obtain ⟨_, o, ho, hnf⟩ := hl.mem hm
    rw [he] at ho; injection ho with ho; subst ho; exact hnf vs hd
  refine wpAny_bind (wpAny_frameOf_fun hfr hl hf fun h₁ hs₁ => ?_)
  refine wpAny_bind (wpAny_entryPlaceOf fun pl hpl => ?_)
  unfold EntryCells.newEntry newFields
  refine wpAny_bind (wpAny_newObj_type ?_ (hpl.sizeOk5 _ _ _ _ _))
  have he₁ : h₁.get? e = some oe := (hs₁.2.1 e hene).trans he
  have he₂ := Heap.get?_push_of_some (h := h₁) { cls := .type "traceback", dict := none, data := .fields ([head, .ref L, .none, rawInt L, .none] ++ (if pl.isEmpty then List.replicate 6 Value.none else pl)).toArray } he₁
  have hTe : h₁.objs.size ≠ e := Nat.ne_of_gt (Heap.lt_size he₁)
  have hd₃ := Obj.data_mapFields hd (·.setIfInBounds 1 (Value.ref h₁.objs.size))
  have he₃ := Heap.get?_update_self (Obj.mapFields (·.setIfInBounds 1 (Value.ref h₁.objs.size))) he₂ (Obj.isFreed_of_fields hd₃)
  have hT₃ := (Heap.get?_update_other (h₁.push { cls := .type "traceback", dict := none, data := .fields ([head, .ref L, .none, rawInt L, .none] ++ (if pl.isEmpty then List.replicate 6 Value.none else pl)).toArray })
    (Obj.mapFields (·.setIfInBounds 1 (Value.ref h₁.objs.size))) (Ne.symm hTe)).trans (Heap.get?_push_size h₁ rfl)
  have keep : ∀ b o, b ≠ e → h₁.get? b = some o →
      ((h₁.push { cls := .type "traceback", dict := none, data := .fields ([head, .ref L, .none, rawInt L, .none] ++ (if pl.isEmpty then List.replicate 6 Value.none else pl)).toArray }).update e (Obj.mapFields (·.setIfInBounds 1 (Value.ref h₁.objs.size)))).get? b = some o :=
    fun b o hbe hb => by
      rw [Heap.get?_update_other _ _ (Ne.symm hbe)]
      exact Heap.get?_push_of_some _ hb
  refine wpAny_setField he₂ hd hsz (h _ ⟨fun b o k m _ q => ?_, fun b o m q => ?_⟩ ?_)
  · exact keep b o m ((hs₁.2.1 b k).trans q)
  · obtain ⟨sl, q1⟩ := hs₁.2.2 b o q
    exact ⟨sl, keep b _ (fun z => hene (z ▸ m)) q1⟩
  · refine ⟨_, _, h₁.objs.size, _, _, he₃, (Obj.cls_mapFields _ _).trans hc, ?_, hd₃, by simp [hsz], hTe, Nat.le_of_lt (Nat.lt_of_le_of_lt hn (Heap.lt_size he₁)), hT₃, rfl, rfl, by first | (simp; done) | (rcases hpl with rfl | ⟨_, _, _, _, _, _, _, rfl⟩ <;> simp)⟩
    obtain ⟨oc, od, odt, osl⟩ := oe
    cases hd; exact hdx
/-- the flight's mark of an exception taken away -/
theorem flight_v {e dx n : Addr} {fl : Value} {F : List Addr} {Q : Unit → Shared → Prop} (ht : Trc n s.heap e dx fl) (hF : ∀ a ∈ F, ∃ o, s.heap.get? a = some o ∧ ∀ vs, o.data ≠ .fields vs)
    (h : ∀ h', Sl F e n s.heap h' → Trc n h' e dx .none → Q () { s with heap := h' }) : wpAny M A (setFlight (.ref e) none) Q E s := by
  obtain ⟨oe, vs, T, oT, ts, he, hc, hdx, hd, h1, hTe, hnT, hT, hTc, hdT, h3⟩ := ht
  have hsz3 : 3 < ts.size := (Array.getElem?_eq_some_iff.mp h3).1
  have other : ∀ b, b ≠ T → (s.heap.update T (Obj.mapFields (·.setIfInBounds 3 ((none : Option Addr).elim Value.none fun f => rawInt f)))).get? b = s.heap.get? b :=
    fun b hb => Heap.get?_update_other _ _ (Ne.symm hb)
  have hTF : T ∉ F := fun m => by
    obtain ⟨o, ho, hn⟩ := hF T m
    rw [hT] at ho; injection ho with ho; subst ho; exact hn ts hdT
  unfold setFlight
  refine wpAny_bind (wpAny_field he hd h1 ?_)
  rw [if_pos (show (Value.ref T != Value.none) = true from by simp)]
  refine wpAny_setField hT hdT hsz3 (h _ ⟨fun b o k m l q => (other b fun z => ?_).trans q, fun b o m q => ⟨o.slots, (other b fun z => hTF (z ▸ m)).trans q⟩⟩ ?_)
  · subst z
    rw [hT] at q; cases q
    exact l.elim (fun l => absurd l (Nat.not_lt.mpr hnT)) fun l => l _ hdT
  · exact ⟨oe, vs, T, _, _, (other e (Ne.symm hTe)).trans he, hc, hdx, hd, h1, hTe, hnT, Heap.get?_update_self _ hT (Obj.isFreed_of_fields (Obj.data_mapFields hdT _)), (Obj.cls_mapFields _ _).trans hTc, Obj.data_mapFields hdT _, by simp [hsz3]⟩
theorem leave_first {env : Env} {outer : List Env} {L e dx n t0 : Addr} {oe : Obj} {Q : Unit → Shared → Prop} (hn : n ≤ e)
    (hfr : A.frames = some (env :: outer)) (hl : s.heap.FunFrames noHeap (env :: outer)) (hf : env.frame = some L)
    (he : s.heap.get? e = some oe) (hc : oe.cls = .ref 100) (hdx : oe.dict = some dx) (hd : oe.data = .fields #[.ref t0, .none, .none, .none, .bool false, .none])
    (h : ∀ h', Sl ((env :: outer).filterMap (·.frame)) e n s.heap h' → Trc n h' e dx .none → Q () { s with heap := h' }) : wpAny M A (leaving env (.ref e)) Q E s := by
  unfold leaving noteFrame
  simp only [hf]
  refine wpAny_bind (wpAny_bind (wpAny_field he hd (x := .none) rfl ?_))
  rw [if_neg (by decide)]
  refine entry_v hn hfr hl hf he hc hdx hd (by simp) fun h₁ x₁ t₁ => ?_
  exact flight_v t₁ (frames_mem (x₁.frames frames_in hl)) fun h₂ x₂ t₂ => h h₂ (x₁.trans x₂) t₂
theorem note_next {env : Env} {outer : List Env} {L e dx n : Addr} {Q : Unit → Shared → Prop} (hn : n ≤ e)
    (hfr : A.frames = some (env :: outer)) (hl : s.heap.FunFrames noHeap (env :: outer)) (hf : env.frame = some L) (ht : Trc n s.heap e dx .none)
    (h : ∀ h', Sl ((env :: outer).filterMap (·.frame)) e n s.heap h' → Trc n h' e dx (rawInt L) → Q () { s with heap := h' }) : wpAny M A (noteFrame (.ref e) env) Q E s := by
  obtain ⟨oe, vs, T, oT, ts, he, hc, hdx, hd, h1, hTe, hnT, hT, hTc, hdT, h3⟩ := ht
  unfold noteFrame
  simp only [hf]
  refine wpAny_bind (wpAny_field he hd h1 ?_)
  rw [if_pos (show (Value.ref T != Value.none) = true from by simp)]
  refine wpAny_bind (wpAny_field hT hdT h3 ?_)
  rw [if_neg (show ¬ ((Value.none == rawInt L) = true) from by simp [rawInt])]
  refine wpAny_bind (wpAny_setField hT hdT (Array.getElem?_eq_some_iff.mp h3).1 ?_)
  have other : ∀ b, b ≠ T → (s.heap.update T (Obj.mapFields (·.setIfInBounds 3 Value.none))).get? b = s.heap.get? b := fun b hb => Heap.get?_update_other _ _ (Ne.symm hb)
  have hTF : T ∉ (env :: outer).filterMap (·.frame) := fun m => by
    obtain ⟨_, o, ho, hn⟩ := hl.mem m
    rw [hT] at ho; injection ho with ho; subst ho; exact hn ts hdT
  have x₀ : Sl ((env :: outer).filterMap (·.frame)) e n s.heap (s.heap.update T (Obj.mapFields (·.setIfInBounds 3 Value.none))) := by
    refine ⟨fun b o k m l q => (other b fun z => ?_).trans q, fun b o m q => ⟨o.slots, (other b fun z => hTF (z ▸ m)).trans q⟩⟩
    subst z
    rw [hT] at q; cases q
    exact l.elim (fun l => absurd l (Nat.not_lt.mpr hnT)) fun l => l _ hdT
  exact entry_v hn hfr (x₀.frames frames_in hl) hf ((other e (Ne.symm hTe)).trans he) hc hdx hd (Array.getElem?_eq_some_iff.mp h1).1 fun h₁ x₁ t₁ => h h₁ (x₀.trans x₁) t₁
end
end Rg
end
section
/-! rule_sides where it raises -/
open PySem PySem.W PyProof.Rows PySem.Calls PySem.SeqAt
set_option autoImplicit false
set_option maxRecDepth 100000
namespace Rg
/-- all of h stands in h', of F the slots may be new -/
def SlO (F : List Addr) (h h' : Heap) : Prop := (∀ b o, b ∉ F → h.get? b = some o → h'.get? b = some o) ∧ ∀ b o, b ∈ F → h.get? b = some o → ∃ sl, h'.get? b = some { o with slots := sl }
abbrev mFault (wv pv : Value) : Str → Option Value := fun y => if y = "place" then some pv else if y = "what" then some wv else none
structure Flt (F : List Addr) (h h' : Heap) (n e dx : Addr) (mA : Str → Option Value) : Prop where
  so : SlO F h h'
  trc : Trc n h' e dx .none
  hn : h.objs.size ≤ n
  he : n ≤ e
  hdx : n ≤ dx
  ne : dx ≠ e
  ns : h'.Ns1 dx mA
theorem noHeap_get (L : Addr) : noHeap.get? L = none := none_of_ge (Nat.zero_le _)
section
variable {w : World} {mg mb : Str → Option Value} {A : Around} {E : Value → Shared → Prop} {s : Shared} {H0 h g : Heap} {t : Nat} {vol : Vol} {names : List (Str × NameKind)} {env : Env}
  {c : Cx} {L : Addr} {cl : List (Str × Addr)} {m cm : Str → Option Value} {outer : List Env}
theorem raise_fault {k : Str} {kk : Nat} {pv : Value} {np p1 p2 cpos pos : Pos} {Q : Flow → Shared → Prop} {R : Result → Shared → Prop} (am : Amb A 3 21) (B : Bs w mg mb c.H0) (EF : EnvF env names cl L) (F : Frm c L cl m cm vol g h) (hX : c.X = [])
    (hp : names.lookup ("PaperFault" : Str) = some .globalImplicit) (hl : names.lookup ("place" : Str) = some .local) (hm : m "place" = some pv)
    (hfr : A.frames = some (env :: outer)) (hF : c.h₀.FunFrames noHeap outer) (hf : env.frame = some L)
    (q : ∀ n e dx h' t' wv, Flt (outer.filterMap (·.frame)) c.h₀ h' n e dx (mFault wv pv) → R (.error (.ref e)) (upd s h' t')) :
    wpAny (model PR w) A (exec (.Raise (some (.Call (.Name "PaperFault" np) [.Constant (.str k) kk p1, .Name "place" p2] [] cpos)) none pos) env) Q
      (fun e s' => wpAny (model PR w) A (leaving env e) (fun _ s'' => R (.error e) s'') (fun e' s'' => R (.error e') s'') s') (upd s h t) := by
  have old : Le c.h₀ h := by have := F.old; rw [hX] at this; exact this.le
  refine raise_v am.handled (callCls B EF F hp (G_PaperFault _) (kc_PaperFault _) (spl (eStr fun k1 t1 => spl (ldL EF F hl hm (spl0 ⟨F.H, ?_⟩)))))
  refine mkFault am B F.H fun e dx h' t' kh he0 hd0 hE => ?_
  obtain ⟨ob, t0, e1, e2, e3, e4, e5⟩ := hE
  obtain ⟨o5, f1, f2, f3, f4⟩ := e5
  rw [e1] at f1; cases f1
  obtain ⟨dx', g1, g2, g3⟩ : ∃ d, ob.dict = some d ∧ d ≠ e ∧ h'.Ns1 d (mFault (.str k k1) pv) := by
    rcases f4 with ⟨z, _⟩ | z
    · rw [e4] at z; cases z
    · exact z
  rw [e4] at g1; cases g1
  refine ⟨e, ob, t0, rfl, (B.K.keeps (F.H.trans kh)) _ _ (cls_fault _), e1, e2, e3, ?_⟩
  have hl' : h'.FunFrames noHeap (env :: outer) := by
    refine ⟨by rw [EF.kind]; decide, ?_, hF.of_keeps fun b o z _ => ⟨o, kh _ _ (old _ _ z), rfl⟩⟩
    obtain ⟨o, es, ep, z1, z2, _⟩ := F.ns
    exact ⟨L, o, hf, noHeap_get L, kh _ _ z1, fun vs y => by rw [z2] at y; cases y⟩
  have hLl := F.ns.lt
  refine leave_first (n := h.objs.size) he0 hfr hl' hf e1 e2 e4 e3 fun h₂ x₂ tr => ?_
  have inF : ∀ b ∈ (env :: outer).filterMap (·.frame), b < h.objs.size := fun b hb => by
    rw [List.filterMap_cons, hf] at hb
    rcases List.mem_cons.mp hb with rfl | hb
    · exact hLl
    · obtain ⟨_, o, ho, _⟩ := hF.mem hb
      exact Heap.lt_size (old _ _ ho)
  have nLout : ∀ b o, c.h₀.get? b = some o → b ≠ L := fun b o z y => absurd (Heap.lt_size z) (Nat.not_lt.mpr (y ▸ F.freshL))
  refine q h.objs.size e dx h₂ t' (.str k k1) ⟨⟨fun b o n z => ?_, fun b o n z => ?_⟩, tr, F.sz, he0, hd0, g2, ?_⟩
  · have lt := Heap.lt_size (old _ _ z)
    refine x₂.out b o (fun y => ?_) (Nat.ne_of_lt (Nat.lt_of_lt_of_le lt he0)) (.inl lt) (kh _ _ (old _ _ z))
    rw [List.filterMap_cons, hf] at y
    rcases List.mem_cons.mp y with y | y
    · exact nLout b o z y
    · exact n y
  · exact x₂.fr b o (by rw [List.filterMap_cons, hf]; exact List.mem_cons_of_mem _ n) (kh _ _ (old _ _ z))
  · refine g3.at fun o z => ?_
    obtain ⟨o', es, ep, y1, y2, _⟩ := g3
    rw [z] at y1; cases y1
    exact x₂.out dx o (fun y => absurd (inF dx y) (Nat.not_lt.mpr hd0)) g2 (.inr fun vs y => by rw [y2] at y; cases y) z
end
section
variable {w : World} {mg mb : Str → Option Value} {A : Around} {s : Shared} {H0 h g : Heap} {t : Nat} {R : Result → Shared → Prop} {x rx sa : Addr} {lv rv pv : Value} {lt rt : Tm} {vs : List Value} {ps : List (Str × Value)} {outer : List Env}
theorem rsides_bad {nm : Str} {tkn : Tok} (am : Amb A 9 60) (P : Pre w mg mb H0 g h) (J : JudgeAt w H0 g x rx lv rv lt rt) (hs : IsTup g sa vs.toArray) (hp : PairsAt g vs ps) (hz : ps.length ≤ 4)
    (hbad : nm = "nobody" ∨ (nm = "r" ∧ ps.map (·.1) ≠ can lt.vs)) (hfr : A.frames = some outer) (hF : h.FunFrames noHeap outer)
    (q : ∀ n e dx d' h' t' wv, Flt (outer.filterMap (·.frame)) h h' n e dx (mFault wv pv) → R (.error (.ref e)) (upd { s with drawn := d' } h' t')) :
    codeAny (model PR w) A (.call (.ref 188) ⟨[.ref x, .str nm tkn, .ref sa, pv], []⟩) R (upd s h t) := by
  obtain ⟨tv, rd, kvs, hI, hrd, hD, hv1, hv2⟩ := J.jud
  obtain ⟨nv, dv, hR⟩ := J.rul
  have hll : handedIn lv = true := J.lft.handed
  have hlen := hp.1
  refine enterE (D_rsides w.params) P (X := []) (vol := []) am.room (A_rsides _ _ _ _ _) (by rfl) (by decide) (by simp) (by simp) fun env L h₁ t₁ hL EF F _ hf => ?_
  have amd : Amb (A.deeper env) 8 57 := am.deeper
  have hfr' : (A.deeper env).frames = some (env :: outer) := Around.frames_deeper hfr
  refine wpAny_execs_cons (wpAny_If (wpAny_isTrue_Compare1 (ldL EF F rfl rfl ?_)))
  refine attrL P.B (PC_Judge _) EF F rfl rfl (hI.le F.keep) (pg_Judge_rules _) (fi_Judge_rules _) (by rfl) (by rfl) fun t₂ => ?_
  refine cNotInD P.B hrd (hD.le F.keep) fun t₃ => tru ?_
  rcases hbad with rfl | ⟨rfl, hk⟩
  · rw [hv2, Option.isSome_none, Bool.not_false, if_pos rfl]
    exact wpAny_execs_cons (raise_fault (amd.mono (by omega) (by omega)) P.B EF F rfl rfl rfl rfl hfr' hF hf fun n e dx h' t' wv z => q n e dx s.drawn h' t' wv z)
  rw [hv1, Option.isSome_some, Bool.not_true, if_neg Bool.false_ne_true]
  refine wpAny_execs_nil (wpAny_execs_cons (wpAny_Assign_Name (Subscript_ ?_)))
  refine attrL P.B (PC_Judge _) EF F rfl rfl (hI.le F.keep) (pg_Judge_rules _) (fi_Judge_rules _) (by rfl) (by rfl) fun t₂ => ?_
  refine ldL EF F rfl rfl (dGet (hD.le F.keep) hv1 fun t₃ => ?_)
  refine stL EF F rfl fun h₂ t₂ F2 => ?_
  refine wpAny_execs_cons (wpAny_If (wpAny_isTrue_Compare1 ?_))
  refine lc_open EF (ldL EF F2 rfl rfl (itTup F2 hs fun it h₃ hit F3 => ?_))
  refine lc_close (n := vs.toArray.size) (vx := []) (vr := []) EF F3 (ItR.tuple am.handled hit hs) (by rw [List.size_toArray]; omega)
    (fun i ys g' vx' => vx' = [] ∧ StrsAre ys ((ps.take i).map (·.1))) ?_ ?_ ?_ ?_
  · exact ⟨rfl, .nil⟩
  · rintro _ _ _ _ ⟨rfl, _⟩; rfl
  · rintro C D' cenv i ys g₁ vx' mC h' t' v hi' ⟨rfl, hys⟩ EC kg₁ FC hx
    have hi : i < vs.length := by simpa using hi'
    have hip : i < ps.length := by omega
    have hx' : vs[i]? = some v := by simpa using hx
    obtain ⟨pp, ap, tkp, e1, e2, e3⟩ := hp.get hx'
    subst e2
    refine asgP2 amd.handled FC (isTup_le e3 (kg₁.trans FC.keep)) fun ha Fa ka => ?_
    refine asgN EC Fa rfl fun hb tb Fb => asgN EC Fb rfl fun hc tc Fc => tests0 ?_
    rw [if_pos rfl]
    refine ldL EC Fc rfl rfl ⟨hc, _, g₁, [], _, rfl, Fc, rfl, ?_⟩
    have hpi : ps[i] = pp := by rw [List.getElem?_eq_getElem hip] at e1; exact Option.some.inj e1
    rw [List.take_succ_eq_append_getElem hip, List.map_append, hpi]
    exact strsAre_app hys (.cons _ _ .nil)
  · rintro D1 ys g₁ gg vx' hh tt Fh kk1 kk2 hl' ⟨rfl, hys⟩
    rw [show vs.toArray.size = ps.length by rw [List.size_toArray]; omega, List.take_length] at hys
    refine callDef P.B EF Fh rfl (G_variables _) (D_vars _) (spl ?_)
    refine attrL P.B (PC_Rule _) EF Fh rfl rfl (hR.le ((kk1.trans kk2).trans Fh.keep)) (pg_Rule_left _) (fi_Rule_left _) (by rfl) hll fun t₂ => spl0 ⟨Fh.H, ?_⟩
    refine vars_good (amd.mono (by omega) (by omega)) (Fh.pre P.B) (J.lft.le (kk1.trans kk2)) J.lgd fun D2 zs s2 g3 h3 t3 G3 k3 kh3 hD2 hzs => ?_
    have F4 := Fh.called0 kh3 G3 k3
    refine cNeLS (isList_le hl' (G3.le.trans k3)) (isList_le hD2 k3) hys hzs amd.hu (tru ?_)
    rw [show (List.map (fun x => x.fst) ps != can lt.vs) = true from bne_iff_ne.mpr hk, if_pos rfl]
    exact wpAny_execs_cons (raise_fault (amd.mono (by omega) (by omega)) P.B EF F4 rfl rfl rfl rfl hfr' hF hf fun n e dx h' t' wv z => q n e dx s2 h' t' wv z)
end
end Rg
end
section
/-! _law_told -/
open PySem PySem.W PyProof.Rows PySem.Calls PySem.SeqAt
set_option autoImplicit false
set_option maxRecDepth 100000
namespace Rg
section
variable {w : World} {mg mb : Str → Option Value} {A : Around} {E : Value → Shared → Prop} {s : Shared} {H0 h g : Heap} {t : Nat} {Q : Value → Shared → Prop} {x rx sa : Addr} {lv rv pv : Value} {lt rt : Tm} {vs : List Value} {ps : List (Str × Value)} {outer : List Env}
theorem told_ok {tkn : Tok} {σ : Str → Tm} (am : Amb A 10 63) (P : Pre w mg mb H0 g h) (J : JudgeAt w H0 g x rx lv rv lt rt) (hs : IsTup g sa vs.toArray) (hn : NoD g sa vs) (hp : PairsAt g vs ps) (hk : ps.map (·.1) = can lt.vs)
    (hσ : ∀ y ∈ can lt.vs, ∃ u, valueAt ps y = some u ∧ IsTm g u (σ y))
    (q : ∀ a v1 v2 d' g' h' t', Grow h.objs.size g g' → Le g' h' → Le h h' → IsTup g' a #[v1, v2] → IsTm g' v1 (lt.pl σ) → IsTm g' v2 (rt.pl σ) → Q (.ref a) (upd { s with drawn := d' } h' t')) :
    wpAny (model PR w) A (call (.ref 282) [.ref x, .str "r" tkn, .ref sa, pv]) Q E (upd s h t) := by
  obtain ⟨tv, rd, kvs, hI, hrd, hD, hv1, hv2⟩ := J.jud
  refine enter (D_told w.params) P (X := []) (vol := []) am.room (A_told _ _ _ _ _) (by rfl) (by decide) (by simp) (by simp) fun env L h₁ t₁ E' hL EF F => ?_
  have amd : Amb (A.deeper env) 9 60 := am.deeper
  refine wpAny_execs_cons (wpAny_Try_except (wpAny_execs_cons (wpAny_Return_some ?_)))
  refine callM (pl := do return (← importBound (.Name "judge" _) env).getD true) P.B EF F rfl rfl (hI.le F.keep) (pg_Judge_rule_sides _) (fi_Judge_rule_sides _) (fm_Judge_rule_sides _) (kp_Judge_rule_sides _) (by rfl) ?_
  refine spl (ldL EF F rfl rfl (spl (ldL EF F rfl rfl (spl (ldL EF F rfl rfl (spl0 ⟨F.H, ?_⟩))))))
  refine rsides_ok (σ := σ) amd (F.pre P.B) J hs hn hp hk hσ fun a v1 v2 d' g' h' t' G k kh ha h1 h2 => ?_
  have F3 := F.called0 kh G k
  exact q a v1 v2 d' g' h' t' F3.gr F3.keep F3.old.le ha h1 h2
theorem told_bad {nm : Str} {tkn : Tok} (am : Amb A 10 63) (P : Pre w mg mb H0 g h) (J : JudgeAt w H0 g x rx lv rv lt rt) (hs : IsTup g sa vs.toArray) (hp : PairsAt g vs ps) (hz : ps.length ≤ 4) (hpv : handedIn pv = true)
    (hbad : nm = "nobody" ∨ (nm = "r" ∧ ps.map (·.1) ≠ can lt.vs)) (hfr : A.frames = some outer) (hF : h.FunFrames noHeap outer) (hO : ∀ b ∈ outer.filterMap (·.frame), H0.get? b = none)
    (q : ∀ a d' h' t' tk, SlO (outer.filterMap (·.frame)) h h' → h.objs.size ≤ a → h'.get? a = some { cls := .type "tuple", data := .seq #[.str "refused" tk, pv] } → Q (.ref a) (upd { s with drawn := d' } h' t')) :
    wpAny (model PR w) A (call (.ref 282) [.ref x, .str nm tkn, .ref sa, pv]) Q E (upd s h t) := by
  obtain ⟨tv, rd, kvs, hI, hrd, hD, hv1, hv2⟩ := J.jud
  refine wpAny_call (enterE (D_told w.params) P (X := []) (vol := []) am.room (A_told _ _ _ _ _) (by rfl) (by decide) (by simp) (by simp) fun env L h₁ t₁ hL EF F _ hf => ?_)
  have amd : Amb (A.deeper env) 9 60 := am.deeper
  have hfr' : (A.deeper env).frames = some (env :: outer) := Around.frames_deeper hfr
  have hl' : h₁.FunFrames noHeap (env :: outer) := by
    refine ⟨by rw [EF.kind]; decide, ?_, hF.of_keeps fun b o z _ => ⟨o, F.old.le _ _ z, rfl⟩⟩
    obtain ⟨o, es, ep, z1, z2, _⟩ := F.ns
    exact ⟨L, o, hf, noHeap_get L, z1, fun vs y => by rw [z2] at y; cases y⟩
  refine wpAny_execs_cons (wpAny_Try_except (wpAny_execs_cons (wpAny_Return_some ?_)))
  refine callM (pl := do return (← importBound (.Name "judge" _) env).getD true) P.B EF F rfl rfl (hI.le F.keep) (pg_Judge_rule_sides _) (fi_Judge_rule_sides _) (fm_Judge_rule_sides _) (kp_Judge_rule_sides _) (by rfl) ?_
  refine spl (ldL EF F rfl rfl (spl (ldL EF F rfl rfl (spl (ldL EF F rfl rfl (spl0 ⟨F.H, ?_⟩))))))
  refine wpAny_call (rsides_bad amd (F.pre P.B) J hs hp hz hbad hfr' hl' fun n e dx d' h₂ t₂ wv z => ?_)
  have inF : ∀ {b}, b ∈ (env :: outer).filterMap (·.frame) ↔ b = L ∨ b ∈ outer.filterMap (·.frame) := by
    intro b; rw [List.filterMap_cons, hf]; exact List.mem_cons
  have fr2 : h₂.FunFrames noHeap (env :: outer) := hl'.of_keeps fun b o y _ => by
    by_cases m : b ∈ (env :: outer).filterMap (·.frame)
    · obtain ⟨sl, y1⟩ := z.so.2 b o m y; exact ⟨_, y1, rfl⟩
    · exact ⟨o, z.so.1 b o m y, rfl⟩
  show wpAny (model PR w) (A.deeper env) (noteFrame (.ref e) env) _ _ (upd { s with drawn := d' } h₂ t₂)
  refine note_next (n := n) z.he hfr' fr2 hf z.trc fun h₃ x₃ t₃ => ?_
  refine flight_v t₃ (frames_mem (x₃.frames frames_in fr2)) fun h₄ x₄ t₄ => ?_
  have x24 := x₃.trans x₄
  have lt_n : ∀ {b o}, h₁.get? b = some o → b < n := fun y => Nat.lt_of_lt_of_le (Heap.lt_size y) z.hn
  have so4 : SlO ((env :: outer).filterMap (·.frame)) h₁ h₄ := by
    refine ⟨fun b o m y => x24.out b o m (Nat.ne_of_lt (Nat.lt_of_lt_of_le (lt_n y) z.he)) (.inl (lt_n y)) (z.so.1 b o m y), fun b o m y => ?_⟩
    obtain ⟨s1, y1⟩ := z.so.2 b o m y
    obtain ⟨s2, y2⟩ := x24.fr b _ m y1
    exact ⟨s2, y2⟩
  have k4 : Le H0 h₄ := fun b o y => so4.1 b o (fun m => (inF.mp m).elim (fun m => absurd (Heap.lt_size y) (Nat.not_lt.mpr (m ▸ F.k0L))) fun m => by rw [hO b m] at y; cases y) (F.H _ _ y)
  obtain ⟨hC, l1, l2, l3, l4, l5, l6, l7, l8, l9⟩ := exc_looks (P.B.K.keeps k4)
  obtain ⟨oe, ovs, T, oT, ts, e1, e2, e3, e4, _⟩ := id t₄
  refine wpAny_handleBy_cons (codeAny_handlers_test ?_) (by intro q; cases q)
  refine Name_function_global EF.kind ((EF.kindOf _).trans rfl) (loadGlobal_global (by rw [EF.glob]; exact P.B.T.g.keeps k4) (mg_of P.B.K P.B.T.g (G_PaperFault _)) ?_) (by decide)
  refine wpAny_excMatches_sub_self hC e1 e2 bm_fault.base ?_
  rw [if_pos rfl]
  refine codeAny_handlers_suite_as ?_
  refine flight_v t₄ (frames_mem (x24.frames frames_in fr2)) fun h₅ x₅ t₅ => ?_
  have x25 := x24.trans x₅
  have so5 : SlO ((env :: outer).filterMap (·.frame)) h₁ h₅ := by
    refine ⟨fun b o m y => x25.out b o m (Nat.ne_of_lt (Nat.lt_of_lt_of_le (lt_n y) z.he)) (.inl (lt_n y)) (z.so.1 b o m y), fun b o m y => ?_⟩
    obtain ⟨s1, y1⟩ := z.so.2 b o m y
    obtain ⟨s2, y2⟩ := x25.fr b _ m y1
    exact ⟨s2, y2⟩
  have hLn : L < n := let ⟨o, y⟩ := F.liveL; lt_n y
  have hLe : L ≠ e := Nat.ne_of_lt (Nat.lt_of_lt_of_le hLn z.he)
  have hLd : L ≠ dx := Nat.ne_of_lt (Nat.lt_of_lt_of_le hLn z.hdx)
  obtain ⟨m0, ns5⟩ : ∃ m0, h₅.Ns L m0 := by
    obtain ⟨o, es, ep, y1, y2, y3⟩ := F.ns
    obtain ⟨sl, y4⟩ := so5.2 L o (inF.mpr (.inl rfl)) y1
    exact ⟨_, _, es, ep, y4, y2, y3⟩
  have nsd : h₅.Ns1 dx (mFault wv pv) := by
    refine z.ns.at fun o y => ?_
    obtain ⟨o', es, ep, y1, y2, _⟩ := z.ns
    rw [y] at y1; cases y1
    refine x25.out dx o (fun m => ?_) z.ne (.inr fun vs m => by rw [y2] at m; cases m) y
    obtain ⟨o2, m1, _⟩ := frames_mem hl' dx m
    exact absurd (lt_n m1) (Nat.not_lt.mpr z.hdx)
  refine wpAny_storeName_local ((EF.kindOf _).trans rfl) (by rw [EF.loc]; exact ns5) (fun h₆ hn₆ hs₆ => ?_) (by rw [EF.kind]; rfl)
  rw [EF.loc] at hn₆ hs₆
  obtain ⟨oe5, ovs5, T5, oT5, ts5, f1, f2, f3, f4, _⟩ := id t₅
  have k6 : ∀ b o, b ≠ L → h₅.get? b = some o → h₆.get? b = some o := fun b o m y => (hs₆.2 b m).trans y
  have I6 : h₆.Inst e 100 (mFault wv pv) := ⟨oe5, k6 _ _ (Ne.symm hLe) f1, f2, (fun c y => by rw [f4] at y; cases y), .inr ⟨dx, f3, z.ne, nsd.at fun o y => k6 _ _ (Ne.symm hLd) y⟩⟩
  have kH6 : Le H0 h₆ := fun b o y => k6 b o (fun m => absurd (Heap.lt_size y) (Nat.not_lt.mpr (m ▸ F.k0L))) (so5.1 b o (fun m => (inF.mp m).elim (fun m => absurd (Heap.lt_size y) (Nat.not_lt.mpr (m ▸ F.k0L))) fun m => by rw [hO b m] at y; cases y) (F.H _ _ y))
  obtain ⟨hC6, m1, m2, m3, m4, m5, m6, m7, m8, m9⟩ := exc_looks (P.B.K.keeps kH6)
  have ga := PySem.F.attr_Exception.ga
  refine wpAny_execs_cons (wpAny_Return_some (eTup (spl (eStr fun k1 t5 => spl (Attribute_name (wpAny_Name (wpAny_loadName_local EF.kind ((EF.kindOf _).trans rfl) (by rw [EF.loc]; exact hn₆) (by rfl) ?_) (by decide)))))))
  refine exc_get (D := 47) hC6 m4 m5 m3 I6 (by rfl) (handedOut_of hpv) (ga.bind _) ga.plain ?_
  refine spl0 (wpAny_newObj_type ?_ (by size_fits))
  refine wpAny_nameGoes ((EF.kindOf _).trans rfl) (by rw [EF.loc]; exact ns_le hn₆ (Le.push _ _)) (by rw [EF.kind]; rfl) fun h₇ m' hn₇ hs₇ => ?_
  rw [EF.loc] at hs₇
  have hL6 : L < h₆.objs.size := hn₆.lt
  refine q h₆.objs.size d' h₇ _ k1 ⟨fun b o m y => ?_, fun b o m y => ?_⟩ ?_ ?_
  · have bL : b ≠ L := fun u => absurd (Heap.lt_size y) (Nat.not_lt.mpr (by rw [u, ← hL]; exact Nat.le_refl _))
    exact (hs₇.2 b bL).trans (Heap.get?_push_of_some _ (k6 b o bL (so5.1 b o (fun u => (inF.mp u).elim bL m) (F.old.le _ _ y))))
  · have bL : b ≠ L := fun u => absurd (Heap.lt_size y) (Nat.not_lt.mpr (by rw [u, ← hL]; exact Nat.le_refl _))
    obtain ⟨sl, y1⟩ := so5.2 b o (inF.mpr (.inr m)) (F.old.le _ _ y)
    exact ⟨sl, (hs₇.2 b bL).trans (Heap.get?_push_of_some _ (k6 b _ bL y1))⟩
  · omega
  · exact (hs₇.2 _ (Nat.ne_of_gt hL6)).trans (Heap.get?_push_size _ rfl)
end
end Rg
end
section
/-! facts of the law -/
open PySem PySem.W PyProof.Rows PySem.Calls PySem.SeqAt
set_option autoImplicit false
set_option maxRecDepth 100000
namespace Rg
abbrev N_law : List (Str × NameKind) := [("script", .local), ("feed", .cell), ("names", .cell), ("way", .local), ("turn", .local), ("left", .local), ("known", .local), ("right", .local), ("needs", .local), ("others", .local), ("judge", .local), ("name", .local), ("places", .local), ("table", .local), ("some", .local), ("place", .local), ("told", .local),
  ("_law_pick", .globalImplicit), ("tuple", .globalImplicit), ("range", .globalImplicit), ("_law_names", .globalImplicit), ("_law_pattern", .globalImplicit), ("Rule", .globalImplicit), ("Judge", .globalImplicit), ("dict", .globalImplicit), ("_law_bent", .globalImplicit), ("_law_told", .globalImplicit), ("_law_is_read", .globalImplicit)]
theorem D_law (P : Params) : DefF P 287 N_law := ⟨by kernel_rfl, by kernel_rfl, by kernel_rfl, by kernel_rfl, by kernel_rfl, by kernel_rfl, by kernel_rfl, by kernel_rfl, by kernel_rfl, by kernel_rfl⟩
theorem A_law (P : Params) (v0 : Value) : bindArgs (fdAt P 287) ⟨[v0], []⟩ = pure ([("script", v0)] : List (Str × Value)) := by kernel_rfl
theorem G_law (P : Params) : nsIn (Mine.hd.heap_39 P) mainGlobals "law" = some (some (.ref 287)) := by kernel_rfl
abbrev lawTms : List Tm := [.node "a" [], .node "b" [], .node "f" [.node "b" []], .node "g" [.node "a" [], .node "c" []]]
abbrev lawVs : List Value := [.ref 239, .ref 240, .ref 242, .ref 245]
theorem o239 (P : Params) : (Mine.hd.heap_39 P).lookup 239 = some { cls := .type "tuple", data := .seq #[.str "a" 482] 0 } := by kernel_rfl
theorem o240 (P : Params) : (Mine.hd.heap_39 P).lookup 240 = some { cls := .type "tuple", data := .seq #[.str "b" 483] 0 } := by kernel_rfl
theorem o241 (P : Params) : (Mine.hd.heap_39 P).lookup 241 = some { cls := .type "tuple", data := .seq #[.str "b" 485] 0 } := by kernel_rfl
theorem o242 (P : Params) : (Mine.hd.heap_39 P).lookup 242 = some { cls := .type "tuple", data := .seq #[.str "f" 484, .ref 241] 0 } := by kernel_rfl
theorem o243 (P : Params) : (Mine.hd.heap_39 P).lookup 243 = some { cls := .type "tuple", data := .seq #[.str "a" 487] 0 } := by kernel_rfl
theorem o244 (P : Params) : (Mine.hd.heap_39 P).lookup 244 = some { cls := .type "tuple", data := .seq #[.str "c" 488] 0 } := by kernel_rfl
theorem o245 (P : Params) : (Mine.hd.heap_39 P).lookup 245 = some { cls := .type "tuple", data := .seq #[.str "g" 486, .ref 243, .ref 244] 0 } := by kernel_rfl
theorem o246 (P : Params) : (Mine.hd.heap_39 P).lookup 246 = some { cls := .type "tuple", data := .seq #[.ref 239, .ref 240, .ref 242, .ref 245] 0 } := by kernel_rfl
theorem tup_of {h : Heap} {a : Addr} {vs : Array Value} (e : h.get? a = some { cls := .type "tuple", data := .seq vs 0 }) : IsTup h a vs := ⟨_, e, rfl, 0, rfl⟩
theorem law_terms {w : World} {h : Heap} (X : (KF w).In h) : IsTup h 246 lawVs.toArray ∧ KidsOk h lawVs lawTms := by
  have a239 := tup_of (X _ _ (o239 _))
  have a240 := tup_of (X _ _ (o240 _))
  have a241 := tup_of (X _ _ (o241 _))
  have a242 := tup_of (X _ _ (o242 _))
  have a243 := tup_of (X _ _ (o243 _))
  have a244 := tup_of (X _ _ (o244 _))
  have a245 := tup_of (X _ _ (o245 _))
  have leaf : ∀ {a : Addr} {op : Str} {tk : Tok}, IsTup h a #[.str op tk] → IsTm h (.ref a) (.node op []) := fun z => (KidsOk.nil h).tm (vs := []) z
  have t239 := leaf a239
  have t240 := leaf a240
  have t242 : IsTm h (.ref 242) (.node "f" [.node "b" []]) := ((KidsOk.nil h).snoc (leaf a241)).tm a242
  have t245 : IsTm h (.ref 245) (.node "g" [.node "a" [], .node "c" []]) := (((KidsOk.nil h).snoc (leaf a243)).snoc (leaf a244)).tm a245
  exact ⟨tup_of (X _ _ (o246 _)), ((((KidsOk.nil h).snoc t239).snoc t240).snoc t242).snoc t245⟩
theorem lawTms_gr : ∀ t ∈ lawTms, Gr 3 t ∧ t.Dp 3 := by
  have k : ∀ (op : Str), op ∈ (["a", "b", "c", "f", "g"] : List Str) → 1 ≤ op.length ∧ op.length ≤ 1000 ∧ isQ op = false := by decide +kernel
  have leafD : ∀ (op : Str) (n : Nat), op ∈ (["a", "b", "c", "f", "g"] : List Str) → (Tm.node op []).Dp (n + 1) := fun op n m => ⟨by simp, (k op m).1, (k op m).2.1, by simp⟩
  have ma : ("a" : Str) ∈ (["a", "b", "c", "f", "g"] : List Str) := by simp
  have mb : ("b" : Str) ∈ (["a", "b", "c", "f", "g"] : List Str) := by simp
  have mc : ("c" : Str) ∈ (["a", "b", "c", "f", "g"] : List Str) := by simp
  have mf : ("f" : Str) ∈ (["a", "b", "c", "f", "g"] : List Str) := by simp
  have mg : ("g" : Str) ∈ (["a", "b", "c", "f", "g"] : List Str) := by simp
  have dp : ∀ t ∈ lawTms, t.Dp 3 := by
    intro t ht
    simp only [lawTms, List.mem_cons, List.not_mem_nil, or_false] at ht
    rcases ht with rfl | rfl | rfl | rfl
    · exact leafD _ _ ma
    · exact leafD _ _ mb
    · exact ⟨by simp, (k _ mf).1, (k _ mf).2.1, fun z hz => by rw [List.mem_singleton.mp hz]; exact leafD _ _ mb⟩
    · refine ⟨by simp, (k _ mg).1, (k _ mg).2.1, fun z hz => ?_⟩
      rcases List.mem_cons.mp hz with rfl | hz
      · exact leafD _ _ ma
      · rw [List.mem_singleton.mp hz]; exact leafD _ _ mc
  intro t ht
  refine ⟨⟨dp t ht, ?_⟩, dp t ht⟩
  simp only [lawTms, List.mem_cons, List.not_mem_nil, or_false] at ht
  rcases ht with rfl | rfl | rfl | rfl <;> intro p hp <;> simp only [Tm.parts, partsL, List.mem_cons, List.append_nil, List.not_mem_nil, or_false, List.mem_append, List.nil_append, List.cons_append] at hp
  · rw [hp]; exact (k _ ma).2.2
  · rw [hp]; exact (k _ mb).2.2
  · rcases hp with rfl | rfl
    · exact (k _ mf).2.2
    · exact (k _ mb).2.2
  · rcases hp with rfl | rfl | rfl
    · exact (k _ mg).2.2
    · exact (k _ ma).2.2
    · exact (k _ mc).2.2
section
variable {c : Cx} {L : Addr} {cl : List (Str × Addr)} {m cm : Str → Option Value} {vol : Vol} {g h h' : Heap}
/-- the slots of the frame's own object new -/
theorem Frm.slots (F : Frm c L cl m cm vol g h) (k : SlO [L] h h') : Frm c L cl m cm vol g h' := by
  have kX : LeX [L] h h' := fun b o n e => k.1 b o n e
  obtain ⟨o, es, ep, e1, e2, e3⟩ := F.ns
  obtain ⟨sl, e4⟩ := k.2 L o (by simp) e1
  exact F.setL ⟨_, es, ep, e4, e2, e3⟩ kX
end
end Rg
end
section
/-! dict displays -/
open PySem PySem.W PyProof.Rows PySem.Calls PySem.SeqAt
set_option autoImplicit false
set_option maxRecDepth 100000
namespace Rg
def DictEnd (w : World) (d : Addr) (Q : Value → Shared → Prop) (vs : List (Value × Value)) (s : Shared) : Prop :=
  ∃ kvs, Carries (strKind PR w) vs kvs ∧ s.heap.DictOf (strKind PR w) d [] ∧ ∀ h', h'.DictOf (strKind PR w) d (merged [] kvs) → Heap.SameBut d s.heap h' → Q (.ref d) { s with heap := h', toks := s.toks + vs.length }
section
variable {w : World} {mg mb : Str → Option Value} {A : Around} {E : Value → Shared → Prop} {s : Shared} {h g : Heap} {t : Nat} {vol : Vol} {names : List (Str × NameKind)} {env : Env}
  {c : Cx} {L : Addr} {cl : List (Str × Addr)} {m cm : Str → Option Value} {Q : Value → Shared → Prop}
theorem eDict {keys : List (Option Expr)} {values : List Expr} {pos : Pos} (F : Frm c L cl m cm vol g h)
    (q : ∀ d h₁, h.objs.size ≤ d → Frm c L cl m cm ((d, pD w []) :: vol) g h₁ → wpAny (model PR w) A (evalPairs (pairTrees keys values env pos)) (DictEnd w d Q) E (upd s h₁ t))
    (hall : keys.all (·.isSome) = true := by rfl) (hl : keys.length = values.length := by rfl) (h0 : keys ≠ [] := by simp) (hlen : keys.length ≤ 15 := by decide) :
    wpAny (model PR w) A (eval (.Dict keys values pos) env) Q E (upd s h t) := by
  refine wpAny_Dict_walk (knd := strKind PR w) hall hl h0 hlen ?_
  have F1 := F.vpush (a := h.objs.size) (p := pD w []) (Le.push h { cls := .type "dict", data := .dict #[] }) (At.of_dict (Heap.DictOf.new _)) (Nat.le_refl _)
  exact wpAny_mono (q h.objs.size _ (Nat.le_refl _) F1) (fun vs s₁ z => z) fun _ _ z => z
theorem dEnd {s₂ : Shared} {h₂ : Heap} {t₂ : Nat} {d : Addr} {vs : List (Value × Value)} {kvs : List (Str × Value)} {pre post : Vol} (F : Frm c L cl m cm (pre ++ (d, pD w []) :: post) g h₂) (hc : Carries (strKind PR w) vs kvs)
    (q : ∀ h' t', Frm c L cl m cm (pre ++ (d, pD w (merged [] kvs)) :: post) g h' → Q (.ref d) (upd s₂ h' t')) : DictEnd w d Q vs (upd s₂ h₂ t₂) :=
  ⟨kvs, hc, At.dict (F.volat (d, pD w []) (by simp)).1, fun h' hd hs => q h' _ (F.vset (le_of_sameBut hs) (At.of_dict hd))⟩
theorem pairS {k : Str} {kk : Nat} {p0 pos : Pos} {v : Expr} {ks : List (Option Expr)} {vs : List Expr} {Q : List (Value × Value) → Shared → Prop}
    (q : ∀ tk t', wpAny (model PR w) A (eval v env) (fun x s₁ => wpAny (model PR w) A (evalPairs (pairTrees ks vs env pos)) (fun r s₂ => Q ((.str k tk, x) :: r) s₂) E s₁) E (upd s h t')) :
    wpAny (model PR w) A (evalPairs (pairTrees (some (.Constant (.str k) kk p0) :: ks) (v :: vs) env pos)) Q E (upd s h t) := by
  refine evalPairs_cons (eStr fun tk t' => ?_)
  refine wpAny_bind (wpAny_mono (q tk t') (fun x s₁ z => wpAny_bind (wpAny_standAt (wpAny_pure z))) fun _ _ z => z)
theorem pairN {pos : Pos} {Q : List (Value × Value) → Shared → Prop} {s : Shared} (q : Q [] s) : wpAny (model PR w) A (evalPairs (pairTrees [] [] env pos)) Q E s := evalPairs_nil q
end
end Rg
end
section
/-! plain facts for the turn of the law -/
open PySem PySem.W PyProof.Rows PySem.Calls PySem.SeqAt
set_option autoImplicit false
set_option maxRecDepth 100000
namespace Rg
theorem pl_dp {σ : Str → Tm} (hσ : ∀ x, (σ x).Dp 3) : ∀ {n : Nat} {t : Tm}, t.Dp n → (t.pl σ).Dp (n + 3)
  | 0, _, h => h.elim
  | n + 1, .node op ks, ⟨a, b, c, d⟩ => by
    rw [Tm.pl]
    split
    · exact (hσ op).mono (by omega)
    · rw [plL_eq, show n + 1 + 3 = (n + 3) + 1 by omega]
      refine ⟨by simpa using a, b, c, fun k hk => ?_⟩
      obtain ⟨k', hk', rfl⟩ := List.mem_map.mp hk
      exact pl_dp hσ (d k' hk')
theorem sigma {h : Heap} {ps : List (Str × Value)} (hn : (ps.map (·.1)).Nodup) (hp : ∀ p ∈ ps, ∃ tm ∈ lawTms, IsTm h p.2 tm) :
    ∃ σ : Str → Tm, (∀ y ∈ ps.map (·.1), ∃ u, valueAt ps y = some u ∧ IsTm h u (σ y)) ∧ ∀ x, σ x ∈ lawTms := by
  have : ∀ y : Str, ∃ tm ∈ lawTms, y ∈ ps.map (·.1) → ∃ u, valueAt ps y = some u ∧ IsTm h u tm := by
    intro y
    by_cases hy : y ∈ ps.map (·.1)
    · obtain ⟨p, hp1, rfl⟩ := List.mem_map.mp hy
      obtain ⟨tm, ht, hi⟩ := hp p hp1
      obtain ⟨i, hi', e⟩ := List.getElem_of_mem hp1
      exact ⟨tm, ht, fun _ => ⟨p.2, valueAt_of_get hn (i := i) (by rw [List.getElem?_eq_getElem hi', e]), hi⟩⟩
    · exact ⟨_, List.mem_cons_self, fun q => absurd q hy⟩
  exact ⟨fun y => (this y).choose, fun y hy => (this y).choose_spec.2 hy, fun y => (this y).choose_spec.1⟩
theorem IsTm.tup {h : Heap} {v : Value} {tm : Tm} (x : IsTm h v tm) : ∃ a items, v = .ref a ∧ IsTup h a items := by
  cases tm with
  | node op ks =>
  obtain ⟨a, tk, vs, e, ht, _⟩ := x.inv
  exact ⟨a, _, e, ht⟩
section
variable {w : World} {A : Around} {E : Value → Shared → Prop} {s : Shared} {h g : Heap} {t : Nat} {Q : Value → Shared → Prop}
/-- two pairs of a text and the same value, alike -/
theorem cNeR {x : Str} {t1 t2 : Tok} {a b : Addr} {pv : Value} (hu : A.units < cLine) (ha : IsTup h a #[.str x t1, pv]) (hb : IsTup h b #[.str x t2, pv])
    (q : Q (.bool false) (upd s h t)) : wpAny (model PR w) A (compareOp .NotEq (.ref a) (.ref b)) Q E (upd s h t) := by
  have := RcNeAt.tuples (A := A) (s := upd s h t) (e := fun _ => true) ha hb hu (fun j h1 h2 => ?_)
  · have hz : ((#[.str x t1, pv] : Array Value).size == (#[.str x t2, pv] : Array Value).size) = true := rfl
    rw [all_tt, hz] at this
    exact this PR w E Q q
  · match j, h1, h2 with
    | 0, _, _ =>
      have := EqAt.str_str (A := A.in1) (s := upd s h t) x t1 x t2
      rw [beq_self_eq_true] at this
      exact this
    | 1, _, _ => exact EqAt.same pv
    | j + 2, h1, _ => exact absurd h1 (by simp)
theorem cEqTS {v : Value} {tm : Tm} {x : Str} {u : Tok} (hu : A.units < cLine) (hv : IsTm h v tm) (q : Q (.bool false) (upd s h t)) :
    wpAny (model PR w) A (compareOp .Eq v (.str x u)) Q E (upd s h t) := by
  obtain ⟨a, items, rfl, ha⟩ := hv.tup
  exact RcAt.tuple_str (A := A) (s := upd s h t) x u ha hu PR w E Q q
end
section
variable {c : Cx} {L : Addr} {cl : List (Str × Addr)} {m cm : Str → Option Value} {vol : Vol} {g h : Heap} {env : Env} {names : List (Str × NameKind)}
theorem Frm.fun1 (F : Frm c L cl m cm vol g h) (EF : EnvF env names cl L) (hf : env.frame = some L) : h.FunFrames noHeap [env] := by
  refine ⟨by rw [EF.kind]; decide, ?_, trivial⟩
  obtain ⟨o, es, ep, z1, z2, _⟩ := F.ns
  exact ⟨L, o, hf, noHeap_get L, z1, fun vs y => by rw [z2] at y; cases y⟩
end
/-- what stands of the law at its loop -/
structure LawOk (w : World) (H0 g : Heap) (row kn x rx : Addr) (lv rv : Value) (lt rt : Tm) : Prop where
  row : RowOk g row
  jud : JudgeAt w H0 g x rx lv rv lt rt
  kno : ∃ vs, g.IsList kn vs.toArray ∧ StrsAre vs (can lt.vs)
theorem LawOk.le {w : World} {H0 g g' : Heap} {row kn x rx : Addr} {lv rv : Value} {lt rt : Tm} (o : LawOk w H0 g row kn x rx lv rv lt rt) (k : Le g g') : LawOk w H0 g' row kn x rx lv rv lt rt :=
  ⟨o.row.le k, o.jud.le k, let ⟨vs, a, b⟩ := o.kno; ⟨vs, isList_le a k, b⟩⟩
noncomputable def loopOf : Option Stmt → List Stmt
  | some (.For _ _ b _ _) => b
  | _ => []
noncomputable def lawLoop (P : Params) : List Stmt := loopOf (bodyAt P 287)[8]?
end Rg
end
section
/-! one turn of the law's loop -/
open PySem PySem.W PyProof.Rows PySem.Calls PySem.SeqAt
set_option autoImplicit false
set_option maxRecDepth 100000
namespace Rg
theorem seqIdx {n k : Nat} (h : n < k) : seqIndex? (n : Int) k = some n := by
  unfold seqIndex?
  rw [if_neg (show ¬ ((n : Int) < 0) by omega)]
  have : (decide ((0 : Int) ≤ n) && decide ((n : Int) < k)) = true := by simp; omega
  simp only [this, if_true, Int.toNat_natCast]
section
variable {w : World} {mg mb : Str → Option Value} {A : Around} {E : Value → Shared → Prop} {s : Shared} {h g : Heap} {t : Nat} {VV : Vol} {env : Env}
  {H0 hc gc : Heap} {XX : List Addr} {L : Addr} {m cm : Str → Option Value} {fd row kn x rx : Addr} {lv rv : Value} {lt rt : Tm}
theorem turn_spec {idx : Int} {Q : Flow → Shared → Prop} (am : Amb A 11 70) (B : Bs w mg mb H0) (EF : EnvF env N_law (cellsFrom (L + 1) N_law []) L) (hfr : A.frames = some [env]) (hf : env.frame = some L)
    (F : Frm ⟨H0, hc, gc, XX⟩ L (cellsFrom (L + 1) N_law []) m cm ((fd, pF w row idx) :: VV) g h) (h0 : 0 ≤ idx) (h1 : idx ≤ 8000)
    (O : LawOk w H0 g row kn x rx lv rv lt rt) (m1 : m "left" = some lv) (m2 : m "right" = some rv) (m3 : m "known" = some (.ref kn)) (m4 : m "judge" = some (.ref x)) (c1 : cm "feed" = some (.ref fd))
    (q : ∀ d h' t' m' g' idx', Frm ⟨H0, hc, gc, XX⟩ L (cellsFrom (L + 1) N_law []) m' cm ((fd, pF w row idx') :: VV) g' h' → Le g g' → 0 ≤ idx' → idx' ≤ idx + 10 →
      m' "left" = some lv → m' "right" = some rv → m' "known" = some (.ref kn) → m' "judge" = some (.ref x) → Q .next (upd { s with drawn := d } h' t')) :
    wpAny (model PR w) A (execs (lawLoop w.params) env) Q E (upd s h t) := by
  obtain ⟨kvs, hkn, hks⟩ := O.kno
  have hkl : kvs.length = (can lt.vs).length := strsAre_len hks
  have hk3 : (can lt.vs).length ≤ 3 := can_len lt.vs
  refine wpAny_execs_cons (lc_openA EF rfl (ldL EF F rfl m3 (itList F hkn fun I h₂ hI F2 => ?_)))
  refine lc_closeAN (n := kvs.toArray.size) (V := V1 I (pLI kn)) (vx := [(fd, pF w row idx)]) (vr := VV) EF rfl F2 (ItR.list am.handled hI hkn) (by rw [List.size_toArray]; omega)
    (fun i ys g' vx' => ∃ idx' ps, vx' = [(fd, pF w row idx')] ∧ idx ≤ idx' ∧ idx' ≤ idx + i ∧ PairsAt g' ys ps ∧ ps.map (·.1) = (can lt.vs).take i ∧ ∀ p ∈ ps, ∃ tm ∈ lawTms, IsTm g' p.2 tm) ?_ ?_ ?_ ?_
  · exact ⟨idx, [], rfl, by omega, by omega, ⟨rfl, fun i v p a b => by simp at a⟩, rfl, by simp⟩
  · rintro _ _ _ _ ⟨_, _, rfl, _⟩; rfl
  · rintro C D cenv i ys g' vx' mC h' t' v hi' ⟨idx', ps, rfl, j0, j1, hps, hpk, hpt⟩ EC kg FC hx
    rw [List.size_toArray] at hi'
    have hx' : kvs[i]? = some v := by simpa using hx
    obtain ⟨y, tk, rfl, hy⟩ := StrsAre.item hks i v hx'
    refine asgN EC FC rfl fun h₇ t₇ F7 => tests0 ?_
    rw [if_pos rfl]
    refine eTup (spl (ldL EC F7 rfl rfl (spl (Subscript_ (ldG B EC F7 rfl (G_law_terms _) ?_)))))
    refine callDef B EC F7 rfl (G_law_pick _) (D_pick _) (spl (ldC EC F7 rfl rfl c1 (spl (eInt fun k1 t8 => spl0 ⟨F7.H, ?_⟩))))
    refine pick_spec (am.mono (by omega) (by omega)) (F7.pre B) (F7.vat (fd, pF w row idx') (by simp [V1])) (F7.volat (fd, pF w row idx') (by simp [V1])).2.1 ((O.row.le kg)) (by omega) (by omega) (by decide) (by decide) fun r tkr h₈ t₈ r0 r1 k hf8 => ?_
    have F8 := F7.called1s (pre := (D, pM ys) :: (V1 I (pLI kn)) (i + 1)) (post := []) k hf8
    obtain ⟨n, rfl⟩ : ∃ n : Nat, r = (n : Int) := ⟨r.toNat, by omega⟩
    have hn : n < 4 := by omega
    have LT := law_terms (B.K.keeps F8.H)
    refine tGet LT.1 (by omega) (by omega) (j := n) (seqIdx hn) (x := lawVs[n]) (by simp [hn]) ?_
    refine spl0 (mkTup F8 (by simp) fun a g₉ h₉ k9 ha F9 => ?_)
    have LT9 := law_terms (B.K.keeps F9.k0)
    refine ⟨h₉, _, g₉, [(fd, pF w row (idx' + 1))], _, rfl, F9, idx' + 1, ps ++ [(y, lawVs[n])], rfl, by omega, by omega, (hps.le k9).app (.one ha), ?_, ?_⟩
    · rw [List.map_append, hpk, List.take_succ, hy]; rfl
    · intro p hp
      rcases List.mem_append.mp hp with hp | hp
      · obtain ⟨tm, a1, a2⟩ := hpt p hp
        exact ⟨tm, a1, a2.le k9⟩
      · rw [List.mem_singleton.mp hp]
        exact ⟨lawTms[n], List.getElem_mem _, LT9.2.2 n _ _ (List.getElem?_eq_getElem _) (List.getElem?_eq_getElem _)⟩
  · rintro D ys g' gg vx' hh tt F3 kk1 kk2 hD ⟨idx', ps, rfl, j0, j1, hps, hpk, hpt⟩
    rw [List.size_toArray] at hpk j1
    rw [hkl, List.take_length] at hpk
    have hnd : (ps.map (·.1)).Nodup := hpk ▸ can_nodup _
    have hpl : ps.length ≤ 3 := by have := congrArg List.length hpk; rw [List.length_map] at this; omega
    have hlen := hps.1
    have hNo : NoD gg D ys := by obtain ⟨o, e, n, rfl⟩ := hD; exact ⟨"list", n, #[], .inl rfl, e⟩
    have e1 : Le g gg := kk1.trans kk2
    refine wpAny_execs_cons (Assign_Tuple_swapped (names := ["table", "some"]) ?_ (by rfl) (by rw [EF.rep]; rfl))
    refine eTup (spl (callTy B EF F3 rfl (G0_dict _) (by boot_by_name) (spl (ldL EF F3 rfl rfl (spl0 ?_)))))
    refine mkDict am.handled F3 (hNo.le F3.keep) (hps.le (kk2.trans F3.keep)) hnd (by omega) fun d g4 h4 t4 k4 hd hD4 F4 => ?_
    refine spl (callTy B EF F4 rfl (G0_tuple _) (by boot_by_name) (spl ?_))
    refine callDef B EF F4 rfl (G_law_bent _) (D_bent _) (spl (ldC EF F4 rfl rfl c1 (spl (ldL EF F4 rfl rfl (spl0 ⟨F4.H, ?_⟩)))))
    refine bent_spec (am.mono (by omega) (by omega)) (F4.pre B) (F4.vat _ (.head _)) (F4.volat _ (.head _)).2.1 (O.row.le (e1.trans k4)) (by omega) (by omega) (isList_le (pM.at hD) k4) (hps.le (kk2.trans k4)) hpk fun D5 ws zs i5 g5 h5 t5 i0 i1 G5 k5 kX5 hf5 hD5 hzs hz4 hbent => ?_
    have F5 := F4.called1 (pre := []) kX5 hf5 G5 k5
    refine spl0 (tupLN F5 (isList_le hD5 F5.keep) (by have := hzs.1; omega) fun sa g6 h6 k6 hsa hsn F6 => spl0 (mkTup F6 (by simp) fun T g7 h7 k7 hT F7 => ?_))
    refine asgSw2_end am.handled EF F7 rfl rfl (isTup_le hT F7.keep) fun h8 t8 F8 => ?_
    obtain ⟨M8, F8, n1, n2, n3, n4, n5, n6⟩ : ∃ M, Frm ⟨H0, hc, gc, XX⟩ L (cellsFrom (L + 1) N_law []) M cm ((fd, pF w row i5) :: VV) g7 h8 ∧ M "left" = some lv ∧ M "right" = some rv ∧ M "known" = some (.ref kn) ∧ M "judge" = some (.ref x) ∧ M "some" = some (.ref sa) ∧ M "table" = some (.ref d) :=
      ⟨_, F8, m1, m2, m3, m4, rfl, rfl⟩
    refine wpAny_execs_cons (Assign_Tuple_swapped (names := ["name", "place"]) ?_ (by rfl) (by rw [EF.rep]; rfl))
    refine eTup (spl (cut (R := fun v s' => ∃ (nm : Str) (tk : Tok) (h' : Heap) (t' : Nat), v = .str nm tk ∧ (nm = "nobody" ∨ nm = "r") ∧ s' = upd s h' t' ∧ Frm ⟨H0, hc, gc, XX⟩ L (cellsFrom (L + 1) N_law []) M8 cm ((fd, pF w row (i5 + 1)) :: VV) g7 h') ?_ ?_))
    · refine wpAny_IfExp (wpAny_isTrue_Compare1 (callDef B EF F8 rfl (G_law_pick _) (D_pick _) (spl (ldC EF F8 rfl rfl c1 (spl (eInt fun k1 t => spl0 ⟨F8.H, ?_⟩))))))
      refine pick_spec (am.mono (by omega) (by omega)) (F8.pre B) (F8.vat _ (.head _)) (F8.volat _ (.head _)).2.1 (O.row.le (e1.trans (k4.trans (G5.le.trans (k6.trans k7))))) (by omega) (by omega) (by decide) (by decide) fun r tkr h9 t9 r0 r1 k hf9 => ?_
      have F9 := F8.called1s (pre := []) k hf9
      refine eInt fun k2 t10 => cEq (tru ?_)
      split
      · exact eStr fun k t => ⟨_, _, h9, _, rfl, .inl rfl, rfl, F9⟩
      · exact eStr fun k t => ⟨_, _, h9, _, rfl, .inr rfl, rfl, F9⟩
    rintro v s' ⟨nm, tkn, h9, t9, rfl, hnm, rfl, F9⟩
    have e7 : Le g g7 := e1.trans (k4.trans (G5.le.trans (k6.trans k7)))
    refine spl (Subscript_ (eTup (spl (callDef B EF F9 rfl (G_law_pick _) (D_pick _) (spl (ldC EF F9 rfl rfl c1 (spl (eInt fun k1 t10 => spl0 ⟨F9.H, ?_⟩))))))))
    refine pick_spec (am.mono (by omega) (by omega)) (F9.pre B) (F9.vat _ (.head _)) (F9.volat _ (.head _)).2.1 (O.row.le e7) (by omega) (by omega) (by decide) (by decide) fun ra tka h10 t10 ra0 ra1 k hf10 => ?_
    have F10 := F9.called1s (pre := []) k hf10
    refine spl (eTup (spl (eInt fun k2 t11 => spl (eInt fun k3 t12 => spl0 (mkTup F10 (by simp) fun b g11 h11 k11 hb F11 => ?_)))))
    refine spl0 (mkTup F11 (by simp) fun p2 g12 h12 k12 hp2 F12 => ?_)
    refine callDef B EF F12 rfl (G_law_pick _) (D_pick _) (spl (ldC EF F12 rfl rfl c1 (spl (eInt fun k1 t13 => spl0 ⟨F12.H, ?_⟩))))
    refine pick_spec (am.mono (by omega) (by omega)) (F12.pre B) (F12.vat _ (.head _)) (F12.volat _ (.head _)).2.1 (O.row.le (e7.trans (k11.trans k12))) (by omega) (by omega) (by decide) (by decide) fun rb tkb h13 t13 rb0 rb1 kb hf13 => ?_
    have F13 := F12.called1s (pre := []) kb hf13
    obtain ⟨n, rfl⟩ : ∃ n : Nat, rb = (n : Int) := ⟨rb.toNat, by omega⟩
    have hn2 : n < 2 := by omega
    obtain ⟨pv, hpv, hpx⟩ : ∃ pv, handedIn pv = true ∧ (#[Value.int ra tka, Value.ref b] : Array Value)[n]? = some pv := by
      rcases (show n = 0 ∨ n = 1 by omega) with rfl | rfl
      · exact ⟨_, rfl, rfl⟩
      · exact ⟨_, rfl, rfl⟩
    refine tGet (isTup_le hp2 F13.keep) (by omega) (by omega) (j := n) (seqIdx hn2) (x := pv) (by simpa using hpx) ?_
    refine spl0 (mkTup F13 (by simp) fun T2 g14 h14 k14 hT2 F14 => asgSw2_end am.handled EF F14 rfl rfl (isTup_le hT2 F14.keep) fun h15 t15 F15 => ?_)
    obtain ⟨M15, F16, n1, n2, n3, n4, n5, n6, n7, n8⟩ : ∃ M, Frm ⟨H0, hc, gc, XX⟩ L (cellsFrom (L + 1) N_law []) M cm ((fd, pF w row (i5 + 1 + 1 + 1)) :: VV) g14 h15 ∧ M "left" = some lv ∧ M "right" = some rv ∧ M "known" = some (.ref kn) ∧ M "judge" = some (.ref x) ∧ M "some" = some (.ref sa) ∧ M "table" = some (.ref d) ∧ M "name" = some (.str nm tkn) ∧ M "place" = some pv :=
      ⟨_, F15, n1, n2, n3, n4, n5, n6, rfl, rfl⟩
    have e14 : Le g7 g14 := k11.trans (k12.trans k14)
    have O15 := O.le (e7.trans e14)
    have hsa' : IsTup g14 sa ws.toArray := isTup_le hsa (k7.trans e14)
    have hsn' : NoD g14 sa ws := hsn.le (k7.trans e14)
    have hzs' : PairsAt g14 ws zs := hzs.le (k6.trans (k7.trans e14))
    have hD' : At g14 d (pD w ps) := hD4.le (G5.le.trans (k6.trans (k7.trans e14)))
    have hpt' : ∀ p ∈ ps, ∃ tm ∈ lawTms, IsTm g14 p.2 tm := fun p hp => let ⟨tm, a1, a2⟩ := hpt p hp; ⟨tm, a1, a2.le (kk2.trans (k4.trans (G5.le.trans (k6.trans (k7.trans e14)))))⟩
    have kn' := isList_le hkn (e7.trans e14)
    have eg : Le g g14 := e7.trans e14
    have hO : ∀ b ∈ [env].filterMap (·.frame), H0.get? b = none := fun b hb => by
      rw [show [env].filterMap (·.frame) = [L] by simp [hf]] at hb
      rw [List.mem_singleton.mp hb]; exact none_of_ge F16.k0L
    by_cases hbad : nm = "nobody" ∨ (nm = "r" ∧ zs.map (·.1) ≠ can lt.vs)
    · refine wpAny_execs_cons (wpAny_Assign_Name ?_)
      refine callDef B EF F16 rfl (G_law_told _) (D_told _) (spl (ldL EF F16 rfl n4 (spl (ldL EF F16 rfl n7 (spl (ldL EF F16 rfl n5 (spl (ldL EF F16 rfl n8 (spl0 ⟨F16.H, ?_⟩)))))))))
      refine told_bad (am.mono (by omega) (by omega)) (F16.pre B) O15.jud hsa' hzs' hz4 hpv hbad hfr (F16.fun1 EF hf) hO fun a d' ha ta tk so haz e => ?_
      have Fa := F16.slots (by have := so; rwa [show [env].filterMap (·.frame) = [L] by simp [hf]] at this)
      obtain ⟨gb, kb', eb, Fb⟩ := F16.fresh Fa e haz
      refine stL EF Fb rfl fun hc' tc Fc => ?_
      obtain ⟨Mc, Fc, n1, n2, n3, n4, n5, n6, n7, n8, n9⟩ : ∃ M, Frm ⟨H0, hc, gc, XX⟩ L (cellsFrom (L + 1) N_law []) M cm ((fd, pF w row (i5 + 1 + 1 + 1)) :: VV) gb hc' ∧ M "left" = some lv ∧ M "right" = some rv ∧ M "known" = some (.ref kn) ∧ M "judge" = some (.ref x) ∧ M "some" = some (.ref sa) ∧ M "table" = some (.ref d) ∧ M "name" = some (.str nm tkn) ∧ M "place" = some pv ∧ M "told" = some (.ref a) :=
        ⟨_, Fc, n1, n2, n3, n4, n5, n6, n7, n8, rfl⟩
      refine wpAny_execs_cons (wpAny_If (cut (R := fun b s' => b = true ∧ ∃ g' h' t', s' = upd { s with drawn := d' } h' t' ∧ Le gb g' ∧ Frm ⟨H0, hc, gc, XX⟩ L (cellsFrom (L + 1) N_law []) Mc cm ((fd, pF w row (i5 + 1 + 1 + 1)) :: VV) g' h') ?_ ?_))
      · refine isTrue_or (wpAny_isTrue_Compare1 (ldL EF Fc rfl n7 (eStr fun k t => cEqS (tru ?_))))
        rcases hbad with rfl | ⟨rfl, hne⟩
        · rw [show (("nobody" : Str) == Str.ofString "nobody") = true by decide +kernel, if_pos rfl]
          exact ⟨rfl, gb, _, _, rfl, Le.refl _, Fc⟩
        rw [show (("r" : Str) == Str.ofString "nobody") = false by decide +kernel, if_neg Bool.false_ne_true]
        refine isTrue_or (wpAny_isTrue_Compare1 ?_)
        refine lc_open EF (ldL EF Fc rfl n5 (itTup Fc (isTup_le hsa' kb') fun it h₃ hit F3 => ?_))
        refine lc_close (n := ws.toArray.size) (vx := []) (vr := (fd, pF w row (i5 + 1 + 1 + 1)) :: VV) EF F3 (ItR.tuple am.handled hit (isTup_le hsa' kb')) (by have := hzs.1; rw [List.size_toArray]; omega)
          (fun i ys g' vx' => vx' = [] ∧ StrsAre ys ((zs.take i).map (·.1))) ?_ ?_ ?_ ?_
        · exact ⟨rfl, .nil⟩
        · rintro _ _ _ _ ⟨rfl, _⟩; rfl
        · rintro C D' cenv i ys g₁ vx' mC h' t' v hi' ⟨rfl, hys⟩ EC kg₁ FC hx
          have hi : i < ws.length := by simpa using hi'
          have hzl := hzs.1
          have hip : i < zs.length := by omega
          have hx' : ws[i]? = some v := by simpa using hx
          obtain ⟨pp, ap, tkp, e1, e2, e3⟩ := hzs'.get hx'
          subst e2
          refine asgP2 am.handled FC (isTup_le e3 (kb'.trans (kg₁.trans FC.keep))) fun ha Fa ka => ?_
          refine asgN EC Fa rfl fun hb tb Fb => asgN EC Fb rfl fun hc tc Fc => tests0 ?_
          rw [if_pos rfl]
          refine ldL EC Fc rfl rfl ⟨hc, _, g₁, [], _, rfl, Fc, rfl, ?_⟩
          have hpi : zs[i] = pp := by rw [List.getElem?_eq_getElem hip] at e1; exact Option.some.inj e1
          rw [List.take_succ_eq_append_getElem hip, List.map_append, hpi]
          exact strsAre_app hys (.cons _ _ .nil)
        · rintro D1 ys g₁ gg vx' hh tt Fh kk1 kk2 hl' ⟨rfl, hys⟩
          rw [show ws.toArray.size = zs.length by rw [List.size_toArray]; exact hzs.1, List.take_length] at hys
          refine ldL EF Fh rfl n3 (cNeLS (isList_le hl' Fh.keep) (isList_le kn' (kb'.trans (kk1.trans (kk2.trans Fh.keep)))) hys hks am.hu (tru ?_))
          rw [show (List.map (fun x => x.fst) zs != can lt.vs) = true from bne_iff_ne.mpr hne, if_pos rfl]
          exact ⟨rfl, _, _, _, rfl, kk1.trans kk2, Fh⟩
      · rintro b s' ⟨rfl, g', h', t', rfl, kg, Fd⟩
        rw [if_pos rfl]
        refine wpAny_execs_cons (wpAny_If (wpAny_isTrue_Compare1 (ldL EF Fd rfl n9 (eTup (spl (eStr fun k1 t1 => spl (ldL EF Fd rfl n8 (spl0 (mkTup Fd (by simp) fun b g2 h2 k2 hb Fe => ?_)))))))))
        refine cNeR am.hu (tup_of ((kg.trans (k2.trans Fe.keep)) _ _ eb)) (isTup_le hb Fe.keep) (tru ?_)
        rw [if_neg Bool.false_ne_true]
        exact wpAny_execs_nil (wpAny_execs_nil (wpAny_execs_nil (q d' _ _ Mc g2 (i5 + 1 + 1 + 1) Fe (eg.trans (kb'.trans (kg.trans k2))) (by omega) (by omega) n1 n2 n3 n4)))
    · have hnr : nm = "r" := hnm.resolve_left fun z => hbad (.inl z)
      have hzk : zs.map (·.1) = can lt.vs := Classical.byContradiction fun z => hbad (.inr ⟨hnr, z⟩)
      subst hnr
      have hzp : zs = ps := hbent.resolve_right fun z => z (hzk.trans hpk.symm)
      subst hzp
      obtain ⟨σ, hσ1, hσ2⟩ := sigma hnd hpt'
      rw [hzk] at hσ1
      have hσd : ∀ x, (σ x).Dp 3 := fun x => (lawTms_gr _ (hσ2 x)).2
      have hpln : PlainPs g14 zs := fun p hp => let ⟨tm, a1, a2⟩ := hpt' p hp; ⟨tm, a2, (lawTms_gr _ a1).1⟩
      refine wpAny_execs_cons (wpAny_Assign_Name ?_)
      refine callDef B EF F16 rfl (G_law_told _) (D_told _) (spl (ldL EF F16 rfl n4 (spl (ldL EF F16 rfl n7 (spl (ldL EF F16 rfl n5 (spl (ldL EF F16 rfl n8 (spl0 ⟨F16.H, ?_⟩)))))))))
      refine told_ok (σ := σ) (am.mono (by omega) (by omega)) (F16.pre B) O15.jud hsa' hsn' hzs' hzk hσ1 fun a v1 v2 d' gb hb' tb' Gb kgb khb hat hv1 hv2 => ?_
      have Fb := F16.called0 khb Gb kgb
      have kb' := Gb.le
      refine stL EF Fb rfl fun hc' tc Fc => ?_
      obtain ⟨Mc, Fc, n1, n2, n3, n4, n5, n6, n7, n8, n9⟩ : ∃ M, Frm ⟨H0, hc, gc, XX⟩ L (cellsFrom (L + 1) N_law []) M cm ((fd, pF w row (i5 + 1 + 1 + 1)) :: VV) gb hc' ∧ M "left" = some lv ∧ M "right" = some rv ∧ M "known" = some (.ref kn) ∧ M "judge" = some (.ref x) ∧ M "some" = some (.ref sa) ∧ M "table" = some (.ref d) ∧ M "name" = some (.str "r" tkn) ∧ M "place" = some pv ∧ M "told" = some (.ref a) :=
        ⟨_, Fc, n1, n2, n3, n4, n5, n6, n7, n8, rfl⟩
      refine wpAny_execs_cons (wpAny_If (isTrue_or (wpAny_isTrue_Compare1 (ldL EF Fc rfl n7 (eStr fun k t => cEqS (tru ?_))))))
      rw [show (("r" : Str) == Str.ofString "nobody") = false by decide +kernel, if_neg Bool.false_ne_true]
      refine isTrue_or (wpAny_isTrue_Compare1 ?_)
      refine lc_open EF (ldL EF Fc rfl n5 (itTup Fc (isTup_le hsa' kb') fun it h₃ hit F3 => ?_))
      refine lc_close (n := ws.toArray.size) (vx := []) (vr := (fd, pF w row (i5 + 1 + 1 + 1)) :: VV) EF F3 (ItR.tuple am.handled hit (isTup_le hsa' kb')) (by have := hzs.1; rw [List.size_toArray]; omega)
        (fun i ys g' vx' => vx' = [] ∧ StrsAre ys ((zs.take i).map (·.1))) ?_ ?_ ?_ ?_
      · exact ⟨rfl, .nil⟩
      · rintro _ _ _ _ ⟨rfl, _⟩; rfl
      · rintro C D' cenv i ys g₁ vx' mC h' t' v hi' ⟨rfl, hys⟩ EC kg₁ FC hx
        have hi : i < ws.length := by simpa using hi'
        have hzl := hzs.1
        have hip : i < zs.length := by omega
        have hx' : ws[i]? = some v := by simpa using hx
        obtain ⟨pp, ap, tkp, e1, e2, e3⟩ := hzs'.get hx'
        subst e2
        refine asgP2 am.handled FC (isTup_le e3 (kb'.trans (kg₁.trans FC.keep))) fun ha Fa ka => ?_
        refine asgN EC Fa rfl fun hb tb Fb => asgN EC Fb rfl fun hc tc Fc => tests0 ?_
        rw [if_pos rfl]
        refine ldL EC Fc rfl rfl ⟨hc, _, g₁, [], _, rfl, Fc, rfl, ?_⟩
        have hpi : zs[i] = pp := by rw [List.getElem?_eq_getElem hip] at e1; exact Option.some.inj e1
        rw [List.take_succ_eq_append_getElem hip, List.map_append, hpi]
        exact strsAre_app hys (.cons _ _ .nil)
      · rintro D1 ys g₁ gg vx' hh tt Fh kk1 kk2 hl' ⟨rfl, hys⟩
        rw [show ws.toArray.size = zs.length by rw [List.size_toArray]; exact hzs.1, List.take_length, hzk] at hys
        have kgg : Le gb gg := kk1.trans kk2
        refine ldL EF Fh rfl n3 (cNeLS (isList_le hl' Fh.keep) (isList_le kn' (kb'.trans (kgg.trans Fh.keep))) hys hks am.hu (tru ?_))
        rw [bne_self_eq_false, if_neg Bool.false_ne_true]
        refine isTrue_or_nil ?_
        rw [if_neg Bool.false_ne_true]
        refine wpAny_execs_cons (wpAny_If (isTrue_or (wpAny_isTrue_Compare1 (Subscript_ (ldL EF Fh rfl n9 (eInt fun k1 t1 => ?_))))))
        refine tGet (isTup_le hat (kgg.trans Fh.keep)) (by decide) (by decide) (j := 0) (by simp [seqIndex?]) (x := v1) (by simp) ?_
        refine eStr fun k2 t2 => cEqTS am.hu (hv1.le (kgg.trans Fh.keep)) (tru ?_)
        rw [if_neg Bool.false_ne_true]
        have Jh : JudgeAt w H0 gg x rx lv rv lt rt := O15.jud.le (kb'.trans kgg)
        have hDh : At gg d (pD w zs) := hD'.le (kb'.trans kgg)
        have hσh : ∀ y ∈ can lt.vs, ∃ u, valueAt zs y = some u ∧ IsTm gg u (σ y) := fun y hy => let ⟨u, a1, a2⟩ := hσ1 y hy; ⟨u, a1, a2.le (kb'.trans kgg)⟩
        have hlv : ∀ y ∈ lt.vs, y ∈ can lt.vs := fun y hy => mem_can.mpr ⟨Gd_sub vns_self Jh.lgd y hy, hy⟩
        refine isTrue_or (isTrue_not (isTrue_plain ?_))
        refine callDef B EF Fh rfl (G_law_is_read _) (D_isread _) (spl (ldL EF Fh rfl n1 (spl (Subscript_ (ldL EF Fh rfl n9 (eInt fun k1 t1 => ?_))))))
        refine tGet (isTup_le hat (kgg.trans Fh.keep)) (by decide) (by decide) (j := 0) (by simp [seqIndex?]) (x := v1) (by simp) ?_
        refine spl (ldL EF Fh rfl n6 (spl0 ⟨Fh.H, ?_⟩))
        refine read_spec vns_self 5 (am.mono (by omega) (by omega)) (Fh.pre B) Jh.lft Jh.lgd (hv1.le kgg) hDh (fun y hy => hσh y (hlv y hy)) hσd fun h6 t6 k6 => tru ?_
        rw [Bool.not_true, if_neg Bool.false_ne_true]
        have Fi := Fh.ext k6
        refine isTrue_or (isTrue_not (isTrue_plain ?_))
        refine callDef B EF Fi rfl (G_law_is_read _) (D_isread _) (spl (ldL EF Fi rfl n2 (spl (Subscript_ (ldL EF Fi rfl n9 (eInt fun k1 t1 => ?_))))))
        refine tGet (isTup_le hat (kgg.trans Fi.keep)) (by decide) (by decide) (j := 1) (by simp [seqIndex?]) (x := v2) (by simp) ?_
        refine spl (ldL EF Fi rfl n6 (spl0 ⟨Fi.H, ?_⟩))
        refine read_spec vns_self 5 (am.mono (by omega) (by omega)) (Fi.pre B) Jh.rgt Jh.rgd (hv2.le kgg) hDh (fun y hy => hσh y (Jh.sub y hy)) hσd fun h7 t7 k7 => tru ?_
        rw [Bool.not_true, if_neg Bool.false_ne_true]
        have Fj := Fi.ext k7
        refine isTrue_or_nil ?_
        rw [if_neg Bool.false_ne_true]
        obtain ⟨tv, rd, kvj, hIj, _⟩ := Jh.jud
        refine wpAny_execs_cons (wpAny_If (wpAny_isTrue_Compare1 ?_))
        refine callM (pl := do return (← importBound (.Name "judge" _) env).getD true) B EF Fj rfl n4 (hIj.le Fj.keep) (pg_Judge_sides _) (fi_Judge_sides _) (fm_Judge_sides _) (kp_Judge_sides _) (by rfl) ?_
        refine spl (eTup (spl (eStr fun k1 t1 => spl (eStr fun k2 t2 => spl (ldL EF Fj rfl n5 (spl0 (mkTup Fj (by simp) fun pa gk hk' kk hpa Fk => spl0 ⟨Fk.H, ?_⟩)))))))
        have e14k : Le g14 gk := kb'.trans (kgg.trans kk)
        have pp : PaperAt gk pa sa "r" ws zs lt.vs := ⟨⟨_, _, hpa⟩, isTup_le hsa' e14k, hzs'.le e14k, hzk, hpln.le e14k⟩
        refine sides_spec (σ := σ) (am.mono (by omega) (by omega)) (Fk.pre B) (Jh.le kk) pp (hsn'.le e14k) hzk (fun y hy => let ⟨u, a1, a2⟩ := hσh y hy; ⟨u, a1, a2.le kk⟩) fun a2 u1 u2 d2 g8 h8 t8 G8 k8 kh8 ha2 hu1 hu2 => ?_
        have Fl := Fk.called0 kh8 G8 k8
        have kl := kgg.trans (kk.trans (G8.le.trans Fl.keep))
        refine ldL EF Fl rfl n9 ?_
        refine cNePair (n := 8) (pl_dp hσd (Jh.lgd.dp vns_self)) (pl_dp hσd (Jh.rgd.dp vns_self)) (by have := am.units; omega) (isTup_le ha2 Fl.keep) (isTup_le hat kl) (hu1.le Fl.keep) (hv1.le kl) (hu2.le Fl.keep) (hv2.le kl) (tru ?_)
        rw [if_neg Bool.false_ne_true]
        exact wpAny_execs_nil (wpAny_execs_nil (wpAny_execs_nil (wpAny_execs_nil (q d2 _ _ Mc g8 (i5 + 1 + 1 + 1) Fl (eg.trans (kb'.trans (kgg.trans (kk.trans G8.le)))) (by omega) (by omega) n1 n2 n3 n4))))
end
end Rg
end
section
/-! the law, first statements -/
open PySem PySem.W PyProof.Rows PySem.Calls PySem.SeqAt
set_option autoImplicit false
set_option maxRecDepth 100000
namespace Rg
theorem strVs_of {vs : List Value} {ks : List Str} (h : StrsAre vs ks) : StrVs vs ks :=
  ⟨strsAre_len h, fun i v x a b => by obtain ⟨y, t, e, q⟩ := StrsAre.item h i v a; rw [b] at q; cases q; exact ⟨t, e⟩⟩
theorem steps {M : Model} {A : Around} {body : List Stmt} {env : Env} {n : Nat} {st : Stmt} {Q : Flow → Shared → Prop} {E : Value → Shared → Prop} {s : Shared} (hst : body[n]? = some st)
    (h : wpAny M A (exec st env) (fun f s' => match f with | .next => wpAny M A (execs (body.drop (n + 1)) env) Q E s' | f => Q f s') E s) : wpAny M A (execs (body.drop n) env) Q E s := by
  have : body.drop n = st :: body.drop (n + 1) := by
    obtain ⟨hi, e⟩ := List.getElem?_eq_some_iff.mp hst
    rw [List.drop_eq_getElem_cons hi, e]
  rw [this]; exact wpAny_execs_cons h
/-- statements, behind a door of their own: so that the elaborator does not look into them -/
structure LX (M : Model) (A : Around) (body : List Stmt) (env : Env) (Q : Flow → Shared → Prop) (E : Value → Shared → Prop) (s : Shared) : Prop where
  of : wpAny M A (execs body env) Q E s
theorem LX.whole {M : Model} {A : Around} {body : List Stmt} {env : Env} {Q : Flow → Shared → Prop} {E : Value → Shared → Prop} {s : Shared} (x : LX M A (body.drop 0) env Q E s) : LX M A body env Q E s := ⟨x.of⟩
/-- the law from its n-th statement on -/
abbrev LW (w : World) (A : Around) (n : Nat) (env : Env) (Q : Flow → Shared → Prop) (E : Value → Shared → Prop) (s : Shared) : Prop := LX (model PR w) A ((bodyAt w.params 287).drop n) env Q E s
section
variable {w : World} {mg mb : Str → Option Value} {A : Around} {E : Value → Shared → Prop} {s : Shared} {h g : Heap} {t : Nat} {VV : Vol} {env : Env}
  {H0 hc gc : Heap} {XX : List Addr} {L : Addr} {m cm : Str → Option Value}
theorem law_s0 {Q : Flow → Shared → Prop} {sc : Addr} {vs : List Value} {ns : List Int} (am : Amb A 11 70) (B : Bs w mg mb H0) (EF : EnvF env N_law (cellsFrom (L + 1) N_law []) L)
    (hC : ∀ n c, (n, c) ∈ cellsFrom (L + 1) N_law [] → hc.objs.size ≤ c)
    (F : Frm ⟨H0, hc, gc, XX⟩ L (cellsFrom (L + 1) N_law []) m cm [] g h) (m1 : m "script" = some (.ref sc)) (hsc : g.IsList sc vs.toArray) (hI : IntsAre vs ns) (hlen : ns.length ≤ 63)
    (q : ∀ fd row nm nv h' t' cm' g', Frm ⟨H0, hc, gc, XX⟩ L (cellsFrom (L + 1) N_law []) m cm' [(fd, pF w row 0)] g' h' → cm' "feed" = some (.ref fd) → cm' "names" = some (.ref nm) → RowOk g' row → g'.IsList nm nv.toArray → StrVs nv vns →
      LW w A 1 env Q E (upd s h' t')) :
    LW w A 0 env Q E (upd s h t) := by
  refine ⟨?_⟩
  have hvl : vs.length = ns.length := hI.length
  refine steps (st := ?st) ?hs ?hx
  case hs => exact rfl
  case hx =>
    refine Assign_Tuple ?a ?b ?c
    case b => rfl
    case c => rw [EF.rep]; rfl
    refine eTup ?_
    refine spl ?_ ?_
    case refine_2 => rfl
    refine eDict F ?_ ?_ ?_ ?_ ?_
    case refine_2 => rfl
    case refine_3 => rfl
    case refine_4 => simp
    case refine_5 => decide
    refine fun fd h2 hfd F2 => ?_
    refine pairS ?_
    refine fun tk t2 => ?_
    refine lc_open EF ?_ ?_ ?_ ?_ ?_
    case refine_2 => rfl
    case refine_3 => rfl
    case refine_4 => decide
    case refine_5 => intro _; rfl
    refine Subscript_ ?_
    refine ldL EF F2 rfl m1 ?_
    refine lSlice (pN (pS' (eInt fun k1 t3 => pN ?_)))
    refine lTail F2 (isList_le hsc F2.keep) .none (.int _ _) .none (by decide) (by rw [List.size_toArray]; omega) fun D1 g3 h3 t3 k3 hD1 F3 => ?_
    rw [show slicePick vs.toArray none (some 50) none = (vs.take 50).toArray from slicePick_upto' vs.toArray 50] at hD1
    refine itList F3 hD1 fun I h4 hI4 F4 => ?_
    refine lc_close (n := (vs.take 50).toArray.size) (V := V1 I (pLI D1)) (vx := []) EF F4 (ItR.list am.handled hI4 hD1) (by rw [List.size_toArray, List.length_take]; omega)
      (fun i ys g' vx' => vx' = [] ∧ ∃ ns', IntsAre ys ns' ∧ ns'.length = i) ?_ ?_ ?_ ?_
    · exact ⟨rfl, [], .nil, rfl⟩
    · rintro _ _ _ _ ⟨rfl, _⟩; rfl
    · rintro C D' cenv i ys g₁ vx' mC h' t' v hi' ⟨rfl, ns', hys, hnl⟩ EC kg₁ FC hx
      have hx' : vs[i]? = some v := by
        have : (vs.take 50)[i]? = some v := by simpa using hx
        rw [List.getElem?_take] at this
        split at this
        · exact this
        · cases this
      obtain ⟨n, u, rfl, _⟩ := hI.at i v hx'
      refine asgN EC FC rfl fun hA tA FA => tests0 ?_
      rw [if_pos rfl]
      refine wpAny_BinOp (callTy B EC FA rfl (G0_int _) (by boot_by_name) (spl (ldL EC FA rfl rfl (spl0 (call_int_int ?_)))))
      refine eInt fun k5 t5 => oMod (by decide) fun k6 t6 => ?_
      exact ⟨hA, _, g₁, [], _, rfl, FA, rfl, ns' ++ [n.fmod 1000003], hys.append (.cons _ _ .nil), by rw [List.length_append, hnl]; rfl⟩
    · rintro D ys g₁ gg vx' hh tt F5 kk1 kk2 hl5 ⟨rfl, ns', hys, hnl⟩
      refine pairS fun tk6 t6 => ?_
      refine eInt fun tk7 t7 => pairN ?_
      refine dEnd (pre := []) (post := []) F5 (kvs := [("row", .ref D), ("at", .int 0 tk7)]) ?_ fun h8 t8 F8 => ?_
      · exact ⟨strKind_is PR w _ _, rfl, strKind_is PR w _ _, rfl, trivial⟩
      have F9 : Frm ⟨H0, hc, gc, XX⟩ L (cellsFrom (L + 1) N_law []) m cm [(fd, pF w D 0)] gg h8 := Frm.vset (pre := []) (post := []) F8 (LeX.refl _ _) (by
        obtain ⟨o, e, r⟩ := F8.vat _ (.head _)
        exact ⟨o, e, tk7, r⟩)
      refine spl (eList (spl (eStr fun ka ta => spl (eStr fun kb tb => spl (eStr fun kc tc => spl0 ?_)))))
      refine mkList F9 (by simp) fun nm ha hna Fa => ?_
      obtain ⟨gb, kgb, hnb, Fb⟩ := Fa.freeze (pre := []) hna
      refine spl0 (mkTup Fb (by simp) fun T gc' hc' kT hT Fc => ?_)
      refine asgP2 am.handled Fc (isTup_le hT Fc.keep) fun hd Fd kd => ?_
      refine asgC EF Fd rfl rfl (hC "feed" _ (by simp [cellsFrom])) fun he Fe => ?_
      refine asgC EF Fe rfl rfl (hC "names" _ (by simp [cellsFrom])) fun hf' Ff => ?_
      refine (q fd D nm [.str "?x" ka, .str "?y" kb, .str "?z" kc] hf' _ _ gc' Ff rfl rfl ?_ (isList_le hnb kT) ?_).of
      · have : vs.length = ns.length := hI.length
        exact ⟨ys, ns', isList_le hl5 (kgb.trans kT), hys, by rw [hnl, List.size_toArray, List.length_take]; omega⟩
      · exact strVs_of (.cons _ _ (.cons _ _ (.cons _ _ .nil)))
end
end Rg
end
section
/-! the law: way, left -/
open PySem PySem.W PyProof.Rows PySem.Calls PySem.SeqAt
set_option autoImplicit false
set_option maxRecDepth 100000
namespace Rg
section
variable {w : World} {mg mb : Str → Option Value} {A : Around} {E : Value → Shared → Prop} {s : Shared} {h g : Heap} {t : Nat} {VV : Vol} {env : Env}
  {H0 hc gc : Heap} {XX : List Addr} {L : Addr} {m cm : Str → Option Value}
theorem law_s1 {Q : Flow → Shared → Prop} {fd row nm : Addr} {nv : List Value} (am : Amb A 11 70) (B : Bs w mg mb H0) (EF : EnvF env N_law (cellsFrom (L + 1) N_law []) L)
    (F : Frm ⟨H0, hc, gc, XX⟩ L (cellsFrom (L + 1) N_law []) m cm [(fd, pF w row 0)] g h) (c1 : cm "feed" = some (.ref fd)) (c2 : cm "names" = some (.ref nm)) (hr : RowOk g row) (hn : g.IsList nm nv.toArray) (hns : StrVs nv vns)
    (q : ∀ i lv lt h' t' m' g', Frm ⟨H0, hc, gc, XX⟩ L (cellsFrom (L + 1) N_law []) m' cm [(fd, pF w row i)] g' h' → 0 ≤ i → i ≤ 30 → Le g g' → m' "left" = some lv → IsTm g' lv lt → lt.Gd vns 4 → lt.isVar = false →
      LW w A 3 env Q E (upd s h' t')) :
    LW w A 1 env Q E (upd s h t) := by
  refine ⟨?_⟩
  refine steps (st := ?st) ?hs ?hx
  case hs => exact rfl
  case hx =>
  refine wpAny_Assign_Name ?_
  refine wpAny_BinOp ?_
  refine eInt ?_
  intro k1 t1
  refine callDef B EF F rfl (G_law_pick _) (D_pick _) (spl (ldC EF F rfl rfl c1 (spl (eInt fun k3 t3 => spl0 ⟨F.H, ?_⟩))))
  refine pick_spec (am.mono (by omega) (by omega)) (F.pre B) (F.volat _ (.head _)).1 (F.volat _ (.head _)).2.1 hr (by decide) (by decide) (by decide) (by decide) fun r tkr h₂ t₂ r0 r1 k hf2 => ?_
  have F2 := F.called1s (pre := []) k hf2
  refine oAdd fun k4 t4 => ?_
  refine stL EF F2 rfl fun h₃ t₃ F3 => ?_
  obtain ⟨way, hway⟩ : ∃ way : Int, way = 1 + r := ⟨_, rfl⟩
  rw [← hway] at F3
  have w1 : 1 ≤ way := by omega
  have w2 : way ≤ 2 := by omega
  refine steps (st := ?st2) ?hs2 ?hx2
  case hs2 => exact rfl
  case hx2 =>
  refine wpAny_Assign_Name ?_
  refine wpAny_BinOp ?_
  refine eTup ?_
  refine spl ?_ ?_
  case refine_2 => rfl
  refine cut (R := fun v s' => ∃ (op : Str) (tk' : Tok) (t₄ : Nat), v = .str op tk' ∧ (op = "f" ∨ op = "g") ∧ s' = upd s h₃ t₄) ?_ ?_
  · refine wpAny_IfExp (wpAny_isTrue_Compare1 (ldL EF F3 rfl rfl (eInt fun k1 t4 => cEq (tru ?_))))
    split
    · exact eStr fun k t => ⟨_, _, _, rfl, .inl rfl, rfl⟩
    · exact eStr fun k t => ⟨_, _, _, rfl, .inr rfl, rfl⟩
  rintro v s' ⟨op, tk', t₄, rfl, hop, rfl⟩
  have hop' : op ∈ gops := by rcases hop with rfl | rfl <;> decide
  refine spl0 (mkTup F3 (by simp) fun a g₄ h₄ kg ht F4 => ?_)
  refine callTy B EF F4 rfl (G0_tuple _) (by boot_by_name) (spl (lc_open EF ?_))
  refine callTy B EF F4 rfl (G0_range _) (by boot_by_name) (spl (ldL EF F4 rfl rfl (spl0 (mkRange (n := way.toNat) (by omega) F4 fun r h₅ t₅ hr5 F5 => ?_))))
  refine itRange F5 hr5 (by omega) fun I h₆ hI F6 => ?_
  have hc2 : co 2 = 11 := by decide
  refine lc_close (n := way.toNat) (vx := [(fd, pF w row (0 + 1))]) (vr := []) EF F6 (ItR.range am.handled) (by omega)
    (fun k ys g' vx' => ∃ i' tms, vx' = [(fd, pF w row i')] ∧ 0 ≤ i' ∧ i' ≤ 1 + k * (11 : Nat) ∧ ys.length = k ∧ KidsOk g' ys tms ∧ ∀ x ∈ tms, Tm.Gd vns 3 x) ?_ ?_ ?_ ?_
  · exact ⟨0 + 1, [], rfl, by omega, by omega, rfl, KidsOk.nil _, by simp⟩
  · rintro _ _ _ _ ⟨i', tms, rfl, _⟩; rfl
  · rintro C D cenv k ys g' vx' mC h' t' v hk ⟨i', tms, rfl, j0, j1, hyl, hks, hgd⟩ EC kgc FC ⟨tkv, rfl⟩
    refine asgN EC FC rfl fun h₇ t₇ F7 => tests0 ?_
    rw [if_pos rfl]
    refine callDef B EC F7 rfl (G_law_pattern _) (D_pattern _) (spl (ldC EC F7 rfl rfl c1 (spl (eInt fun k1 t8 => ?_))))
    refine spl (ldC EC F7 rfl rfl c2 (spl0 ⟨F7.H, ?_⟩))
    have e0 : Le g g' := kg.trans kgc
    refine pattern_spec hns (by decide) 2 (by rfl) (am.mono (by omega) (by omega)) (F7.pre B) (F7.vat (fd, pF w row i') (by simp [VR, V1])) (F7.volat (fd, pF w row i') (by simp [VR, V1])).2.1 (hr.le e0) (isList_le hn e0) (by omega) (by omega) ?_
    intro v tm g₈ h₈ t₈ i₈ b0 b1 G kg8 kX hf8 htm hgd8
    rw [hc2] at b1
    have F8 := F7.called1 (pre := (D, pM ys) :: (V1 I fun i => pRI i ((way.toNat : Int) - (i : Nat))) (k + 1)) (post := []) kX hf8 G kg8
    exact ⟨h₈, t₈, g₈, [(fd, pF w row i₈)], _, rfl, F8, i₈, tms ++ [tm], rfl, by omega, by omega, by simp [hyl], (hks.le G.le).snoc htm, fun x hx => (List.mem_append.mp hx).elim (hgd x) fun e => by rw [List.mem_singleton.mp e]; exact hgd8⟩
  · rintro D ys g' gg vx' hh tt Ff k1 k2 hl ⟨i', tms, rfl, j0, j1, hyl, hks, hgd⟩
    refine spl0 (tupL Ff (isList_le hl Ff.keep) (by omega) fun b g₉ h₉ k3 ht9 F9 => ?_)
    refine tAdd (vs := [.str op tk']) F9 (isTup_le ht (k1.trans (k2.trans k3))) ht9 (by simp; omega) fun d gf h' k4 htd F10 => ?_
    refine stL EF F10 rfl fun hz tz Fz => ?_
    refine (q i' (.ref d) (.node op tms) hz tz _ gf Fz (by omega) (by omega) (kg.trans (k1.trans (k2.trans (k3.trans k4)))) rfl ((hks.le (k2.trans (k3.trans k4))).tm htd) ⟨by rw [← hks.1]; omega, .inr hop', hgd⟩ ?_).of
    have : isQ op = false := by rcases hop with rfl | rfl <;> decide +kernel
    rw [Tm.isVar, this, Bool.and_false]
end
end Rg
end
section
/-! the law: known, right, needs -/
open PySem PySem.W PyProof.Rows PySem.Calls PySem.SeqAt
set_option autoImplicit false
set_option maxRecDepth 100000
namespace Rg
section
variable {w : World} {mg mb : Str → Option Value} {A : Around} {E : Value → Shared → Prop} {s : Shared} {h g : Heap} {t : Nat} {VV : Vol} {env : Env}
  {H0 hc gc : Heap} {XX : List Addr} {L : Addr} {m cm : Str → Option Value}
theorem law_s3 {Q : Flow → Shared → Prop} {fd row : Addr} {i : Int} {lv : Value} {lt : Tm} (am : Amb A 11 70) (B : Bs w mg mb H0) (EF : EnvF env N_law (cellsFrom (L + 1) N_law []) L)
    (F : Frm ⟨H0, hc, gc, XX⟩ L (cellsFrom (L + 1) N_law []) m cm [(fd, pF w row i)] g h) (c1 : cm "feed" = some (.ref fd)) (hr : RowOk g row) (i0 : 0 ≤ i) (i1 : i ≤ 30) (m1 : m "left" = some lv) (hl : IsTm g lv lt) (hld : lt.Gd vns 4)
    (q : ∀ i' kn rv rt na nvs h' t' m' g', Frm ⟨H0, hc, gc, XX⟩ L (cellsFrom (L + 1) N_law []) m' cm [(fd, pF w row i')] g' h' → 0 ≤ i' → i' ≤ 60 → Le g g' →
      m' "left" = some lv → m' "known" = some (.ref kn) → m' "right" = some rv → m' "needs" = some (.ref na) → (∃ vs, g'.IsList kn vs.toArray ∧ StrsAre vs (can lt.vs)) →
      IsTm g' rv rt → rt.Gd vns 3 → (∀ x ∈ rt.vs, x ∈ can lt.vs) → IsTup g' na (nvs : List Value).toArray → nvs.length ≤ 1 → (∀ v ∈ nvs, NeedAt g' v (can lt.vs)) →
      LW w A 6 env Q E (upd s h' t')) :
    LW w A 3 env Q E (upd s h t) := by
  refine ⟨?_⟩
  refine steps (st := ?st) ?hs ?hx
  case hs => exact rfl
  case hx =>
  refine wpAny_Assign_Name ?_
  refine callDef B EF F rfl (G_law_names _) (D_names _) (spl (ldL EF F rfl m1 (spl0 ⟨F.H, ?_⟩)))
  refine names_spec vns_self 4 (am.mono (by omega) (by omega)) (F.pre B) hl hld fun kn kvs g1 h1 t1 G1 k1 kh1 hkn hks => ?_
  have F1 := F.called0 kh1 G1 k1
  refine stL EF F1 rfl fun h2 t2 F2 => ?_
  have n1 := m1
  obtain ⟨M2, F2, n1, n2⟩ : ∃ M, Frm ⟨H0, hc, gc, XX⟩ L (cellsFrom (L + 1) N_law []) M cm [(fd, pF w row i)] g1 h2 ∧ M "left" = some lv ∧ M "known" = some (.ref kn) := ⟨_, F2, m1, rfl⟩
  refine steps (st := ?st2) ?hs2 ?hx2
  case hs2 => exact rfl
  case hx2 =>
  refine wpAny_Assign_Name ?_
  have hc2 : co 2 = 11 := by decide
  refine callDef B EF F2 rfl (G_law_pattern _) (D_pattern _) (spl (ldC EF F2 rfl rfl c1 (spl (eInt fun k3 t3 => spl (ldL EF F2 rfl n2 (spl0 ⟨F2.H, ?_⟩))))))
  refine pattern_spec (strVs_of hks) (can_len _) 2 (by rfl) (am.mono (by omega) (by omega)) (F2.pre B) (F2.vat _ (.head _)) (F2.volat _ (.head _)).2.1 (hr.le G1.le) hkn i0 (by omega) ?_
  intro rv rt g3 h3 t4 i3 b0 b1 G3 k3 kX3 hf3 hrt hrd
  rw [hc2] at b1
  have F3 := F2.called1 (pre := []) (post := []) kX3 hf3 G3 k3
  refine stL EF F3 rfl fun h4 t4 F4 => ?_
  obtain ⟨M4, F4, n1, n2, n3⟩ : ∃ M, Frm ⟨H0, hc, gc, XX⟩ L (cellsFrom (L + 1) N_law []) M cm [(fd, pF w row i3)] g3 h4 ∧ M "left" = some lv ∧ M "known" = some (.ref kn) ∧ M "right" = some rv := ⟨_, F4, n1, n2, rfl⟩
  have hrs : ∀ x ∈ rt.vs, x ∈ can lt.vs := Gd_sub (fun _ z => can_sub _ z) hrd
  have hrd' : rt.Gd vns 3 := hrd.mono (fun _ z => can_sub _ z) (Nat.le_refl _)
  have hlv : ∀ y ∈ lt.vs, y ∈ can lt.vs := fun y hy => mem_can.mpr ⟨Gd_sub vns_self hld y hy, hy⟩
  have e3 : Le g g3 := G1.le.trans G3.le
  refine steps (st := ?st3) ?hs3 ?hx3
  case hs3 => exact rfl
  case hx3 =>
  refine wpAny_Assign_Name ?_
  refine cut (R := fun v s' => ∃ na nvs g' h' t', v = .ref na ∧ s' = upd s h' t' ∧ Le g3 g' ∧ IsTup g' na (nvs : List Value).toArray ∧ nvs.length ≤ 1 ∧ (∀ v ∈ nvs, NeedAt g' v (can lt.vs)) ∧ Frm ⟨H0, hc, gc, XX⟩ L (cellsFrom (L + 1) N_law []) M4 cm [(fd, pF w row (i3 + 1))] g' h') ?_ ?_
  · refine wpAny_IfExp (wpAny_isTrue_Compare1 ?_)
    refine callDef B EF F4 rfl (G_law_pick _) (D_pick _) (spl (ldC EF F4 rfl rfl c1 (spl (eInt fun k3 t3 => spl0 ⟨F4.H, ?_⟩))))
    refine pick_spec (am.mono (by omega) (by omega)) (F4.pre B) (F4.volat _ (.head _)).1 (F4.volat _ (.head _)).2.1 (hr.le e3) (by omega) (by omega) (by decide) (by decide) fun r tkr h₂ t₂ r0 r1 k hf2 => ?_
    have F5 := F4.called1s (pre := []) k hf2
    refine eInt fun k5 t5 => cEq (tru ?_)
    split
    · refine eTup (spl (eTup (spl (eStr fun k6 t6 => spl (ldL EF F5 rfl n1 (spl (ldL EF F5 rfl n3 (spl0 ?_))))))))
      refine mkTup F5 (by simp) fun a g6 h6 k6 ha F6 => spl0 (mkTup F6 (by simp) fun na g7 h7 k7 hna F7 => ?_)
      refine ⟨na, [.ref a], g7, h7, _, rfl, rfl, k6.trans k7, hna, by simp, fun v hv => ?_, F7⟩
      rw [List.mem_singleton.mp hv]
      exact ⟨a, "unlike", _, lv, rv, lt, rt, rfl, isTup_le ha k7, .inr rfl, hl.le (e3.trans (k6.trans k7)), hrt.le (k6.trans k7), hld.mono vns_self (by omega), hrd'.mono vns_self (by omega), hlv, hrs⟩
    · refine eTup (spl0 (mkTup F5 (by simp) fun na g7 h7 k7 hna F7 => ?_))
      exact ⟨na, [], g7, h7, _, rfl, rfl, k7, hna, by simp, by simp, F7⟩
  rintro v s' ⟨na, nvs, g7, h7, t7, rfl, rfl, k7, hna, hnz, hnd, F7⟩
  refine stL EF F7 rfl fun h8 t8 F8 => ?_
  exact (q (i3 + 1) kn rv rt na nvs h8 t8 _ g7 F8 (by omega) (by omega) (e3.trans k7) n1 n2 n3 rfl ⟨kvs, isList_le hkn (G3.le.trans k7), hks⟩ (hrt.le k7) hrd' hrs hna hnz hnd).of
end
end Rg
end
section
/-! the law: others, judge -/
open PySem PySem.W PyProof.Rows PySem.Calls PySem.SeqAt
set_option autoImplicit false
set_option maxRecDepth 100000
namespace Rg
theorem vs_one {op : Str} {t : Tm} : (Tm.node op [t]).vs = t.vs := by
  rw [Tm.vs, if_neg (by simp), vsL, vsL, List.append_nil]
theorem Gd_one {op : Str} {t : Tm} {n : Nat} (ho : op ∈ gops) (h : t.Gd vns n) : (Tm.node op [t]).Gd vns (n + 1) :=
  ⟨by simp, .inr ho, fun k hk => by rw [List.mem_singleton.mp hk]; exact h⟩
theorem IsTm.one {h : Heap} {a : Addr} {op : Str} {tk : Tok} {v : Value} {t : Tm} (hv : IsTm h v t) (ha : IsTup h a #[.str op tk, v]) : IsTm h (.ref a) (.node op [t]) :=
  ((KidsOk.nil h).snoc hv).tm (vs := [v]) ha
section
variable {w : World} {mg mb : Str → Option Value} {A : Around} {E : Value → Shared → Prop} {s : Shared} {h g : Heap} {t : Nat} {VV : Vol} {env : Env}
  {H0 hc gc : Heap} {XX : List Addr} {L : Addr} {m cm : Str → Option Value}
theorem law_s6 {Q : Flow → Shared → Prop} {fd row kn na : Addr} {i : Int} {lv rv : Value} {lt rt : Tm} {nvs : List Value} (am : Amb A 11 70) (B : Bs w mg mb H0) (EF : EnvF env N_law (cellsFrom (L + 1) N_law []) L)
    (F : Frm ⟨H0, hc, gc, XX⟩ L (cellsFrom (L + 1) N_law []) m cm [(fd, pF w row i)] g h)
    (m1 : m "left" = some lv) (m2 : m "known" = some (.ref kn)) (m3 : m "right" = some rv) (m4 : m "needs" = some (.ref na))
    (hl : IsTm g lv lt) (hld : lt.Gd vns 4) (hlz : lt.isVar = false) (hrt : IsTm g rv rt) (hrd : rt.Gd vns 3) (hrs : ∀ x ∈ rt.vs, x ∈ can lt.vs) (hna : IsTup g na nvs.toArray) (hnz : nvs.length ≤ 1) (hnd : ∀ v ∈ nvs, NeedAt g v (can lt.vs))
    (q : ∀ x rx d h' t' m' g', Frm ⟨H0, hc, gc, XX⟩ L (cellsFrom (L + 1) N_law []) m' cm [(fd, pF w row i)] g' h' → Le g g' →
      m' "left" = some lv → m' "right" = some rv → m' "known" = some (.ref kn) → m' "judge" = some (.ref x) → JudgeAt w H0 g' x rx lv rv lt rt →
      LW w A 8 env Q E (upd { s with drawn := d } h' t')) :
    LW w A 6 env Q E (upd s h t) := by
  refine ⟨?_⟩
  have gh : ("h" : Str) ∈ gops := by decide
  have gf : ("f" : Str) ∈ gops := by decide
  have vh : ∀ u : Tm, (Tm.node "h" [u]).isVar = false := fun u => rfl
  refine steps (st := ?st) ?hs ?hx
  case hs => exact rfl
  case hx =>
  refine wpAny_Assign_Name ?_
  refine eTup ?_
  refine spl ?_ ?_
  case refine_2 => rfl
  refine callCls B EF F rfl (G_Rule _) (kc_Rule _) (spl (eStr fun k1 t1 => spl (eTup (spl (eStr fun k2 t2 => spl (ldL EF F rfl m1 (spl0 ?_)))))))
  refine mkTup F (by simp) fun a1 g1 h1 e1 ha1 F1 => ?_
  refine spl (eTup (spl (eStr fun k2 t2 => spl (ldL EF F1 rfl m3 (spl0 (mkTup F1 (by simp) fun a2 g2 h2 e2 ha2 F2 => ?_))))))
  refine spl (eTup (spl0 (mkTup F2 (by simp) fun a3 g3 h3 e3 ha3 F3 => spl0 ⟨F3.H, ?_⟩)))
  have hl1 : IsTm g1 (.ref a1) (.node "h" [lt]) := (hl.le e1).one ha1
  have hr2 : IsTm g2 (.ref a2) (.node "h" [rt]) := (hrt.le (e1.trans e2)).one ha2
  refine mkRule (nvs := []) (am.mono (by omega) (by omega)) B F3 (hl1.le (e2.trans e3)) (Gd_one gh hld) (vh lt) (hr2.le e3) (Gd_one gh (hrd.mono vns_self (by omega))) (by rw [vs_one, vs_one]; exact hrs) ha3 (by simp) (by simp) fun x1 d1 g4 h4 t4 e4 hx1 F4 => ?_
  refine spl ?_
  refine callCls B EF F4 rfl (G_Rule _) (kc_Rule _) (spl (eStr fun k1 t1 => spl (eTup (spl (eStr fun k2 t2 => spl (ldL EF F4 rfl m1 (spl0 ?_)))))))
  refine mkTup F4 (by simp) fun b1 g5 h5 e5 hb1 F5 => ?_
  refine spl (eTup (spl (eStr fun k2 t2 => spl (ldL EF F5 rfl m3 (spl0 (mkTup F5 (by simp) fun b2 g6 h6 e6 hb2 F6 => ?_))))))
  refine spl (eTup (spl0 (mkTup F6 (by simp) fun b3 g7 h7 e7 hb3 F7 => spl0 ⟨F7.H, ?_⟩)))
  have eg4 : Le g g4 := e1.trans (e2.trans (e3.trans e4))
  have hl5 : IsTm g5 (.ref b1) (.node "h" [lt]) := (hl.le (eg4.trans e5)).one hb1
  have hr6 : IsTm g6 (.ref b2) (.node "f" [rt]) := (hrt.le (eg4.trans (e5.trans e6))).one hb2
  refine mkRule (nvs := []) (am.mono (by omega) (by omega)) B F7 (hl5.le (e6.trans e7)) (Gd_one gh hld) (vh lt) (hr6.le e7) (Gd_one gf (hrd.mono vns_self (by omega))) (by rw [vs_one, vs_one]; exact hrs) hb3 (by simp) (by simp) fun x2 d2 g8 h8 t8 e8 hx2 F8 => ?_
  refine spl0 (mkTup F8 (by simp) fun oa g9 h9 e9 hoa F9 => ?_)
  refine stL EF F9 rfl fun h10 t10 F10 => ?_
  obtain ⟨M, F10, m1, m2, m3, m4, m5⟩ : ∃ M, Frm ⟨H0, hc, gc, XX⟩ L (cellsFrom (L + 1) N_law []) M cm [(fd, pF w row i)] g9 h10 ∧ M "left" = some lv ∧ M "known" = some (.ref kn) ∧ M "right" = some rv ∧ M "needs" = some (.ref na) ∧ M "others" = some (.ref oa) :=
    ⟨_, F10, m1, m2, m3, m4, rfl⟩
  have eg9 : Le g g9 := eg4.trans (e5.trans (e6.trans (e7.trans (e8.trans e9))))
  refine steps (st := ?st2) ?hs2 ?hx2
  case hs2 => exact rfl
  case hx2 =>
  refine wpAny_Assign_Name ?_
  refine callCls B EF F10 rfl (G_Judge _) (kc_Judge _) (spl ?_)
  refine eDict F10 fun dd h11 hdd F11 => pairS fun tk11 t11 => ?_
  refine Subscript_ (ldL EF F11 rfl m5 (eInt fun k1 t1 => tGet (isTup_le hoa F11.keep) (by decide) (by decide) (j := 0) (by simp [seqIndex?]) (x := .ref x1) (by simp) ?_))
  refine pairS fun tk12 t12 => ?_
  refine callCls B EF F11 rfl (G_Rule _) (kc_Rule _) (spl (eStr fun k1 t1 => spl (ldL EF F11 rfl m1 (spl (ldL EF F11 rfl m3 (spl (ldL EF F11 rfl m4 (spl0 ⟨F11.H, ?_⟩))))))))
  refine mkRule (am.mono (by omega) (by omega)) B F11 (hl.le eg9) (hld.mono vns_self (by omega)) hlz (hrt.le eg9) (hrd.mono vns_self (by omega)) hrs (isTup_le hna eg9) hnz (fun v hv => (hnd v hv).le eg9) fun rx d3 g12 h12 t12 e12 hrx F12 => ?_
  refine pairS fun tk13 t13 => ?_
  refine Subscript_ (ldL EF F12 rfl m5 (eInt fun k1 t1 => tGet (isTup_le hoa (e12.trans F12.keep)) (by decide) (by decide) (j := 1) (by simp [seqIndex?]) (x := .ref x2) (by simp) ?_))
  refine pairN ?_
  refine dEnd (pre := []) (post := [(fd, pF w row i)]) F12 (kvs := [("h", .ref x1), ("r", .ref rx), ("s", .ref x2)]) ?_ fun h13 t13 F13 => ?_
  · exact ⟨strKind_is PR w _ _, rfl, strKind_is PR w _ _, rfl, strKind_is PR w _ _, rfl, trivial⟩
  have hdc : hc.objs.size ≤ dd := Nat.le_trans F10.sz hdd
  obtain ⟨g14, e14, hD14, F14⟩ := Frm.freeze (pre := []) F13 hdc
  refine spl (wpAny_Dict_empty ?_)
  have F15 := F14.ext (Le.push h13 { cls := .type "dict", data := .dict #[] })
  refine spl0 ⟨F15.H, ?_⟩
  refine mkJudge (am.mono (by omega) (by omega)) B F15 fun x g16 h16 t16 e16 hx F16 => ?_
  refine stL EF F16 rfl fun h17 t17 F17 => ?_
  have e912 : Le g g16 := eg9.trans (e12.trans (e14.trans e16))
  refine (q x rx d3 h17 t17 _ g16 F17 e912 m1 m3 m2 rfl ?_).of
  refine ⟨⟨_, dd, _, hx, Nat.le_trans (Nat.le_of_lt (Nat.lt_of_le_of_lt F10.k0L F10.ns.lt)) hdd, At.le hD14 e16, by rfl, by rfl⟩, ⟨_, _, hrx.le (e14.trans e16)⟩, hl.le e912, hrt.le e912, hld.mono vns_self (by omega), hrd.mono vns_self (by omega), hrs⟩
end
end Rg
end
section
/-! the law: its loop; all of it -/
open PySem PySem.W PyProof.Rows PySem.Calls PySem.SeqAt
set_option autoImplicit false
set_option maxRecDepth 100000
namespace Rg
theorem law_for (P : Params) : ∃ (tgt iter : Expr) (pos : Pos), (bodyAt P 287)[8]? = some (.For tgt iter (lawLoop P) [] pos) ∧ (∃ np, tgt = .Name "turn" np) ∧ (∃ np k p cp, iter = .Call (.Name "range" np) [.Constant (.int 3) k p] [] cp) := ⟨_, _, _, rfl, ⟨_, rfl⟩, ⟨_, _, _, _, rfl⟩⟩
section
variable {w : World} {mg mb : Str → Option Value} {A : Around} {E : Value → Shared → Prop} {s : Shared} {h g : Heap} {t : Nat} {VV : Vol} {env : Env}
  {H0 hc gc : Heap} {XX : List Addr} {L : Addr} {m cm : Str → Option Value}
theorem law_s8 {Q : Flow → Shared → Prop} {fd row kn x rx : Addr} {i : Int} {lv rv : Value} {lt rt : Tm} (am : Amb A 11 70) (B : Bs w mg mb H0) (EF : EnvF env N_law (cellsFrom (L + 1) N_law []) L) (hfr : A.frames = some [env]) (hf : env.frame = some L)
    (F : Frm ⟨H0, hc, gc, XX⟩ L (cellsFrom (L + 1) N_law []) m cm [(fd, pF w row i)] g h) (c1 : cm "feed" = some (.ref fd)) (i0 : 0 ≤ i) (i1 : i ≤ 60)
    (m1 : m "left" = some lv) (m2 : m "right" = some rv) (m3 : m "known" = some (.ref kn)) (m4 : m "judge" = some (.ref x)) (O : LawOk w H0 g row kn x rx lv rv lt rt)
    (q : ∀ d h' t', LeX XX hc h' → Q (.ret (.bool true)) (upd { s with drawn := d } h' t')) :
    LW w A 8 env Q E (upd s h t) := by
  refine ⟨?_⟩
  obtain ⟨tgt, iter, pos, hst, ⟨np, rfl⟩, ⟨np2, k0, p0, cp, rfl⟩⟩ := law_for w.params
  refine steps hst ?_
  refine wpAny_For ?_ ?_
  · refine callTy B EF F rfl (G0_range _) (by boot_by_name) (spl (eInt fun k1 t1 => spl0 ?_))
    refine mkRange (n := 3) (by rfl) F fun r h1 t2 hr1 F1 => ?_
    refine itRange F1 hr1 (by omega) fun I h2 hI F2 => ?_
    refine for_close (n := 3) (V := VR I 3) F2 (ItR.range am.handled) (fun s' => ∃ d h t, s' = upd { s with drawn := d } h t) ⟨s.drawn, _, _, rfl⟩
      (fun k m' cm' vol' g' => ∃ idx, vol' = [(fd, pF w row idx)] ∧ 0 ≤ idx ∧ idx ≤ 60 + 10 * (k : Int) ∧ cm' = cm ∧ m' "left" = some lv ∧ m' "right" = some rv ∧ m' "known" = some (.ref kn) ∧ m' "judge" = some (.ref x)) ?_ ?_ ?_
    · exact ⟨i, rfl, i0, by omega, rfl, m1, m2, m3, m4⟩
    · rintro k s' m' cm' vol' g' h' t' v ⟨d0, h0, t0, rfl⟩ hk ⟨idx, rfl, j0, j1, rfl, n1, n2, n3, n4⟩ kg FF ⟨tkv, rfl⟩
      refine asgN EF FF rfl fun h3 t3 F3 => ?_
      have F4 := F3.perm (vol' := (fd, pF w row idx) :: VR I 3 (k + 1)) (List.perm_append_singleton _ _).symm
      refine turn_spec am B EF hfr hf F4 j0 (by omega) (O.le kg) n1 n2 n3 n4 c1 fun d h5 t5 m5 g5 idx5 F5 k5 a0 a1 o1 o2 o3 o4 => ?_
      have F6 := F5.perm (vol' := VR I 3 (k + 1) ++ [(fd, pF w row idx5)]) (List.perm_append_singleton _ _)
      exact ⟨_, h5, t5, m5, cm', _, g5, rfl, ⟨d, h0, t0, rfl⟩, F6, k5, idx5, rfl, a0, by omega, rfl, o1, o2, o3, o4⟩
    · rintro s' m' cm' vol' g' h' t' ⟨d0, h0, t0, rfl⟩ Ff kg ⟨idx, rfl, j0, j1, rfl, n1, n2, n3, n4⟩
      refine steps (st := ?st2) ?hs2 ?hx2
      case hs2 => exact rfl
      case hx2 =>
      exact wpAny_Return_some (eBool (q d0 h' t' Ff.old))
  · intro _; rfl
end
section
variable {w : World} {mg mb : Str → Option Value} {A : Around} {E : Value → Shared → Prop} {s : Shared} {h g : Heap} {t : Nat} {VV : Vol} {env : Env}
  {H0 hc gc : Heap} {XX : List Addr} {L : Addr} {m cm : Str → Option Value}
theorem law_body {Q : Flow → Shared → Prop} {sc : Addr} {vs : List Value} {ns : List Int} (am : Amb A 11 70) (B : Bs w mg mb H0) (EF : EnvF env N_law (cellsFrom (L + 1) N_law []) L) (hfr : A.frames = some [env]) (hf : env.frame = some L)
    (hC : ∀ n c, (n, c) ∈ cellsFrom (L + 1) N_law [] → hc.objs.size ≤ c)
    (F : Frm ⟨H0, hc, gc, XX⟩ L (cellsFrom (L + 1) N_law []) m cm [] g h) (m1 : m "script" = some (.ref sc)) (hsc : g.IsList sc vs.toArray) (hI : IntsAre vs ns) (hlen : ns.length ≤ 63)
    (q : ∀ d h' t', LeX XX hc h' → Q (.ret (.bool true)) (upd { s with drawn := d } h' t')) :
    LW w A 0 env Q E (upd s h t) := by
  have S0 := law_s0 (Q := Q) (E := E) (s := s) (t := t) am B EF hC F m1 hsc hI hlen
  refine S0 ?_
  intro fd row nm nv h1 t1 cm1 g1 F1 c1 c2 hr hn hns
  have S1 := law_s1 (Q := Q) (E := E) (s := s) (t := t1) am B EF F1 c1 c2 hr hn hns
  refine S1 ?_
  intro i2 lv lt h2 t2 m2 g2 F2 i20 i21 k2 a1 hl hld hlz
  have S3 := law_s3 (Q := Q) (E := E) (s := s) (t := t2) am B EF F2 c1 (hr.le k2) i20 i21 a1 hl hld
  refine S3 ?_
  intro i3 kn rv rt na nvs h3 t3 m3 g3 F3 i30 i31 k3 b1 b2 b3 b4 hkn hrt hrd hrs hna hnz hnd
  have S6 := law_s6 (Q := Q) (E := E) (s := s) (t := t3) am B EF F3 b1 b2 b3 b4 (hl.le k3) hld hlz hrt hrd hrs hna hnz hnd
  refine S6 ?_
  intro x rx d h4 t4 m4 g4 F4 k4 e1 e2 e3 e4 hJ
  have O : LawOk w H0 g4 row kn x rx lv rv lt rt := ⟨hr.le (k2.trans (k3.trans k4)), hJ, let ⟨vs, a, b⟩ := hkn; ⟨vs, isList_le a k4, b⟩⟩
  have S8 := law_s8 (Q := Q) (E := E) (s := { s with drawn := d }) (t := t4) am B EF hfr hf F4 c1 i30 i31 e1 e2 e3 e4 O
  exact S8 fun d5 h5 t5 k5 => q d5 h5 t5 k5
end
section
variable {w : World} {mg mb : Str → Option Value} {A : Around} {s : Shared} {H0 h g : Heap} {t : Nat} {R : Result → Shared → Prop} {sc : Addr} {vs : List Value} {ns : List Int}
theorem law_spec (am : Amb A 12 80) (hfr : A.frames = some []) (P : Pre w mg mb H0 g h) (hsc : g.IsList sc vs.toArray) (hI : IntsAre vs ns) (hlen : ns.length ≤ 63)
    (q : ∀ d h' t', Le h h' → R (.ok (.ret (.bool true))) (upd { s with drawn := d } h' t')) :
    codeAny (model PR w) A (.call (.ref 287) ⟨[.ref sc], []⟩) R (upd s h t) := by
  refine enterE (binds := ?binds) (names := ?names) (H0 := ?H00) (g := ?gg) (mb := ?mbb) (mg := ?mgg) (vol := ?vol) (X := ?X) ?D ?P ?room ?bind ?kind ?nd ?hvol ?hvap ?H
  case vol => exact []
  case X => exact []
  case D => exact D_law w.params
  case P => exact P
  case room => exact am.room
  case bind => exact A_law _ _
  case kind => rfl
  case nd => decide
  case hvol => simp
  case hvap => simp
  case H =>
  intro env L h₁ t₁ hL EF F hC hf
  have amd : Amb (A.deeper env) 11 70 := am.deeper.mono (by omega) (by omega)
  have hfr' : (A.deeper env).frames = some [env] := Around.frames_deeper hfr
  refine LX.of ?_
  refine LX.whole ?_
  exact law_body amd P.B EF hfr' hf hC F (by rfl) hsc hI hlen fun d h' t' k => q d h' t' k.le
end
end Rg
end
section
/-! the run of the top on a tree -/
open PySem PySem.W PyProof.Rows
set_option autoImplicit false
set_option maxRecDepth 100000
namespace Mine
section
variable {tb : String → Option Builtin} {p : Program} {w : World} {n₀ : Nat} {ann : Option Value}
def topRunT (stp : Program → World → SharedT → Thread → Option (SharedT × Thread)) (p : Program) (w : World) (n₀ : Nat) (ann : Option Value) : Nat → SharedT → Thread → Option SharedT
  | 0, _, _ => none
  | n + 1, s, t => match through t with
    | true => some s
    | false => match stepOk n₀ ann t with
      | false => none
      | true => match stp p w s t with
        | some (s', t') => topRunT stp p w n₀ ann n s' t'
        | none => none
theorem topRun_of : ∀ {n : Nat} {s s' : SharedT} {t : Thread}, topRunT (stepT (denote tb)) p w n₀ ann n s t = some s' → topRun tb p w n₀ ann n s.abs t = some s'.abs
  | 0, _, _, _, h => by cases h
  | n + 1, s, s', t, h => by
    unfold topRunT at h
    unfold topRun
    cases ht : through t with
    | true => rw [ht] at h; cases h; rfl
    | false =>
      rw [ht] at h
      cases hk : stepOk n₀ ann t with
      | false => rw [hk] at h; cases h
      | true =>
        rw [hk] at h
        cases hs : stepT (denote tb) p w s t with
        | none => rw [hs] at h; cases h
        | some r => obtain ⟨s₂, t₂⟩ := r; rw [hs] at h; rw [stepT_spec hs]; exact topRun_of h
end
/-- objects put into a tree, one behind the other -/
def treeOf : List Obj → Nat → BT → Option BT
  | [], _, t => some t
  | o :: r, n, t => match ((t.ins n o).get n).isSome with
    | true => treeOf r (n + 1) (t.ins n o)
    | false => none
theorem treeOf_spec {life : Life} : ∀ {l : List Obj} {n : Nat} {t t' : BT}, treeOf l n t = some t' → absHeap t' (n + l.length) life = l.foldl Heap.push (absHeap t n life)
  | [], _, _, _, h => by cases h; rfl
  | o :: r, n, t, t', h => by
    unfold treeOf at h
    cases g : ((t.ins n o).get n).isSome with
    | false => rw [g] at h; cases h
    | true =>
      rw [g] at h
      have := treeOf_spec (life := life) h
      rw [List.length_cons, show n + (r.length + 1) = n + 1 + r.length by omega, this, absHeap_ins g]
      rfl
theorem push_all {life : Life} : ∀ (l : List Obj) (a : Array Obj), l.foldl Heap.push (⟨a, life⟩ : Heap) = ⟨a ++ l.toArray, life⟩
  | [], a => by simp
  | o :: r, a => by
    rw [List.foldl_cons]
    show r.foldl Heap.push (⟨a.push o, life⟩ : Heap) = _
    rw [push_all r]
    simp
def fromT (s : Shared) : Option SharedT := (treeOf s.heap.objs.toList 0 .nil).map fun t => ⟨t, s.heap.objs.toList.length, s.heap.life, s.gens, s.drawn, s.toks, s.os⟩
theorem fromT_abs {s : Shared} {t : SharedT} (h : fromT s = some t) : t.abs = s := by
  obtain ⟨tr, e1, rfl⟩ := Option.map_eq_some_iff.mp h
  have := treeOf_spec (life := s.heap.life) e1
  rw [Nat.zero_add, show absHeap .nil 0 s.heap.life = (⟨#[], s.heap.life⟩ : Heap) from rfl, push_all] at this
  show (⟨absHeap tr s.heap.objs.toList.length s.heap.life, s.gens, s.drawn, s.toks, s.os⟩ : Shared) = s
  rw [this]
  obtain ⟨⟨objs, life⟩, gens, drawn, toks, os⟩ := s
  simp
def topFromT (stp : Program → World → SharedT → Thread → Option (SharedT × Thread)) (p : Program) (w : World) (N : Nat) (s₀ : Shared) : Option Shared :=
  match s₀.heap.isNs mainGlobals && s₀.gens.size == 0 with
  | true => (fromT s₀).bind fun st => (topRunT stp p w s₀.heap.objs.size (s₀.heap.nsMap mainGlobals "__annotations__") N st (topStub p)).bind fun s₁ =>
      match staticsOk (importedModules p.main.body) s₀.heap s₁.abs.heap && namesBound p s₁.abs.heap && gensDone s₁.abs && laidKept s₀.heap s₁.abs.heap with
      | true => some s₁.abs
      | false => none
  | false => none
theorem topFrom_of {tb : String → Option Builtin} {p : Program} {w : World} {N : Nat} {s₀ s : Shared} (h : topFromT (stepT (denote tb)) p w N s₀ = some s) : topFrom tb p w N s₀ = some s := by
  unfold topFromT at h
  unfold topFrom
  cases e : s₀.heap.isNs mainGlobals && s₀.gens.size == 0 with
  | false => rw [e] at h; cases h
  | true =>
    rw [e] at h
    obtain ⟨st, h1, h⟩ := Option.bind_eq_some_iff.mp h
    obtain ⟨s₁, h2, h⟩ := Option.bind_eq_some_iff.mp h
    have r := topRun_of h2
    rw [fromT_abs h1] at r
    dsimp only
    rw [r]
    exact h
theorem openEnds_of {α : Type} {tb : String → Option Builtin} {p : Program} {w : World} {N : Nat} {f : Shared → α} {r : α} (h : ((fencedOpening tb p w N).bind (topFromT (stepT (denote tb)) p w N)).map f = some r) : (openEnds tb p w N).map f = some r := by
  obtain ⟨s, h1, h2⟩ := Option.map_eq_some_iff.mp h
  obtain ⟨s₀, h3, h4⟩ := Option.bind_eq_some_iff.mp h1
  refine Option.map_eq_some_iff.mpr ⟨s, Option.bind_eq_some_iff.mpr ⟨s₀, h3, topFrom_of h4⟩, h2⟩
end Mine
end
section
/-! the run of the text's top, in one step of the kernel -/
open PySem PySem.W PyProof.Rows
set_option maxRecDepth 100000
namespace Mine.hd
noncomputable abbrev H : Hook := kHook heap_39 adds (fun _ => by kernel_rfl)
set_option maxHeartbeats 8000000 in
theorem left : LeftO PySem.Challenge.pw_rg0114_01 view_39 [] (fun s => xlAt view_39 [] s && recOk (RowW.records (OpenRow.toRowW (OpenLaw.row PySem.Challenge.rw_rg0114_01))) s) (Hook.obs H) (Hook.val H) 4534 true := by
  intro w
  refine openEnds_of ?_
  unfold fencedOpening
  rw [PySem.W.Fast.te10156331382660048174, PySem.W.Fast.te11892475500146522536, PySem.W.Fast.te14364793385576792824, PySem.W.Fast.te4187177175401517315]
  kernel_rfl
set_option maxHeartbeats 8000000 in
theorem said0 : PySem.Challenge.rw_rg0114_01.wellSaid = true := by
  rw [PySem.W.Fast.te9446332074065402090]
  kernel_rfl
end Mine.hd
end
open PySem PySem.W PyProof.Rows
set_option maxRecDepth 100000 in
set_option maxHeartbeats 8000000 in
theorem PySem.Challenge.cw_rg0114_01_holds : PySem.Challenge.rw_rg0114_01.Holds := by
  refine holds_law Mine.hd.said0 fun said => ?_
  refine holds_open (q := Mine.hd.view_39) (loose := []) (Xt := fun s => xlAt Mine.hd.view_39 [] s && recOk (RowW.records (OpenRow.toRowW (OpenLaw.row PySem.Challenge.rw_rg0114_01))) s) (XP := XL Mine.hd.view_39 []) (Yf := Hook.obs Mine.hd.H) (Ya := Hook.val Mine.hd.H) (YP := Hook.says Mine.hd.H) (N := 4534) Mine.hd.left (Hook.of Mine.hd.H) (Hook.keeps Mine.hd.H) (fun s e => xl_of s (Bool.and_eq_true_iff.mp e).1) XL.keeps (by rfl) (by rfl) (by rfl) (fun s e => recFacts_of (Bool.and_eq_true_iff.mp e).2) (by rfl) (by first | assumption | decide +kernel) (by decide +kernel) ⟨rfl, rfl, rfl, rfl, rfl, by decide +kernel⟩ ?hw ?hc
  case hw => exact ⟨[.list [.int 3]], by decide +kernel, by decide +kernel⟩
  case hc =>
  clear said
  intro w s₀ s₁ mg mb G Y fa o pm cd doc dV kV ho hd hcd hD hmg hg args vals as hpre hlay hrd hwl hlo
  have KX := kIn_of Y
  refine Ground.open G ?_
  intro T B D TE TW
  try (refine guard_noD D (by decide +kernel) ?_; clear D)
  wrow_args hpre hlay hrd hwl hlo
  all_goals (first | refine callC_kw (enter_call ?_) | refine enter_call ?_)
  rename_i ns hs hlay0 hL1 hr1 hl2 a4 a3 sc vs a0 hL ra w1 r0 hI hr hc1 hc2
  have hn63 : ns.length ≤ 63 := by omega
  have e287 : mg "law" = some (.ref 287) := mg_of KX T.g (Rg.G_law _)
  have hfa : fa = 287 := by
    have := hmg.symm.trans e287
    injection this with this
    injection this
  subst hfa
  have P : Rg.Pre w mg mb s₁.heap s₁.heap s₁.heap := ⟨⟨KX, topRead_of T⟩, Rg.Le.refl _, Rg.Le.refl _, Nat.le_refl _⟩
  have am : Rg.Amb callerA 12 80 := ⟨rfl, by decide +kernel, by decide +kernel⟩
  show codeAny (model Rg.PR w) callerA _ _ (Rg.upd s₁ s₁.heap s₁.toks)
  refine Rg.law_spec am rfl P hL hI hn63 fun d h' t' k => ?_
  refine GoodW.toG ⟨.inl ⟨.bool true, .bool true, [], rfl, fun cls => rfl, .bool _, ?post, fun _ => ⟨List.nodup_nil, fun a q => by cases q⟩⟩, k, rfl, hg⟩
  case post => first | kc_post | wrow_post
