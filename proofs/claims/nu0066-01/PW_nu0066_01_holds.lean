import PyProof.Rows.All
import Wide.All
import OpenK.AllK
import Wide.FinOn
import Lean
import PySem.Challenge.RW_nu0066_01
set_option Elab.async false
set_option maxRecDepth 100000
set_option maxHeartbeats 4000000
section
open PySem PySem.W PyProof.Rows PySem.Calls
set_option Elab.async false
set_option maxRecDepth 100000
set_option linter.unusedVariables false
namespace Mine

/-- a statement of the top, a method of a class of the top -/
def stAt (i : Nat) : Option Stmt := PySem.Challenge.pw_nu0066_01.main.body[i]?
def meAt (i j : Nat) : Option Stmt := match stAt i with
  | some (.ClassDef _ _ _ body _ _ _ _ _ _ _) => body[j]?
  | _ => none
def bodyOf : Option Stmt → List Stmt
  | some (.FunctionDef _ _ body _ _ _ _ _ _ _) => body
  | _ => []
def scopeIn : Option Stmt → Scope
  | some (.FunctionDef _ _ _ _ _ _ scope _ _ _) => scope
  | _ => default
def parsOf : Option Stmt → Arguments
  | some (.FunctionDef _ args _ _ _ _ _ _ _ _) => args
  | _ => default
def nameOf : Option Stmt → Str
  | some (.FunctionDef name _ _ _ _ _ _ _ _ _) => name
  | _ => default
noncomputable def fnData (st : Option Stmt) (q : Str) (pm : Value) (c : Addr) : FuncData :=
  { name := nameOf st, qualname := q, params := parsOf st, body := .stmts (bodyOf st), scope := scopeIn st, globals := 3, closure := [], defaults := .none, kwdefaults := .none, pyModule := pm, code := .ref c }
noncomputable def fnObj (st : Option Stmt) (q : Str) (pm : Value) (c : Addr) : Obj := { cls := .type "function", data := .func (fnData st q pm c) }
/-- what the walk knows of the heap behind the top -/
noncomputable def KK (P : Params) : Frag := [
  (3, { cls := Value.type "dict", data := Data.dict #[{ hash := PyData.keyHash P (Str.ofString "__name__"), key := Value.str (Str.ofString "__name__") 165, val := Value.str (Str.ofString "law_nu0066_01") 678 }, { hash := PyData.keyHash P (Str.ofString "__doc__"), key := Value.str (Str.ofString "__doc__") 166, val := Value.none }, { hash := PyData.keyHash P (Str.ofString "__package__"), key := Value.str (Str.ofString "__package__") 167, val := Value.none }, { hash := PyData.keyHash P (Str.ofString "__loader__"), key := Value.str (Str.ofString "__loader__") 168, val := Value.builtin "__main__.__loader__#opaque" }, { hash := PyData.keyHash P (Str.ofString "__spec__"), key := Value.str (Str.ofString "__spec__") 169, val := Value.none }, { hash := PyData.keyHash P (Str.ofString "__annotations__"), key := Value.str (Str.ofString "__annotations__") 170, val := Value.ref 6 }, { hash := PyData.keyHash P (Str.ofString "__builtins__"), key := Value.str (Str.ofString "__builtins__") 171, val := Value.ref 4 }, { hash := PyData.keyHash P (Str.ofString "__file__"), key := Value.str (Str.ofString "__file__") 173, val := Value.str (Str.ofString "/claim/cut.py") 172 }, { hash := PyData.keyHash P (Str.ofString "__cached__"), key := Value.str (Str.ofString "__cached__") 174, val := Value.none }, { hash := PyData.keyHash P (Str.ofString "_wall"), key := Value.str (Str.ofString "_wall") 193, val := Value.ref 21 }, { hash := PyData.keyHash P (Str.ofString "MarkupError"), key := Value.str (Str.ofString "MarkupError") 224, val := Value.ref 38 }, { hash := PyData.keyHash P (Str.ofString "TreeFault"), key := Value.str (Str.ofString "TreeFault") 240, val := Value.ref 51 }, { hash := PyData.keyHash P (Str.ofString "XML_URI"), key := Value.str (Str.ofString "XML_URI") 244, val := Value.str (Str.ofString "http://www.w3.org/XML/1998/namespace") 243 }, { hash := PyData.keyHash P (Str.ofString "lines_down"), key := Value.str (Str.ofString "lines_down") 253, val := Value.ref 60 }, { hash := PyData.keyHash P (Str.ofString "beneath"), key := Value.str (Str.ofString "beneath") 264, val := Value.ref 67 }, { hash := PyData.keyHash P (Str.ofString "scope_of"), key := Value.str (Str.ofString "scope_of") 277, val := Value.ref 74 }, { hash := PyData.keyHash P (Str.ofString "PARENTS"), key := Value.str (Str.ofString "PARENTS") 282, val := Value.ref 75 }, { hash := PyData.keyHash P (Str.ofString "CHILDREN"), key := Value.str (Str.ofString "CHILDREN") 287, val := Value.ref 76 }, { hash := PyData.keyHash P (Str.ofString "NodeRow"), key := Value.str (Str.ofString "NodeRow") 329, val := Value.ref 93 }, { hash := PyData.keyHash P (Str.ofString "Tree"), key := Value.str (Str.ofString "Tree") 583, val := Value.ref 282 }, { hash := PyData.keyHash P (Str.ofString "list_above"), key := Value.str (Str.ofString "list_above") 595, val := Value.ref 293 }, { hash := PyData.keyHash P (Str.ofString "remove"), key := Value.str (Str.ofString "remove") 603, val := Value.ref 300 }, { hash := PyData.keyHash P (Str.ofString "check_new_place"), key := Value.str (Str.ofString "check_new_place") 613, val := Value.ref 307 }, { hash := PyData.keyHash P (Str.ofString "insert"), key := Value.str (Str.ofString "insert") 623, val := Value.ref 314 }, { hash := PyData.keyHash P (Str.ofString "move"), key := Value.str (Str.ofString "move") 635, val := Value.ref 321 }, { hash := PyData.keyHash P (Str.ofString "copy_head"), key := Value.str (Str.ofString "copy_head") 648, val := Value.ref 328 }, { hash := PyData.keyHash P (Str.ofString "copy_into"), key := Value.str (Str.ofString "copy_into") 654, val := Value.ref 333 }, { hash := PyData.keyHash P (Str.ofString "bring_names"), key := Value.str (Str.ofString "bring_names") 665, val := Value.ref 340 }, { hash := PyData.keyHash P (Str.ofString "joined_texts"), key := Value.str (Str.ofString "joined_texts") 677, val := Value.ref 347 }, { hash := PyData.keyHash P (Str.ofString "_law_pool"), key := Value.str (Str.ofString "_law_pool") 690, val := Value.ref 354 }, { hash := PyData.keyHash P (Str.ofString "_law_take"), key := Value.str (Str.ofString "_law_take") 699, val := Value.ref 361 }, { hash := PyData.keyHash P (Str.ofString "_law_one"), key := Value.str (Str.ofString "_law_one") 707, val := Value.ref 368 }, { hash := PyData.keyHash P (Str.ofString "_law_made"), key := Value.str (Str.ofString "_law_made") 722, val := Value.ref 375 }, { hash := PyData.keyHash P (Str.ofString "_law_above"), key := Value.str (Str.ofString "_law_above") 728, val := Value.ref 380 }, { hash := PyData.keyHash P (Str.ofString "_law_is_beneath"), key := Value.str (Str.ofString "_law_is_beneath") 737, val := Value.ref 387 }, { hash := PyData.keyHash P (Str.ofString "_law_may_stand"), key := Value.str (Str.ofString "_law_may_stand") 749, val := Value.ref 394 }, { hash := PyData.keyHash P (Str.ofString "_law_edit"), key := Value.str (Str.ofString "_law_edit") 764, val := Value.ref 401 }, { hash := PyData.keyHash P (Str.ofString "_law_done"), key := Value.str (Str.ofString "_law_done") 776, val := Value.ref 408 }, { hash := PyData.keyHash P (Str.ofString "_law_same"), key := Value.str (Str.ofString "_law_same") 785, val := Value.ref 415 }, { hash := PyData.keyHash P (Str.ofString "_law_shape"), key := Value.str (Str.ofString "_law_shape") 791, val := Value.ref 420 }, { hash := PyData.keyHash P (Str.ofString "_law_text"), key := Value.str (Str.ofString "_law_text") 797, val := Value.ref 425 }, { hash := PyData.keyHash P (Str.ofString "_law_copied_right"), key := Value.str (Str.ofString "_law_copied_right") 803, val := Value.ref 430 }, { hash := PyData.keyHash P (Str.ofString "_law_joined_right"), key := Value.str (Str.ofString "_law_joined_right") 809, val := Value.ref 435 }, { hash := PyData.keyHash P (Str.ofString "law"), key := Value.str (Str.ofString "law") 825, val := Value.ref 442 }] 44 }),
  (34, { cls := Value.type "code", data := Data.fields #[Value.str (Str.ofString "__init__") 208, Value.str (Str.ofString "MarkupError.__init__") 209, Value.str (Str.ofString "/claim/cut.py") 210, Value.int 7 0, Value.int 2 0, Value.int 0 0, Value.int 0 0, Value.int 3 0, Value.ref 29, Value.bool true, Value.int 181 0, Value.ref 30, Value.none, Value.ref 31, Value.ref 32, Value.ref 33, Value.int 213 0, Value.int 7 0, Value.str (Str.ofString "/claim/cut.py") 214] }),
  (35, fnObj (meAt 2 0) "MarkupError.__init__" (Value.str (Str.ofString "markupmill.errors") 194) 34),
  (37, { cls := Value.type "dict", data := Data.dict #[{ hash := PyData.keyHash P (Str.ofString "__module__"), key := Value.str (Str.ofString "__module__") 203, val := Value.str (Str.ofString "markupmill.errors") 194 }, { hash := PyData.keyHash P (Str.ofString "__firstlineno__"), key := Value.str (Str.ofString "__firstlineno__") 207, val := Value.int 5 206 }, { hash := PyData.keyHash P (Str.ofString "__init__"), key := Value.str (Str.ofString "__init__") 215, val := Value.ref 35 }, { hash := PyData.keyHash P (Str.ofString "__static_attributes__"), key := Value.str (Str.ofString "__static_attributes__") 217, val := Value.ref 36 }, { hash := PyData.keyHash P (Str.ofString "__weakref__"), key := Value.str (Str.ofString "__weakref__") 219, val := Value.ref 39 }, { hash := PyData.keyHash P (Str.ofString "__doc__"), key := Value.str (Str.ofString "__doc__") 220, val := Value.none }] 3 }),
  (38, { cls := Value.type "type", data := Data.cls { name := Str.ofString "MarkupError", bases := [Value.type "Exception"], mro := [Value.ref 38, Value.type "Exception", Value.type "BaseException", Value.type "object"], ns := 37, qualname := Str.ofString "MarkupError", subclasses := [Value.ref 51] }, slots := #[some (Value.ref 22), none, some (Value.str (Str.ofString "MarkupError") 196), some (Value.str (Str.ofString "MarkupError") 204), some (Value.builtin "Exception.__new__"), some (Value.bool true)] }),
  (50, { cls := Value.type "dict", data := Data.dict #[{ hash := PyData.keyHash P (Str.ofString "__module__"), key := Value.str (Str.ofString "__module__") 232, val := Value.str (Str.ofString "markupmill.errors") 194 }, { hash := PyData.keyHash P (Str.ofString "__firstlineno__"), key := Value.str (Str.ofString "__firstlineno__") 236, val := Value.int 10 235 }, { hash := PyData.keyHash P (Str.ofString "__static_attributes__"), key := Value.str (Str.ofString "__static_attributes__") 237, val := Value.ref 49 }, { hash := PyData.keyHash P (Str.ofString "__doc__"), key := Value.str (Str.ofString "__doc__") 238, val := Value.none }] 2 }),
  (51, { cls := Value.type "type", data := Data.cls { name := Str.ofString "TreeFault", bases := [Value.ref 38], mro := [Value.ref 51, Value.ref 38, Value.type "Exception", Value.type "BaseException", Value.type "object"], ns := 50, qualname := Str.ofString "TreeFault" }, slots := #[some (Value.ref 42), none, some (Value.str (Str.ofString "TreeFault") 225), some (Value.str (Str.ofString "TreeFault") 233), some (Value.builtin "Exception.__new__"), some (Value.bool true)] }),
  (59, { cls := Value.type "code", data := Data.fields #[Value.str (Str.ofString "lines_down") 245, Value.str (Str.ofString "lines_down") 246, Value.str (Str.ofString "/claim/cut.py") 247, Value.int 14 0, Value.int 2 0, Value.int 0 0, Value.int 0 0, Value.int 3 0, Value.ref 54, Value.bool true, Value.int 181 0, Value.ref 55, Value.none, Value.ref 56, Value.ref 57, Value.ref 58, Value.int 251 0, Value.int 14 0, Value.str (Str.ofString "/claim/cut.py") 252] }),
  (60, fnObj (stAt 6) "lines_down" (Value.str (Str.ofString "markupmill.order") 241) 59),
  (66, { cls := Value.type "code", data := Data.fields #[Value.str (Str.ofString "beneath") 254, Value.str (Str.ofString "beneath") 255, Value.str (Str.ofString "/claim/cut.py") 256, Value.int 20 0, Value.int 2 0, Value.int 0 0, Value.int 0 0, Value.int 3 0, Value.ref 61, Value.bool true, Value.int 181 0, Value.ref 62, Value.none, Value.ref 63, Value.ref 64, Value.ref 65, Value.int 262 0, Value.int 20 0, Value.str (Str.ofString "/claim/cut.py") 263] }),
  (67, fnObj (stAt 7) "beneath" (Value.str (Str.ofString "markupmill.order") 241) 66),
  (73, { cls := Value.type "code", data := Data.fields #[Value.str (Str.ofString "scope_of") 265, Value.str (Str.ofString "scope_of") 266, Value.str (Str.ofString "/claim/cut.py") 267, Value.int 28 0, Value.int 2 0, Value.int 0 0, Value.int 0 0, Value.int 3 0, Value.ref 68, Value.bool true, Value.int 181 0, Value.ref 69, Value.none, Value.ref 70, Value.ref 71, Value.ref 72, Value.int 275 0, Value.int 28 0, Value.str (Str.ofString "/claim/cut.py") 276] }),
  (74, fnObj (stAt 8) "scope_of" (Value.str (Str.ofString "markupmill.order") 241) 73),
  (75, { cls := Value.type "tuple", data := Data.seq #[Value.str (Str.ofString "root") 280, Value.str (Str.ofString "element") 281] }),
  (76, { cls := Value.type "tuple", data := Data.seq #[Value.str (Str.ofString "element") 283, Value.str (Str.ofString "text") 284, Value.str (Str.ofString "comment") 285, Value.str (Str.ofString "instruction") 286] }),
  (89, { cls := Value.type "code", data := Data.fields #[Value.str (Str.ofString "__init__") 300, Value.str (Str.ofString "NodeRow.__init__") 301, Value.str (Str.ofString "/claim/cut.py") 302, Value.int 43 0, Value.int 7 0, Value.int 0 0, Value.int 0 0, Value.int 3 0, Value.ref 84, Value.bool true, Value.int 181 0, Value.ref 85, Value.none, Value.ref 86, Value.ref 87, Value.ref 88, Value.int 310 0, Value.int 43 0, Value.str (Str.ofString "/claim/cut.py") 311] }),
  (90, fnObj (meAt 12 0) "NodeRow.__init__" (Value.str (Str.ofString "markupmill.tree") 278) 89),
  (92, { cls := Value.type "dict", data := Data.dict #[{ hash := PyData.keyHash P (Str.ofString "__module__"), key := Value.str (Str.ofString "__module__") 295, val := Value.str (Str.ofString "markupmill.tree") 278 }, { hash := PyData.keyHash P (Str.ofString "__firstlineno__"), key := Value.str (Str.ofString "__firstlineno__") 299, val := Value.int 41 298 }, { hash := PyData.keyHash P (Str.ofString "__init__"), key := Value.str (Str.ofString "__init__") 312, val := Value.ref 90 }, { hash := PyData.keyHash P (Str.ofString "__static_attributes__"), key := Value.str (Str.ofString "__static_attributes__") 322, val := Value.ref 91 }, { hash := PyData.keyHash P (Str.ofString "__dict__"), key := Value.str (Str.ofString "__dict__") 324, val := Value.ref 94 }, { hash := PyData.keyHash P (Str.ofString "__weakref__"), key := Value.str (Str.ofString "__weakref__") 326, val := Value.ref 95 }, { hash := PyData.keyHash P (Str.ofString "__doc__"), key := Value.str (Str.ofString "__doc__") 327, val := Value.none }] 4 }),
  (93, { cls := Value.type "type", data := Data.cls { name := Str.ofString "NodeRow", bases := [Value.type "object"], mro := [Value.ref 93, Value.type "object"], ns := 92, qualname := Str.ofString "NodeRow" }, slots := #[none, none, some (Value.str (Str.ofString "NodeRow") 288), some (Value.str (Str.ofString "NodeRow") 296), some (Value.builtin "object.__new__"), some (Value.bool true)] }),
  (110, { cls := Value.type "code", data := Data.fields #[Value.str (Str.ofString "__init__") 342, Value.str (Str.ofString "Tree.__init__") 343, Value.str (Str.ofString "/claim/cut.py") 344, Value.int 55 0, Value.int 1 0, Value.int 0 0, Value.int 0 0, Value.int 3 0, Value.ref 105, Value.bool true, Value.int 181 0, Value.ref 106, Value.none, Value.ref 107, Value.ref 108, Value.ref 109, Value.int 346 0, Value.int 55 0, Value.str (Str.ofString "/claim/cut.py") 347] }),
  (111, fnObj (meAt 13 0) "Tree.__init__" (Value.str (Str.ofString "markupmill.tree") 278) 110),
  (117, { cls := Value.type "code", data := Data.fields #[Value.str (Str.ofString "new_row") 349, Value.str (Str.ofString "Tree.new_row") 350, Value.str (Str.ofString "/claim/cut.py") 351, Value.int 58 0, Value.int 7 0, Value.int 0 0, Value.int 0 0, Value.int 3 0, Value.ref 112, Value.bool true, Value.int 181 0, Value.ref 113, Value.none, Value.ref 114, Value.ref 115, Value.ref 116, Value.int 359 0, Value.int 58 0, Value.str (Str.ofString "/claim/cut.py") 360] }),
  (118, fnObj (meAt 13 1) "Tree.new_row" (Value.str (Str.ofString "markupmill.tree") 278) 117),
  (124, { cls := Value.type "code", data := Data.fields #[Value.str (Str.ofString "row") 362, Value.str (Str.ofString "Tree.row") 363, Value.str (Str.ofString "/claim/cut.py") 364, Value.int 62 0, Value.int 2 0, Value.int 0 0, Value.int 0 0, Value.int 3 0, Value.ref 119, Value.bool true, Value.int 181 0, Value.ref 120, Value.none, Value.ref 121, Value.ref 122, Value.ref 123, Value.int 367 0, Value.int 62 0, Value.str (Str.ofString "/claim/cut.py") 368] }),
  (125, fnObj (meAt 13 2) "Tree.row" (Value.str (Str.ofString "markupmill.tree") 278) 124),
  (131, { cls := Value.type "code", data := Data.fields #[Value.str (Str.ofString "new_root") 370, Value.str (Str.ofString "Tree.new_root") 371, Value.str (Str.ofString "/claim/cut.py") 372, Value.int 67 0, Value.int 1 0, Value.int 0 0, Value.int 0 0, Value.int 3 0, Value.ref 126, Value.bool true, Value.int 181 0, Value.ref 127, Value.none, Value.ref 128, Value.ref 129, Value.ref 130, Value.int 374 0, Value.int 67 0, Value.str (Str.ofString "/claim/cut.py") 375] }),
  (132, fnObj (meAt 13 3) "Tree.new_root" (Value.str (Str.ofString "markupmill.tree") 278) 131),
  (138, { cls := Value.type "code", data := Data.fields #[Value.str (Str.ofString "add_child") 377, Value.str (Str.ofString "Tree.add_child") 378, Value.str (Str.ofString "/claim/cut.py") 379, Value.int 70 0, Value.int 7 0, Value.int 0 0, Value.int 0 0, Value.int 3 0, Value.ref 133, Value.bool true, Value.int 181 0, Value.ref 134, Value.none, Value.ref 135, Value.ref 136, Value.ref 137, Value.int 388 0, Value.int 70 0, Value.str (Str.ofString "/claim/cut.py") 389] }),
  (139, fnObj (meAt 13 4) "Tree.add_child" (Value.str (Str.ofString "markupmill.tree") 278) 138),
  (145, { cls := Value.type "code", data := Data.fields #[Value.str (Str.ofString "add_element") 391, Value.str (Str.ofString "Tree.add_element") 392, Value.str (Str.ofString "/claim/cut.py") 393, Value.int 78 0, Value.int 5 0, Value.int 0 0, Value.int 0 0, Value.int 3 0, Value.ref 140, Value.bool true, Value.int 181 0, Value.ref 141, Value.none, Value.ref 142, Value.ref 143, Value.ref 144, Value.int 399 0, Value.int 78 0, Value.str (Str.ofString "/claim/cut.py") 400] }),
  (146, fnObj (meAt 13 5) "Tree.add_element" (Value.str (Str.ofString "markupmill.tree") 278) 145),
  (152, { cls := Value.type "code", data := Data.fields #[Value.str (Str.ofString "add_text") 402, Value.str (Str.ofString "Tree.add_text") 403, Value.str (Str.ofString "/claim/cut.py") 404, Value.int 81 0, Value.int 3 0, Value.int 0 0, Value.int 0 0, Value.int 3 0, Value.ref 147, Value.bool true, Value.int 181 0, Value.ref 148, Value.none, Value.ref 149, Value.ref 150, Value.ref 151, Value.int 408 0, Value.int 81 0, Value.str (Str.ofString "/claim/cut.py") 409] }),
  (153, fnObj (meAt 13 6) "Tree.add_text" (Value.str (Str.ofString "markupmill.tree") 278) 152),
  (194, { cls := Value.type "code", data := Data.fields #[Value.str (Str.ofString "set_value") 466, Value.str (Str.ofString "Tree.set_value") 467, Value.str (Str.ofString "/claim/cut.py") 468, Value.int 118 0, Value.int 3 0, Value.int 0 0, Value.int 0 0, Value.int 3 0, Value.ref 189, Value.bool true, Value.int 181 0, Value.ref 190, Value.none, Value.ref 191, Value.ref 192, Value.ref 193, Value.int 473 0, Value.int 118 0, Value.str (Str.ofString "/claim/cut.py") 474] }),
  (195, fnObj (meAt 13 12) "Tree.set_value" (Value.str (Str.ofString "markupmill.tree") 278) 194),
  (201, { cls := Value.type "code", data := Data.fields #[Value.str (Str.ofString "kind") 476, Value.str (Str.ofString "Tree.kind") 477, Value.str (Str.ofString "/claim/cut.py") 478, Value.int 124 0, Value.int 2 0, Value.int 0 0, Value.int 0 0, Value.int 3 0, Value.ref 196, Value.bool true, Value.int 181 0, Value.ref 197, Value.none, Value.ref 198, Value.ref 199, Value.ref 200, Value.int 481 0, Value.int 124 0, Value.str (Str.ofString "/claim/cut.py") 482] }),
  (202, fnObj (meAt 13 13) "Tree.kind" (Value.str (Str.ofString "markupmill.tree") 278) 201),
  (208, { cls := Value.type "code", data := Data.fields #[Value.str (Str.ofString "name") 484, Value.str (Str.ofString "Tree.name") 485, Value.str (Str.ofString "/claim/cut.py") 486, Value.int 127 0, Value.int 2 0, Value.int 0 0, Value.int 0 0, Value.int 3 0, Value.ref 203, Value.bool true, Value.int 181 0, Value.ref 204, Value.none, Value.ref 205, Value.ref 206, Value.ref 207, Value.int 489 0, Value.int 127 0, Value.str (Str.ofString "/claim/cut.py") 490] }),
  (209, fnObj (meAt 13 14) "Tree.name" (Value.str (Str.ofString "markupmill.tree") 278) 208),
  (215, { cls := Value.type "code", data := Data.fields #[Value.str (Str.ofString "uri") 492, Value.str (Str.ofString "Tree.uri") 493, Value.str (Str.ofString "/claim/cut.py") 494, Value.int 130 0, Value.int 2 0, Value.int 0 0, Value.int 0 0, Value.int 3 0, Value.ref 210, Value.bool true, Value.int 181 0, Value.ref 211, Value.none, Value.ref 212, Value.ref 213, Value.ref 214, Value.int 497 0, Value.int 130 0, Value.str (Str.ofString "/claim/cut.py") 498] }),
  (216, fnObj (meAt 13 15) "Tree.uri" (Value.str (Str.ofString "markupmill.tree") 278) 215),
  (222, { cls := Value.type "code", data := Data.fields #[Value.str (Str.ofString "local") 500, Value.str (Str.ofString "Tree.local") 501, Value.str (Str.ofString "/claim/cut.py") 502, Value.int 133 0, Value.int 2 0, Value.int 0 0, Value.int 0 0, Value.int 3 0, Value.ref 217, Value.bool true, Value.int 181 0, Value.ref 218, Value.none, Value.ref 219, Value.ref 220, Value.ref 221, Value.int 505 0, Value.int 133 0, Value.str (Str.ofString "/claim/cut.py") 506] }),
  (223, fnObj (meAt 13 16) "Tree.local" (Value.str (Str.ofString "markupmill.tree") 278) 222),
  (229, { cls := Value.type "code", data := Data.fields #[Value.str (Str.ofString "value") 508, Value.str (Str.ofString "Tree.value") 509, Value.str (Str.ofString "/claim/cut.py") 510, Value.int 136 0, Value.int 2 0, Value.int 0 0, Value.int 0 0, Value.int 3 0, Value.ref 224, Value.bool true, Value.int 181 0, Value.ref 225, Value.none, Value.ref 226, Value.ref 227, Value.ref 228, Value.int 513 0, Value.int 136 0, Value.str (Str.ofString "/claim/cut.py") 514] }),
  (230, fnObj (meAt 13 17) "Tree.value" (Value.str (Str.ofString "markupmill.tree") 278) 229),
  (236, { cls := Value.type "code", data := Data.fields #[Value.str (Str.ofString "parent") 516, Value.str (Str.ofString "Tree.parent") 517, Value.str (Str.ofString "/claim/cut.py") 518, Value.int 139 0, Value.int 2 0, Value.int 0 0, Value.int 0 0, Value.int 3 0, Value.ref 231, Value.bool true, Value.int 181 0, Value.ref 232, Value.none, Value.ref 233, Value.ref 234, Value.ref 235, Value.int 521 0, Value.int 139 0, Value.str (Str.ofString "/claim/cut.py") 522] }),
  (237, fnObj (meAt 13 18) "Tree.parent" (Value.str (Str.ofString "markupmill.tree") 278) 236),
  (243, { cls := Value.type "code", data := Data.fields #[Value.str (Str.ofString "children") 524, Value.str (Str.ofString "Tree.children") 525, Value.str (Str.ofString "/claim/cut.py") 526, Value.int 142 0, Value.int 2 0, Value.int 0 0, Value.int 0 0, Value.int 3 0, Value.ref 238, Value.bool true, Value.int 181 0, Value.ref 239, Value.none, Value.ref 240, Value.ref 241, Value.ref 242, Value.int 529 0, Value.int 142 0, Value.str (Str.ofString "/claim/cut.py") 530] }),
  (244, fnObj (meAt 13 19) "Tree.children" (Value.str (Str.ofString "markupmill.tree") 278) 243),
  (257, { cls := Value.type "code", data := Data.fields #[Value.str (Str.ofString "namespaces") 540, Value.str (Str.ofString "Tree.namespaces") 541, Value.str (Str.ofString "/claim/cut.py") 542, Value.int 148 0, Value.int 2 0, Value.int 0 0, Value.int 0 0, Value.int 3 0, Value.ref 252, Value.bool true, Value.int 181 0, Value.ref 253, Value.none, Value.ref 254, Value.ref 255, Value.ref 256, Value.int 545 0, Value.int 148 0, Value.str (Str.ofString "/claim/cut.py") 546] }),
  (258, fnObj (meAt 13 21) "Tree.namespaces" (Value.str (Str.ofString "markupmill.tree") 278) 257),
  (271, { cls := Value.type "code", data := Data.fields #[Value.str (Str.ofString "is_above") 556, Value.str (Str.ofString "Tree.is_above") 557, Value.str (Str.ofString "/claim/cut.py") 558, Value.int 154 0, Value.int 3 0, Value.int 0 0, Value.int 0 0, Value.int 3 0, Value.ref 266, Value.bool true, Value.int 181 0, Value.ref 267, Value.none, Value.ref 268, Value.ref 269, Value.ref 270, Value.int 562 0, Value.int 154 0, Value.str (Str.ofString "/claim/cut.py") 563] }),
  (272, fnObj (meAt 13 23) "Tree.is_above" (Value.str (Str.ofString "markupmill.tree") 278) 271),
  (281, { cls := Value.type "dict", data := Data.dict #[{ hash := PyData.keyHash P (Str.ofString "__module__"), key := Value.str (Str.ofString "__module__") 337, val := Value.str (Str.ofString "markupmill.tree") 278 }, { hash := PyData.keyHash P (Str.ofString "__firstlineno__"), key := Value.str (Str.ofString "__firstlineno__") 341, val := Value.int 53 340 }, { hash := PyData.keyHash P (Str.ofString "__init__"), key := Value.str (Str.ofString "__init__") 348, val := Value.ref 111 }, { hash := PyData.keyHash P (Str.ofString "new_row"), key := Value.str (Str.ofString "new_row") 361, val := Value.ref 118 }, { hash := PyData.keyHash P (Str.ofString "row"), key := Value.str (Str.ofString "row") 369, val := Value.ref 125 }, { hash := PyData.keyHash P (Str.ofString "new_root"), key := Value.str (Str.ofString "new_root") 376, val := Value.ref 132 }, { hash := PyData.keyHash P (Str.ofString "add_child"), key := Value.str (Str.ofString "add_child") 390, val := Value.ref 139 }, { hash := PyData.keyHash P (Str.ofString "add_element"), key := Value.str (Str.ofString "add_element") 401, val := Value.ref 146 }, { hash := PyData.keyHash P (Str.ofString "add_text"), key := Value.str (Str.ofString "add_text") 410, val := Value.ref 153 }, { hash := PyData.keyHash P (Str.ofString "add_comment"), key := Value.str (Str.ofString "add_comment") 419, val := Value.ref 160 }, { hash := PyData.keyHash P (Str.ofString "add_instruction"), key := Value.str (Str.ofString "add_instruction") 429, val := Value.ref 167 }, { hash := PyData.keyHash P (Str.ofString "element_row"), key := Value.str (Str.ofString "element_row") 438, val := Value.ref 174 }, { hash := PyData.keyHash P (Str.ofString "set_attribute"), key := Value.str (Str.ofString "set_attribute") 453, val := Value.ref 181 }, { hash := PyData.keyHash P (Str.ofString "add_namespace"), key := Value.str (Str.ofString "add_namespace") 465, val := Value.ref 188 }, { hash := PyData.keyHash P (Str.ofString "set_value"), key := Value.str (Str.ofString "set_value") 475, val := Value.ref 195 }, { hash := PyData.keyHash P (Str.ofString "kind"), key := Value.str (Str.ofString "kind") 483, val := Value.ref 202 }, { hash := PyData.keyHash P (Str.ofString "name"), key := Value.str (Str.ofString "name") 491, val := Value.ref 209 }, { hash := PyData.keyHash P (Str.ofString "uri"), key := Value.str (Str.ofString "uri") 499, val := Value.ref 216 }, { hash := PyData.keyHash P (Str.ofString "local"), key := Value.str (Str.ofString "local") 507, val := Value.ref 223 }, { hash := PyData.keyHash P (Str.ofString "value"), key := Value.str (Str.ofString "value") 515, val := Value.ref 230 }, { hash := PyData.keyHash P (Str.ofString "parent"), key := Value.str (Str.ofString "parent") 523, val := Value.ref 237 }, { hash := PyData.keyHash P (Str.ofString "children"), key := Value.str (Str.ofString "children") 531, val := Value.ref 244 }, { hash := PyData.keyHash P (Str.ofString "attributes"), key := Value.str (Str.ofString "attributes") 539, val := Value.ref 251 }, { hash := PyData.keyHash P (Str.ofString "namespaces"), key := Value.str (Str.ofString "namespaces") 547, val := Value.ref 258 }, { hash := PyData.keyHash P (Str.ofString "root_of"), key := Value.str (Str.ofString "root_of") 555, val := Value.ref 265 }, { hash := PyData.keyHash P (Str.ofString "is_above"), key := Value.str (Str.ofString "is_above") 564, val := Value.ref 272 }, { hash := PyData.keyHash P (Str.ofString "attribute_value"), key := Value.str (Str.ofString "attribute_value") 574, val := Value.ref 279 }, { hash := PyData.keyHash P (Str.ofString "__static_attributes__"), key := Value.str (Str.ofString "__static_attributes__") 576, val := Value.ref 280 }, { hash := PyData.keyHash P (Str.ofString "__dict__"), key := Value.str (Str.ofString "__dict__") 578, val := Value.ref 283 }, { hash := PyData.keyHash P (Str.ofString "__weakref__"), key := Value.str (Str.ofString "__weakref__") 580, val := Value.ref 284 }, { hash := PyData.keyHash P (Str.ofString "__doc__"), key := Value.str (Str.ofString "__doc__") 581, val := Value.none }] 4 }),
  (282, { cls := Value.type "type", data := Data.cls { name := Str.ofString "Tree", bases := [Value.type "object"], mro := [Value.ref 282, Value.type "object"], ns := 281, qualname := Str.ofString "Tree" }, slots := #[none, none, some (Value.str (Str.ofString "Tree") 330), some (Value.str (Str.ofString "Tree") 338), some (Value.builtin "object.__new__"), some (Value.bool true)] }),
  (292, { cls := Value.type "code", data := Data.fields #[Value.str (Str.ofString "list_above") 586, Value.str (Str.ofString "list_above") 587, Value.str (Str.ofString "/claim/cut.py") 588, Value.int 164 0, Value.int 2 0, Value.int 0 0, Value.int 0 0, Value.int 3 0, Value.ref 287, Value.bool true, Value.int 181 0, Value.ref 288, Value.none, Value.ref 289, Value.ref 290, Value.ref 291, Value.int 593 0, Value.int 164 0, Value.str (Str.ofString "/claim/cut.py") 594] }),
  (293, fnObj (stAt 15) "list_above" (Value.str (Str.ofString "markupmill.edits") 584) 292),
  (299, { cls := Value.type "code", data := Data.fields #[Value.str (Str.ofString "remove") 596, Value.str (Str.ofString "remove") 597, Value.str (Str.ofString "/claim/cut.py") 598, Value.int 170 0, Value.int 2 0, Value.int 0 0, Value.int 0 0, Value.int 3 0, Value.ref 294, Value.bool true, Value.int 181 0, Value.ref 295, Value.none, Value.ref 296, Value.ref 297, Value.ref 298, Value.int 601 0, Value.int 170 0, Value.str (Str.ofString "/claim/cut.py") 602] }),
  (300, fnObj (stAt 16) "remove" (Value.str (Str.ofString "markupmill.edits") 584) 299),
  (306, { cls := Value.type "code", data := Data.fields #[Value.str (Str.ofString "check_new_place") 604, Value.str (Str.ofString "check_new_place") 605, Value.str (Str.ofString "/claim/cut.py") 606, Value.int 175 0, Value.int 4 0, Value.int 0 0, Value.int 0 0, Value.int 3 0, Value.ref 301, Value.bool true, Value.int 181 0, Value.ref 302, Value.none, Value.ref 303, Value.ref 304, Value.ref 305, Value.int 611 0, Value.int 175 0, Value.str (Str.ofString "/claim/cut.py") 612] }),
  (307, fnObj (stAt 17) "check_new_place" (Value.str (Str.ofString "markupmill.edits") 584) 306),
  (313, { cls := Value.type "code", data := Data.fields #[Value.str (Str.ofString "insert") 614, Value.str (Str.ofString "insert") 615, Value.str (Str.ofString "/claim/cut.py") 616, Value.int 182 0, Value.int 4 0, Value.int 0 0, Value.int 0 0, Value.int 3 0, Value.ref 308, Value.bool true, Value.int 181 0, Value.ref 309, Value.none, Value.ref 310, Value.ref 311, Value.ref 312, Value.int 621 0, Value.int 182 0, Value.str (Str.ofString "/claim/cut.py") 622] }),
  (314, fnObj (stAt 18) "insert" (Value.str (Str.ofString "markupmill.edits") 584) 313),
  (320, { cls := Value.type "code", data := Data.fields #[Value.str (Str.ofString "move") 624, Value.str (Str.ofString "move") 625, Value.str (Str.ofString "/claim/cut.py") 626, Value.int 188 0, Value.int 4 0, Value.int 0 0, Value.int 0 0, Value.int 3 0, Value.ref 315, Value.bool true, Value.int 181 0, Value.ref 316, Value.none, Value.ref 317, Value.ref 318, Value.ref 319, Value.int 633 0, Value.int 188 0, Value.str (Str.ofString "/claim/cut.py") 634] }),
  (321, fnObj (stAt 19) "move" (Value.str (Str.ofString "markupmill.edits") 584) 320),
  (327, { cls := Value.type "code", data := Data.fields #[Value.str (Str.ofString "copy_head") 636, Value.str (Str.ofString "copy_head") 637, Value.str (Str.ofString "/claim/cut.py") 638, Value.int 198 0, Value.int 3 0, Value.int 0 0, Value.int 0 0, Value.int 3 0, Value.ref 322, Value.bool true, Value.int 181 0, Value.ref 323, Value.none, Value.ref 324, Value.ref 325, Value.ref 326, Value.int 646 0, Value.int 198 0, Value.str (Str.ofString "/claim/cut.py") 647] }),
  (328, fnObj (stAt 20) "copy_head" (Value.str (Str.ofString "markupmill.edits") 584) 327),
  (332, { cls := Value.type "code", data := Data.fields #[Value.str (Str.ofString "copy_into") 649, Value.str (Str.ofString "copy_into") 650, Value.str (Str.ofString "/claim/cut.py") 651, Value.int 207 0, Value.int 3 0, Value.int 0 0, Value.int 0 0, Value.int 3 0, Value.ref 329, Value.bool true, Value.int 181 0, Value.ref 330, Value.none, Value.none, Value.none, Value.ref 331, Value.int 652 0, Value.int 207 0, Value.str (Str.ofString "/claim/cut.py") 653] }),
  (333, fnObj (stAt 21) "copy_into" (Value.str (Str.ofString "markupmill.edits") 584) 332),
  (339, { cls := Value.type "code", data := Data.fields #[Value.str (Str.ofString "bring_names") 655, Value.str (Str.ofString "bring_names") 656, Value.str (Str.ofString "/claim/cut.py") 657, Value.int 228 0, Value.int 3 0, Value.int 0 0, Value.int 0 0, Value.int 3 0, Value.ref 334, Value.bool true, Value.int 181 0, Value.ref 335, Value.none, Value.ref 336, Value.ref 337, Value.ref 338, Value.int 663 0, Value.int 228 0, Value.str (Str.ofString "/claim/cut.py") 664] }),
  (340, fnObj (stAt 22) "bring_names" (Value.str (Str.ofString "markupmill.edits") 584) 339),
  (346, { cls := Value.type "code", data := Data.fields #[Value.str (Str.ofString "joined_texts") 666, Value.str (Str.ofString "joined_texts") 667, Value.str (Str.ofString "/claim/cut.py") 668, Value.int 235 0, Value.int 2 0, Value.int 0 0, Value.int 0 0, Value.int 3 0, Value.ref 341, Value.bool true, Value.int 181 0, Value.ref 342, Value.none, Value.ref 343, Value.ref 344, Value.ref 345, Value.int 675 0, Value.int 235 0, Value.str (Str.ofString "/claim/cut.py") 676] }),
  (347, fnObj (stAt 23) "joined_texts" (Value.str (Str.ofString "markupmill.edits") 584) 346),
  (353, { cls := Value.type "code", data := Data.fields #[Value.str (Str.ofString "_law_pool") 680, Value.str (Str.ofString "_law_pool") 681, Value.str (Str.ofString "/claim/cut.py") 682, Value.int 252 0, Value.int 2 0, Value.int 0 0, Value.int 0 0, Value.int 3 0, Value.ref 348, Value.bool true, Value.int 181 0, Value.ref 349, Value.none, Value.ref 350, Value.ref 351, Value.ref 352, Value.int 688 0, Value.int 252 0, Value.str (Str.ofString "/claim/cut.py") 689] }),
  (354, fnObj (stAt 25) "_law_pool" (Value.str (Str.ofString "law_nu0066_01") 678) 353),
  (360, { cls := Value.type "code", data := Data.fields #[Value.str (Str.ofString "_law_take") 691, Value.str (Str.ofString "_law_take") 692, Value.str (Str.ofString "/claim/cut.py") 693, Value.int 259 0, Value.int 2 0, Value.int 0 0, Value.int 0 0, Value.int 3 0, Value.ref 355, Value.bool true, Value.int 181 0, Value.ref 356, Value.none, Value.ref 357, Value.ref 358, Value.ref 359, Value.int 697 0, Value.int 259 0, Value.str (Str.ofString "/claim/cut.py") 698] }),
  (361, fnObj (stAt 26) "_law_take" (Value.str (Str.ofString "law_nu0066_01") 678) 360),
  (367, { cls := Value.type "code", data := Data.fields #[Value.str (Str.ofString "_law_one") 700, Value.str (Str.ofString "_law_one") 701, Value.str (Str.ofString "/claim/cut.py") 702, Value.int 266 0, Value.int 2 0, Value.int 0 0, Value.int 0 0, Value.int 3 0, Value.ref 362, Value.bool true, Value.int 181 0, Value.ref 363, Value.none, Value.ref 364, Value.ref 365, Value.ref 366, Value.int 705 0, Value.int 266 0, Value.str (Str.ofString "/claim/cut.py") 706] }),
  (368, fnObj (stAt 27) "_law_one" (Value.str (Str.ofString "law_nu0066_01") 678) 367),
  (374, { cls := Value.type "code", data := Data.fields #[Value.str (Str.ofString "_law_made") 708, Value.str (Str.ofString "_law_made") 709, Value.str (Str.ofString "/claim/cut.py") 710, Value.int 268 0, Value.int 3 0, Value.int 0 0, Value.int 0 0, Value.int 3 0, Value.ref 369, Value.bool true, Value.int 181 0, Value.ref 370, Value.none, Value.ref 371, Value.ref 372, Value.ref 373, Value.int 720 0, Value.int 268 0, Value.str (Str.ofString "/claim/cut.py") 721] }),
  (375, fnObj (stAt 28) "_law_made" (Value.str (Str.ofString "law_nu0066_01") 678) 374),
  (379, { cls := Value.type "code", data := Data.fields #[Value.str (Str.ofString "_law_above") 723, Value.str (Str.ofString "_law_above") 724, Value.str (Str.ofString "/claim/cut.py") 725, Value.int 285 0, Value.int 2 0, Value.int 0 0, Value.int 0 0, Value.int 3 0, Value.ref 376, Value.bool true, Value.int 181 0, Value.ref 377, Value.none, Value.none, Value.none, Value.ref 378, Value.int 726 0, Value.int 285 0, Value.str (Str.ofString "/claim/cut.py") 727] }),
  (380, fnObj (stAt 29) "_law_above" (Value.str (Str.ofString "law_nu0066_01") 678) 379),
  (386, { cls := Value.type "code", data := Data.fields #[Value.str (Str.ofString "_law_is_beneath") 729, Value.str (Str.ofString "_law_is_beneath") 730, Value.str (Str.ofString "/claim/cut.py") 731, Value.int 288 0, Value.int 3 0, Value.int 0 0, Value.int 0 0, Value.int 3 0, Value.ref 381, Value.bool true, Value.int 181 0, Value.ref 382, Value.none, Value.ref 383, Value.ref 384, Value.ref 385, Value.int 735 0, Value.int 288 0, Value.str (Str.ofString "/claim/cut.py") 736] }),
  (387, fnObj (stAt 30) "_law_is_beneath" (Value.str (Str.ofString "law_nu0066_01") 678) 386),
  (393, { cls := Value.type "code", data := Data.fields #[Value.str (Str.ofString "_law_may_stand") 738, Value.str (Str.ofString "_law_may_stand") 739, Value.str (Str.ofString "/claim/cut.py") 740, Value.int 294 0, Value.int 6 0, Value.int 0 0, Value.int 0 0, Value.int 3 0, Value.ref 388, Value.bool true, Value.int 181 0, Value.ref 389, Value.none, Value.ref 390, Value.ref 391, Value.ref 392, Value.int 747 0, Value.int 294 0, Value.str (Str.ofString "/claim/cut.py") 748] }),
  (394, fnObj (stAt 31) "_law_may_stand" (Value.str (Str.ofString "law_nu0066_01") 678) 393),
  (400, { cls := Value.type "code", data := Data.fields #[Value.str (Str.ofString "_law_edit") 750, Value.str (Str.ofString "_law_edit") 751, Value.str (Str.ofString "/claim/cut.py") 752, Value.int 298 0, Value.int 4 0, Value.int 0 0, Value.int 0 0, Value.int 3 0, Value.ref 395, Value.bool true, Value.int 181 0, Value.ref 396, Value.none, Value.ref 397, Value.ref 398, Value.ref 399, Value.int 762 0, Value.int 298 0, Value.str (Str.ofString "/claim/cut.py") 763] }),
  (401, fnObj (stAt 32) "_law_edit" (Value.str (Str.ofString "law_nu0066_01") 678) 400),
  (407, { cls := Value.type "code", data := Data.fields #[Value.str (Str.ofString "_law_done") 765, Value.str (Str.ofString "_law_done") 766, Value.str (Str.ofString "/claim/cut.py") 767, Value.int 315 0, Value.int 3 0, Value.int 0 0, Value.int 0 0, Value.int 3 0, Value.ref 402, Value.bool true, Value.int 181 0, Value.ref 403, Value.none, Value.ref 404, Value.ref 405, Value.ref 406, Value.int 774 0, Value.int 315 0, Value.str (Str.ofString "/claim/cut.py") 775] }),
  (408, fnObj (stAt 33) "_law_done" (Value.str (Str.ofString "law_nu0066_01") 678) 407),
  (414, { cls := Value.type "code", data := Data.fields #[Value.str (Str.ofString "_law_same") 777, Value.str (Str.ofString "_law_same") 778, Value.str (Str.ofString "/claim/cut.py") 779, Value.int 327 0, Value.int 2 0, Value.int 0 0, Value.int 0 0, Value.int 3 0, Value.ref 409, Value.bool true, Value.int 181 0, Value.ref 410, Value.none, Value.ref 411, Value.ref 412, Value.ref 413, Value.int 783 0, Value.int 327 0, Value.str (Str.ofString "/claim/cut.py") 784] }),
  (415, fnObj (stAt 34) "_law_same" (Value.str (Str.ofString "law_nu0066_01") 678) 414),
  (419, { cls := Value.type "code", data := Data.fields #[Value.str (Str.ofString "_law_shape") 786, Value.str (Str.ofString "_law_shape") 787, Value.str (Str.ofString "/claim/cut.py") 788, Value.int 332 0, Value.int 2 0, Value.int 0 0, Value.int 0 0, Value.int 3 0, Value.ref 416, Value.bool true, Value.int 181 0, Value.ref 417, Value.none, Value.none, Value.none, Value.ref 418, Value.int 789 0, Value.int 332 0, Value.str (Str.ofString "/claim/cut.py") 790] }),
  (420, fnObj (stAt 35) "_law_shape" (Value.str (Str.ofString "law_nu0066_01") 678) 419),
  (424, { cls := Value.type "code", data := Data.fields #[Value.str (Str.ofString "_law_text") 792, Value.str (Str.ofString "_law_text") 793, Value.str (Str.ofString "/claim/cut.py") 794, Value.int 335 0, Value.int 2 0, Value.int 0 0, Value.int 0 0, Value.int 3 0, Value.ref 421, Value.bool true, Value.int 181 0, Value.ref 422, Value.none, Value.none, Value.none, Value.ref 423, Value.int 795 0, Value.int 335 0, Value.str (Str.ofString "/claim/cut.py") 796] }),
  (425, fnObj (stAt 36) "_law_text" (Value.str (Str.ofString "law_nu0066_01") 678) 424),
  (429, { cls := Value.type "code", data := Data.fields #[Value.str (Str.ofString "_law_copied_right") 798, Value.str (Str.ofString "_law_copied_right") 799, Value.str (Str.ofString "/claim/cut.py") 800, Value.int 337 0, Value.int 3 0, Value.int 0 0, Value.int 0 0, Value.int 3 0, Value.ref 426, Value.bool true, Value.int 181 0, Value.ref 427, Value.none, Value.none, Value.none, Value.ref 428, Value.int 801 0, Value.int 337 0, Value.str (Str.ofString "/claim/cut.py") 802] }),
  (430, fnObj (stAt 37) "_law_copied_right" (Value.str (Str.ofString "law_nu0066_01") 678) 429),
  (434, { cls := Value.type "code", data := Data.fields #[Value.str (Str.ofString "_law_joined_right") 804, Value.str (Str.ofString "_law_joined_right") 805, Value.str (Str.ofString "/claim/cut.py") 806, Value.int 347 0, Value.int 2 0, Value.int 0 0, Value.int 0 0, Value.int 3 0, Value.ref 431, Value.bool true, Value.int 181 0, Value.ref 432, Value.none, Value.none, Value.none, Value.ref 433, Value.int 807 0, Value.int 347 0, Value.str (Str.ofString "/claim/cut.py") 808] }),
  (435, fnObj (stAt 38) "_law_joined_right" (Value.str (Str.ofString "law_nu0066_01") 678) 434),
  (441, { cls := Value.type "code", data := Data.fields #[Value.str (Str.ofString "law") 810, Value.str (Str.ofString "law") 811, Value.str (Str.ofString "/claim/cut.py") 812, Value.int 360 0, Value.int 1 0, Value.int 0 0, Value.int 0 0, Value.int 3 0, Value.ref 436, Value.bool true, Value.int 181 0, Value.ref 437, Value.none, Value.ref 438, Value.ref 439, Value.ref 440, Value.int 823 0, Value.int 360 0, Value.str (Str.ofString "/claim/cut.py") 824] }),
  (442, fnObj (stAt 39) "law" (Value.str (Str.ofString "law_nu0066_01") 678) 441)
]
end Mine

end

section
open PySem PySem.W PyProof.Rows PySem.Calls
set_option Elab.async false
set_option maxRecDepth 100000
namespace Mine
/-- the text's last statement alone -/
noncomputable def qv : Program := { PySem.Challenge.pw_nu0066_01 with main := { PySem.Challenge.pw_nu0066_01.main with body := (stAt 39).toList } }
noncomputable def lo : List Str := [("_wall" : Str), ("MarkupError" : Str), ("TreeFault" : Str), ("XML_URI" : Str), ("lines_down" : Str), ("beneath" : Str), ("scope_of" : Str), ("PARENTS" : Str), ("CHILDREN" : Str), ("NodeRow" : Str), ("Tree" : Str), ("list_above" : Str), ("remove" : Str), ("check_new_place" : Str), ("insert" : Str), ("move" : Str), ("copy_head" : Str), ("copy_into" : Str), ("bring_names" : Str), ("joined_texts" : Str), ("_law_pool" : Str), ("_law_take" : Str), ("_law_one" : Str), ("_law_made" : Str), ("_law_above" : Str), ("_law_is_beneath" : Str), ("_law_may_stand" : Str), ("_law_edit" : Str), ("_law_done" : Str), ("_law_same" : Str), ("_law_shape" : Str), ("_law_text" : Str), ("_law_copied_right" : Str), ("_law_joined_right" : Str)]
noncomputable def adK : List Addr := [3, 34, 35, 37, 38, 50, 51, 59, 60, 66, 67, 73, 74, 75, 76, 89, 90, 92, 93, 110, 111, 117, 118, 124, 125, 131, 132, 138, 139, 145, 146, 152, 153, 194, 195, 201, 202, 208, 209, 215, 216, 222, 223, 229, 230, 236, 237, 243, 244, 257, 258, 271, 272, 281, 282, 292, 293, 299, 300, 306, 307, 313, 314, 320, 321, 327, 328, 332, 333, 339, 340, 346, 347, 353, 354, 360, 361, 367, 368, 374, 375, 379, 380, 386, 387, 393, 394, 400, 401, 407, 408, 414, 415, 419, 420, 424, 425, 429, 430, 434, 435, 441, 442]
theorem adK_ok (P : Params) : adK = (KK P).map (·.1) := by kernel_rfl
/-- the top run once, in every world: the library's quick twins of its own functions, the program as it stands -/
theorem left : LeftO PySem.Challenge.pw_nu0066_01 qv lo (fun _ => true) (fun s => adK.map s.heap.get?) (fun w => (KK w.params).map fun p => some p.2) 5448 := by
  intro w
  delta openEnds fencedOpening topFrom
  rw [PySem.W.Fast.te14082659384304107361, PySem.W.Fast.te5923862056798008813, PySem.W.Fast.te14364793385576792824, PySem.W.Fast.te10274390034422433532, PySem.W.Fast.te14289696077712309145, PySem.W.Fast.te1435165496053646825, PySem.W.Fast.te4187177175401517315]
  kernel_rfl
end Mine

end

section
open PySem PySem.W PyProof.Rows PySem.Calls
set_option Elab.async false
set_option maxRecDepth 100000
namespace Mine

/-- abstract values: tokens forgotten -/
inductive AV where
  | none | bool (b : Bool) | int (i : Int) | str (s : Str) | ref (a : Addr) | other (v : Value)
  deriving DecidableEq

def ab : Value → AV
  | .none => .none
  | .bool b => .bool b
  | .int i _ => .int i
  | .str s _ => .str s
  | .ref a => .ref a
  | v => .other v

theorem ab_none {v : Value} (h : ab v = .none) : v = .none := by cases v <;> simp [ab] at h <;> rfl
theorem ab_bool {v : Value} {b : Bool} (h : ab v = .bool b) : v = .bool b := by cases v <;> simp [ab] at h; rw [h]
theorem ab_int {v : Value} {i : Int} (h : ab v = .int i) : ∃ t, v = .int i t := by cases v <;> simp [ab] at h; exact ⟨_, by rw [h]⟩
theorem ab_str {v : Value} {x : Str} (h : ab v = .str x) : ∃ t, v = .str x t := by cases v <;> simp [ab] at h; exact ⟨_, by rw [h]⟩
theorem ab_ref {v : Value} {a : Addr} (h : ab v = .ref a) : v = .ref a := by cases v <;> simp [ab] at h; rw [h]

/-- abstract objects -/
inductive AObj where
  | list (xs : List AV) | tup (xs : List AV) | idict (ep : Nat) (es : List (Int × AV)) | sdict (es : List (Str × AV)) | inst (C d : Addr) | attrs (fs : List (Str × AV)) | rng (n : Nat) | exc (C : Addr) (b : Bool)

abbrev HP := Addr → Option AObj

/-- a plain list -/
def PL (h : Heap) (a : Addr) (vs : Array Value) : Prop := ∃ n, IsL h a vs n
theorem PL.isList {h : Heap} {a : Addr} {vs : Array Value} (x : PL h a vs) : h.IsList a vs := let ⟨n, y⟩ := x; ⟨_, y, rfl, n, rfl⟩
/-- the entries of an object's dict -/
inductive EntsR : List DictEntry → List (Str × AV) → Prop
  | nil : EntsR [] []
  | cons {hh : Int} {x : Str} {t : Tok} {v : Value} {es : List DictEntry} {fs : List (Str × AV)} : EntsR es fs → EntsR (⟨hh, .str x t, v⟩ :: es) ((x, ab v) :: fs)

/-- an abstract object stands at an address -/
def OH (prog : Program) (w : World) (h : Heap) (a : Addr) : AObj → Prop
  | .list xs => ∃ vs : Array Value, PL h a vs ∧ vs.toList.map ab = xs
  | .tup xs => ∃ vs : Array Value, IsTup h a vs ∧ vs.toList.map ab = xs
  | .idict ep es => ∃ kvs, h.DictAt (intKind prog w) a kvs ep ∧ kvs.map (fun p => (p.1, ab p.2)) = es
  | .sdict es => ∃ kvs, h.DictOf (strKind prog w) a kvs ∧ kvs.map (fun p => (p.1, ab p.2)) = es
  | .inst C d => h.get? a = some (instObj C d)
  | .attrs fs => ∃ es n, h.get? a = some (dictOf es n) ∧ EntsR es fs
  | .rng n => ∃ t u v, IsRange h a 0 n 1 t u v
  | .exc C b => ∃ (oe : Obj) (vs : Array Value) (t : Addr), h.get? a = some oe ∧ oe.cls = .ref C ∧ oe.data = .fields vs ∧ vs[0]? = some (.ref t) ∧ vs[1]? = some .none ∧ (b = false → oe.dict = none)

theorem OH.at {prog : Program} {w : World} {h h' : Heap} {a : Addr} {x : AObj} (H : OH prog w h a x) (k : ∀ o, h.get? a = some o → h'.get? a = some o) : OH prog w h' a x := by
  cases x with
  | list xs => obtain ⟨vs, ⟨n, ho⟩, e⟩ := H; exact ⟨vs, ⟨n, k _ ho⟩, e⟩
  | tup xs => obtain ⟨vs, ⟨o, ho, r⟩, e⟩ := H; exact ⟨vs, ⟨o, k o ho, r⟩, e⟩
  | idict ep es => obtain ⟨kvs, ⟨o, es', ho, r⟩, e⟩ := H; exact ⟨kvs, ⟨o, es', k o ho, r⟩, e⟩
  | sdict es => obtain ⟨kvs, ⟨o, es', ep, ho, r⟩, e⟩ := H; exact ⟨kvs, ⟨o, es', ep, k o ho, r⟩, e⟩
  | inst C d => exact k _ H
  | attrs fs => obtain ⟨es, n, ho, r⟩ := H; exact ⟨es, n, k _ ho, r⟩
  | rng n => obtain ⟨t, u, v, ho⟩ := H; exact ⟨t, u, v, k _ ho⟩
  | exc C b => obtain ⟨oe, vs, t, ho, r⟩ := H; exact ⟨oe, vs, t, k _ ho, r⟩
theorem OH.there {prog : Program} {w : World} {h : Heap} {a : Addr} {x : AObj} (H : OH prog w h a x) : ∃ o, h.get? a = some o := by
  cases x with
  | list xs => obtain ⟨vs, ⟨n, ho⟩, e⟩ := H; exact ⟨_, ho⟩
  | tup xs => obtain ⟨vs, ⟨o, ho, r⟩, e⟩ := H; exact ⟨o, ho⟩
  | idict ep es => obtain ⟨kvs, ⟨o, es', ho, r⟩, e⟩ := H; exact ⟨o, ho⟩
  | sdict es => obtain ⟨kvs, ⟨o, es', ep, ho, r⟩, e⟩ := H; exact ⟨o, ho⟩
  | inst C d => exact ⟨_, H⟩
  | attrs fs => obtain ⟨es, n, ho, r⟩ := H; exact ⟨_, ho⟩
  | rng n => obtain ⟨t, u, v, ho⟩ := H; exact ⟨_, ho⟩
  | exc C b => obtain ⟨oe, vs, t, ho, r⟩ := H; exact ⟨_, ho⟩

/-- the abstract state: the frame's slots, the heap as far as known and owned -/
structure AS where
  loc : List (Option AV)
  hp : HP

def AS.set (σ : AS) (i : Nat) (a : AV) : AS := { σ with loc := σ.loc.set i (some a) }

/-- an activation -/
structure Act where
  env : Env
  A : Around
  vars : List Str
  fr : List Env

def Act.priv (c : Act) : List Addr := c.env.locals :: c.env.cells.map (·.2)
def fas (fr : List Env) : List Addr := fr.filterMap (·.frame)

def SlotR (env : Env) (h : Heap) (m : Str → Option Value) (x : Str) (oa : Option AV) : Prop :=
  (env.kindOf x = some .local ∧ (m x).map ab = oa) ∨
  ((env.kindOf x = some .cell ∨ env.kindOf x = some .free) ∧ ∃ c ov, env.cells.lookup x = some c ∧ h.IsCell c ov ∧ ov.map ab = oa)

def LocR (c : Act) (h : Heap) (loc : List (Option AV)) : Prop :=
  ∃ m, h.Ns c.env.locals m ∧ loc.length = c.vars.length ∧ ∀ (i : Nat) (x : Str) (oa : Option AV), c.vars[i]? = some x → loc[i]? = some oa → SlotR c.env h m x oa

/-- what the whole proof knows of the top -/
structure GC (prog : Program) (w : World) (K : Frag) (base : Heap) (mg mb : Str → Option Value) : Prop where
  X : K.In base
  g : base.Ns mainGlobals mg
  b : base.Ns builtinsNs mb
  nolimit : base.NoLimit
  builtins : ∀ x : Str, x ≠ "__name__" → mb x = bootBuiltins x

/-- the state beside the frame -/
structure CR (prog : Program) (w : World) (base : Heap) (fr : List Env) (hp : HP) (s : Shared) : Prop where
  hr : ∀ a o, hp a = some o → OH prog w s.heap a o
  frm : ∀ b ∈ fas fr, hp b = none
  bs : ∀ b o, base.get? b = some o → s.heap.get? b = some o
  nb : ∀ b, hp b ≠ none → base.get? b = none
  frames : s.heap.FunFrames base fr

theorem none_of_le {h : Heap} {b : Addr} (e : h.objs.size ≤ b) : h.get? b = none := by
  cases q : h.get? b with
  | none => rfl
  | some o => exact absurd (Heap.lt_size q) (Nat.not_lt.mpr e)
theorem size_le_of_keep {base h : Heap} (k : ∀ b o, base.get? b = some o → h.get? b = some o) (hf : ∀ i, i < base.objs.size → ∃ o, base.get? i = some o) : base.objs.size ≤ h.objs.size := by
  cases q : base.objs.size with
  | zero => exact Nat.zero_le _
  | succ m =>
    obtain ⟨o, e⟩ := hf m (by rw [q]; exact Nat.lt_succ_self m)
    exact Heap.lt_size (k m o e)

structure SR (prog : Program) (w : World) (base : Heap) (c : Act) (σ : AS) (s : Shared) : Prop where
  loc : LocR c s.heap σ.loc
  priv : ∀ b ∈ c.priv, σ.hp b = none
  prb : ∀ b ∈ c.priv, base.get? b = none
  plt : ∀ b ∈ c.priv, ∃ o, s.heap.get? b = some o
  cr : CR prog w base c.fr σ.hp s

structure Step (pv fa : List Addr) (hp : HP) (s : Shared) (hp' : HP) (s' : Shared) : Prop where
  keep : ∀ b o, s.heap.get? b = some o → hp b = none → b ∉ pv → (∃ sl, s'.heap.get? b = some { o with slots := sl }) ∧ (b ∉ fa → s'.heap.get? b = some o) ∧ hp' b = none
  gens : s'.gens = s.gens
  drawn : s'.drawn = s.drawn
  os : s'.os = s.os

theorem Step.refl (pv fa : List Addr) (hp : HP) (s : Shared) : Step pv fa hp s hp s :=
  ⟨fun _ o e h _ => ⟨⟨o.slots, e⟩, fun _ => e, h⟩, rfl, rfl, rfl⟩
theorem Step.tok {pv fa : List Addr} {hp hp' : HP} {s s' : Shared} {t : Nat} (x : Step pv fa hp s hp' s') : Step pv fa hp s hp' { s' with toks := t } :=
  ⟨x.keep, x.gens, x.drawn, x.os⟩
theorem Step.trans {pv fa : List Addr} {σ σ₁ σ₂ : HP} {s s₁ s₂ : Shared} (x : Step pv fa σ s σ₁ s₁) (y : Step pv fa σ₁ s₁ σ₂ s₂) : Step pv fa σ s σ₂ s₂ := by
  refine ⟨fun b o e h hp => ?_, y.gens.trans x.gens, y.drawn.trans x.drawn, y.os.trans x.os⟩
  obtain ⟨⟨sl, e1⟩, f1, g1⟩ := x.keep b o e h hp
  obtain ⟨⟨sl2, e2⟩, f2, g2⟩ := y.keep b _ e1 g1 hp
  exact ⟨⟨sl2, e2⟩, fun hf => (y.keep b _ (f1 hf) g1 hp).2.1 hf, g2⟩
theorem Step.wide {pv pv' fa : List Addr} {hp hp' : HP} {s s' : Shared} (x : Step pv fa hp s hp' s') (h : ∀ b ∈ pv, b ∈ pv') : Step pv' fa hp s hp' s' :=
  ⟨fun b o e h' hp => x.keep b o e h' fun hb => hp (h b hb), x.gens, x.drawn, x.os⟩

/-- what stood before, unknown and not private, is not this -/
def Nu (pv : List Addr) (hp : HP) (s : Shared) (x : Addr) : Prop := ∀ o, s.heap.get? x = some o → hp x = none → x ∈ pv
/-- an exception of the class at C, just made or in flight -/
def ExcR (C : Addr) (pv : List Addr) (hp : HP) (s : Shared) (hp' : HP) (s' : Shared) (e : Value) : Prop :=
  ∃ (x t : Addr) (oe : Obj) (vs : Array Value), e = .ref x ∧ Nu pv hp s x ∧ hp' x = none ∧ s'.heap.get? x = some oe ∧ oe.cls = .ref C ∧ oe.data = .fields vs ∧ vs[0]? = some (.ref t) ∧
    (vs[1]? = some .none ∨ ∃ (T : Addr) (oT : Obj) (ts : Array Value), vs[1]? = some (.ref T) ∧ Nu pv hp s T ∧ hp' T = none ∧ T ≠ x ∧ s'.heap.get? T = some oT ∧ oT.data = .fields ts ∧ ts[3]? = some .none)
theorem Nu.back {pv fa : List Addr} {hp hp₁ : HP} {s s₁ : Shared} {x : Addr} (st : Step pv fa hp s hp₁ s₁) (h : Nu pv hp₁ s₁ x) : Nu pv hp s x := fun o e hn => by
  by_cases q : x ∈ pv
  · exact q
  · obtain ⟨⟨sl, e'⟩, _, hn'⟩ := st.keep x o e hn q
    exact h _ e' hn'
theorem ExcR.back {C : Addr} {pv fa : List Addr} {hp hp₁ hp' : HP} {s s₁ s' : Shared} {e : Value} (st : Step pv fa hp s hp₁ s₁) (h : ExcR C pv hp₁ s₁ hp' s' e) : ExcR C pv hp s hp' s' e := by
  obtain ⟨x, t, oe, vs, h1, h2, h3, h4, h5, h6, h7, h8⟩ := h
  refine ⟨x, t, oe, vs, h1, h2.back st, h3, h4, h5, h6, h7, h8.imp id ?_⟩
  rintro ⟨T, oT, ts, k1, k2, k3⟩
  exact ⟨T, oT, ts, k1, k2.back st, k3⟩

section
variable {prog : Program} {w : World} {K : Frag} {base : Heap} {mg mb : Str → Option Value} {C : Addr} {c : Act} {σ : AS} {s : Shared}

/-- lifted posts -/
inductive Lf (prog : Program) (w : World) (base : Heap) (c : Act) (σ : AS) (s : Shared) {α : Type} (R : α → AS → Prop) (x : α) (s' : Shared) : Prop
  | mk (σ' : AS) (st : Step c.priv (fas c.fr) σ.hp s σ'.hp s') (S : SR prog w base c σ' s') (r : R x σ')

theorem lf_now {α : Type} {R : α → AS → Prop} {x : α} (S : SR prog w base c σ s) (h : R x σ) : Lf prog w base c σ s R x s := ⟨σ, .refl .., S, h⟩
theorem lf_trans {α : Type} {R : α → AS → Prop} {x : α} {σ₁ : AS} {s₁ s₂ : Shared} (st : Step c.priv (fas c.fr) σ.hp s σ₁.hp s₁) (h : Lf prog w base c σ₁ s₁ R x s₂) : Lf prog w base c σ s R x s₂ := by
  obtain ⟨σ', a, b, d⟩ := h
  exact ⟨σ', st.trans a, b, d⟩

/-- the lifted exceptional post -/
inductive Lx (prog : Program) (w : World) (base : Heap) (C : Addr) (c : Act) (σ : AS) (s : Shared) (E : AS → Prop) (e : Value) (s' : Shared) : Prop
  | mk (σ' : AS) (st : Step c.priv (fas c.fr) σ.hp s σ'.hp s') (S : SR prog w base c σ' s') (x : ExcR C c.priv σ.hp s σ'.hp s' e) (q : E σ')

theorem lx_trans {E : AS → Prop} {x : Value} {σ₁ : AS} {s₁ s₂ : Shared} (st : Step c.priv (fas c.fr) σ.hp s σ₁.hp s₁) (h : Lx prog w base C c σ₁ s₁ E x s₂) : Lx prog w base C c σ s E x s₂ := by
  obtain ⟨σ', a, b, d, e⟩ := h
  exact ⟨σ', st.trans a, b, d.back st, e⟩

abbrev PT (α : Type) := AS → (α → AS → Prop) → (AS → Prop) → Prop

inductive AF where
  | next | brk | cont | ret (a : AV)
def abF : Flow → AF
  | .next => .next | .brk => .brk | .cont => .cont | .ret v => .ret (ab v)

/-- what holds of an activation throughout -/
structure AOK (sc : Scope) (vars : List Str) (n : Nat) (c : Act) : Prop where
  scE : c.env.scope = sc
  varsE : c.vars = vars
  kind : sc.kind = .function
  nd : vars.Nodup
  glob : c.env.globals = mainGlobals
  bl : c.env.builtins = builtinsNs
  handled : c.A.handled = none
  frames : c.A.frames = some c.fr
  depth : c.A.depth + n < recursionLimit
  units : c.A.units + 200 * n < cLine
  cnd : c.priv.Nodup
  cn : (c.env.cells.map (·.1)).Nodup
  hd : 5 ≤ vars.length → ∃ outer L, c.fr = c.env :: outer ∧ c.env.frame = some L ∧ ((cellsFrom 0 sc.names []).map (·.1) = [] → c.env.cells = [])

/-- a tree does what a transformer says -/
def TM (prog : Program) (w : World) (base : Heap) (C : Addr) (sc : Scope) (vars : List Str) (n : Nat) {α β : Type} (f : α → β) (t : Env → Sem α) (p : PT β) : Prop :=
  ∀ (c : Act) (σ : AS) (s : Shared) (Q : β → AS → Prop) (E : AS → Prop), AOK sc vars n c → SR prog w base c σ s → p σ Q E →
    wpAny (model prog w) c.A (t c.env) (Lf prog w base c σ s fun v σ' => Q (f v) σ') (Lx prog w base C c σ s E) s

/-- sequencing -/
theorem wp_seq {α β : Type} {M : Model} {A : Around} {m : Sem α} {k : α → Sem β} {R : α → AS → Prop} {R' : β → AS → Prop} {E : AS → Prop}
    (h : wpAny M A m (Lf prog w base c σ s R) (Lx prog w base C c σ s E) s)
    (hk : ∀ v σ' s', SR prog w base c σ' s' → R v σ' → wpAny M A (k v) (Lf prog w base c σ' s' R') (Lx prog w base C c σ' s' E) s') :
    wpAny M A (m >>= k) (Lf prog w base c σ s R') (Lx prog w base C c σ s E) s := by
  refine wpAny_bind (wpAny_mono h (fun v s' h' => ?_) fun _ _ x => x)
  obtain ⟨σ', st, S', r⟩ := h'
  exact wpAny_mono (hk v σ' s' S' r) (fun _ _ x => lf_trans st x) fun _ _ x => lx_trans st x

/-- going on from a lifted post inside a rule of the library -/
theorem wp_then {α : Type} {M : Model} {A : Around} {m : Sem α} {k : α → Shared → Prop} {R : α → AS → Prop} {E : AS → Prop} {E' : Value → Shared → Prop}
    (h : wpAny M A m (Lf prog w base c σ s R) (Lx prog w base C c σ s E) s)
    (hk : ∀ v σ' s', Step c.priv (fas c.fr) σ.hp s σ'.hp s' → SR prog w base c σ' s' → R v σ' → k v s') (he : ∀ e s', Lx prog w base C c σ s E e s' → E' e s') :
    wpAny M A m k E' s :=
  wpAny_mono h (fun v s' ⟨σ', st, S', r⟩ => hk v σ' s' st S' r) he

theorem wp_lift {α : Type} {M : Model} {A : Around} {m : Sem α} {R : α → AS → Prop} {E : AS → Prop} {σ' : AS} {s' : Shared} (st : Step c.priv (fas c.fr) σ.hp s σ'.hp s')
    (h : wpAny M A m (Lf prog w base c σ' s' R) (Lx prog w base C c σ' s' E) s') : wpAny M A m (Lf prog w base c σ s R) (Lx prog w base C c σ s E) s' :=
  wpAny_mono h (fun _ _ x => lf_trans st x) fun _ _ x => lx_trans st x

theorem SR.tok {t : Nat} (S : SR prog w base c σ s) : SR prog w base c σ { s with toks := t } :=
  ⟨S.loc, S.priv, S.prb, S.plt, ⟨S.cr.hr, S.cr.frm, S.cr.bs, S.cr.nb, S.cr.frames⟩⟩
end

/-- places of names, syntactically -/
inductive At : List Str → Nat → Str → Prop
  | z {l : List Str} {x : Str} : At (x :: l) 0 x
  | s {l : List Str} {x y : Str} {i : Nat} : At l i x → At (y :: l) (i + 1) x
theorem At.get {l : List Str} {i : Nat} {x : Str} (h : At l i x) : l[i]? = some x := by
  induction h with
  | z => rfl
  | s _ ih => simpa using ih

/-- a slot read -/
inductive LocI (i : Nat) (σ : AS) (Q : AV → AS → Prop) : Prop
  | mk (a : AV) (h : σ.loc[i]? = some (some a)) (q : Q a σ)
abbrev vLoc (i : Nat) : PT AV := fun σ Q _ => LocI i σ Q
/-- a slot written -/
def kSet (i : Nat) (Q : AF → AS → Prop) (a : AV) : AS → Prop
  | ⟨l, h⟩ => Q .next ⟨l.set i (some a), h⟩
abbrev vSet (i : Nat) (f : PT AV) : PT AF := fun σ Q E => f σ (kSet i Q) E

section
variable {prog : Program} {w : World} {base : Heap} {C : Addr} {sc : Scope} {vars : List Str} {n : Nat}

abbrev TE (prog : Program) (w : World) (base : Heap) (C : Addr) (sc : Scope) (vars : List Str) (n : Nat) (e : PySem.Expr) (p : PT AV) : Prop := TM prog w base C sc vars n ab (fun env => eval e env) p
abbrev TS (prog : Program) (w : World) (base : Heap) (C : Addr) (sc : Scope) (vars : List Str) (n : Nat) (st : Stmt) (p : PT AF) : Prop := TM prog w base C sc vars n abF (fun env => exec st env) p
abbrev TB (prog : Program) (w : World) (base : Heap) (C : Addr) (sc : Scope) (vars : List Str) (n : Nat) (sts : List Stmt) (p : PT AF) : Prop := TM prog w base C sc vars n abF (fun env => execs sts env) p
abbrev TT (prog : Program) (w : World) (base : Heap) (C : Addr) (sc : Scope) (vars : List Str) (n : Nat) (e : PySem.Expr) (p : PT Bool) : Prop := TM prog w base C sc vars n id (fun env => isTrue e env (eval e env)) p

theorem T_loc {x : Str} {i : Nat} {pos : Pos} (h : At vars i x) (hd : (x == ("__debug__" : Str)) = false) (hd' : (x == ("__classdict__" : Str)) = false) : TE prog w base C sc vars n (.Name x pos) (vLoc i) := by
  intro c σ s Q E ok S ⟨a, ha, hq⟩
  obtain ⟨m, hn, hlen, hs⟩ := S.loc
  have hk : c.env.scope.kind = .function := by rw [ok.scE]; exact ok.kind
  refine wpAny_Name ?_ hd
  rcases hs i x (some a) (by rw [ok.varsE]; exact h.get) ha with ⟨k, e⟩ | ⟨k, cc, ov, hc, hcell, e⟩
  · obtain ⟨v, hv, rfl⟩ := Option.map_eq_some_iff.mp e
    exact wpAny_loadName_local hk k hn hv (lf_now S hq)
  · obtain ⟨v, rfl, rfl⟩ := Option.map_eq_some_iff.mp e
    rcases k with k | k
    · exact wpAny_loadName_cell hk k hc hcell (lf_now S hq)
    · exact wpAny_loadName_free hk k hc hcell (lf_now S hq) hd'
end

theorem ff_sameBut {h h' base : Heap} {b : Addr} (hs : Heap.SameBut b h h') (hb : (∃ o, h.get? b = some o ∧ ∀ vs, o.data ≠ .fields vs) → ∃ o, h'.get? b = some o ∧ ∀ vs, o.data ≠ .fields vs) : ∀ {l : List Env}, h.FunFrames base l → h'.FunFrames base l
  | [], _ => trivial
  | env :: r, ⟨hk, ⟨L, o, hf, hn, ho, hd⟩, hr⟩ => by
    refine ⟨hk, ?_, ff_sameBut hs hb hr⟩
    by_cases e : L = b
    · subst e
      obtain ⟨o', ho', hd'⟩ := hb ⟨o, ho, hd⟩
      exact ⟨_, o', hf, hn, ho', hd'⟩
    · exact ⟨L, o, hf, hn, (hs.2 L e).trans ho, hd⟩
theorem ff_keep {h h' base : Heap} : ∀ {l : List Env}, (∀ b ∈ fas l, ∀ o, h.get? b = some o → h'.get? b = some o) → h.FunFrames base l → h'.FunFrames base l
  | [], _, _ => trivial
  | env :: r, hk, ⟨hf, ⟨L, o, hL, hn, ho, hd⟩, hr⟩ => by
    have e : fas (env :: r) = L :: fas r := by unfold fas; rw [List.filterMap_cons, hL]
    rw [e] at hk
    exact ⟨hf, ⟨L, o, hL, hn, hk L (.head _) o ho, hd⟩, ff_keep (fun b hb => hk b (.tail _ hb)) hr⟩
theorem ff_get {h base : Heap} : ∀ {l : List Env}, h.FunFrames base l → ∀ b ∈ fas l, base.get? b = none ∧ ∃ o, h.get? b = some o ∧ ∀ vs, o.data ≠ .fields vs := fun hl b hb => hl.mem hb

section
variable {prog : Program} {w : World} {base : Heap} {C : Addr} {c : Act} {σ : AS} {s : Shared}

/-- the general change of the heap: what is written is known, what is known anew is fresh -/
theorem SR.move (S : SR prog w base c σ s) {h' : Heap} {hp' : HP} {t : Nat} (W : List Addr) (hW : ∀ b ∈ W, σ.hp b ≠ none)
    (k : ∀ b o, s.heap.get? b = some o → b ∉ W → h'.get? b = some o)
    (hr : ∀ a o, hp' a = some o → (σ.hp a = some o ∧ a ∉ W) ∨ OH prog w h' a o)
    (fr : ∀ b, hp' b ≠ none → σ.hp b ≠ none ∨ s.heap.get? b = none) :
    SR prog w base c ⟨σ.loc, hp'⟩ { s with heap := h', toks := t } ∧ Step c.priv (fas c.fr) σ.hp s hp' { s with heap := h', toks := t } := by
  have nW : ∀ b, σ.hp b = none → b ∉ W := fun b e hb => hW b hb e
  have nn : ∀ b o, σ.hp b = none → s.heap.get? b = some o → hp' b = none := fun b o e ho => by
    cases q : hp' b with
    | none => rfl
    | some o' => rcases fr b (by rw [q]; simp) with h | h
                 · exact absurd e h
                 · rw [h] at ho; cases ho
  have pk : ∀ b ∈ c.priv, ∀ o, s.heap.get? b = some o → h'.get? b = some o := fun b hb o e => k b o e (nW b (S.priv b hb))
  refine ⟨⟨?_, fun b hb => ?_, S.prb, fun b hb => ?_, ?_⟩, ⟨fun b o e hn _ => ⟨⟨o.slots, k b o e (nW b hn)⟩, fun _ => k b o e (nW b hn), nn b o hn e⟩, rfl, rfl, rfl⟩⟩
  · obtain ⟨m, hn, hl, hs⟩ := S.loc
    refine ⟨m, hn.at' (pk _ (.head _)), hl, fun i x oa h1 h2 => ?_⟩
    rcases hs i x oa h1 h2 with h | ⟨h3, cc, ov, h4, ⟨o, ho, hd⟩, h6⟩
    · exact .inl h
    · exact .inr ⟨h3, cc, ov, h4, ⟨o, pk _ (.tail _ (List.mem_map.mpr ⟨(x, cc), PySem.mem_of_lookup h4, rfl⟩)) o ho, hd⟩, h6⟩
  · obtain ⟨o, ho⟩ := S.plt b hb
    exact nn b o (S.priv b hb) ho
  · obtain ⟨o, ho⟩ := S.plt b hb
    exact ⟨o, pk b hb o ho⟩
  · refine ⟨fun a o e => ?_, fun b hb => ?_, fun b o e => ?_, fun b hb => ?_, ?_⟩
    · rcases hr a o e with ⟨h1, h2⟩ | h1
      · exact (S.cr.hr a o h1).at fun o' e' => k a o' e' h2
      · exact h1
    · obtain ⟨_, o, ho, _⟩ := ff_get S.cr.frames b hb
      exact nn b o (S.cr.frm b hb) ho
    · refine k b o (S.cr.bs b o e) fun hb => ?_
      have := S.cr.nb b (hW b hb)
      rw [e] at this; cases this
    · rcases fr b hb with h | h
      · exact S.cr.nb b h
      · cases q : base.get? b with
        | none => rfl
        | some o => rw [S.cr.bs b o q] at h; cases h
    · exact ff_keep (fun b hb o e => k b o e (nW b (S.cr.frm b hb))) S.cr.frames

theorem lookup_inj_cells {l : List (Str × Addr)} (hn : (l.map (·.2)).Nodup) {x y : Str} {a : Addr} (hx : l.lookup x = some a) (hy : l.lookup y = some a) : x = y := by
  induction l with
  | nil => cases hx
  | cons p r ih =>
    obtain ⟨k, b⟩ := p
    rw [List.map_cons, List.nodup_cons] at hn
    have mem : ∀ {z : Str}, r.lookup z = some b → False := fun hz => hn.1 (List.mem_map.mpr ⟨_, PySem.mem_of_lookup hz, rfl⟩)
    simp only [List.lookup_cons] at hx hy
    split at hx <;> split at hy
    · rename_i a1 _ a2; exact (beq_iff_eq.mp a1).trans (beq_iff_eq.mp a2).symm
    · injection hx with hx; subst hx; exact (mem hy).elim
    · injection hy with hy; subst hy; exact (mem hx).elim
    · exact ih hn.2 hx hy

theorem wp_store {sc : Scope} {vars : List Str} {n : Nat} {x : Str} {i : Nat} {v : Value} {E : Value → Shared → Prop} (ok : AOK sc vars n c) (S : SR prog w base c σ s) (h : At vars i x)
    (hfree : sc.names.lookup x ≠ some .free) :
    wpAny (model prog w) c.A (storeName c.env x v) (fun _ s' => Step c.priv (fas c.fr) σ.hp s σ.hp s' ∧ SR prog w base c (σ.set i (ab v)) s') E s := by
  obtain ⟨m, hn, hlen, hs⟩ := S.loc
  have hk : c.env.scope.kind = .function := by rw [ok.scE]; exact ok.kind
  have hx : c.vars[i]? = some x := by rw [ok.varsE]; exact h.get
  have hil : i < c.vars.length := (List.getElem?_eq_some_iff.mp hx).1
  have hir : i < σ.loc.length := by rw [hlen]; exact hil
  have nd : c.vars.Nodup := by rw [ok.varsE]; exact ok.nd
  -- what stays where one private object is written
  have main : ∀ (b : Addr) (h' : Heap) (t : Nat), b ∈ c.priv → Heap.SameBut b s.heap h' → (∀ o, s.heap.get? b = some o → ∃ o', h'.get? b = some o' ∧ ∀ vs, o'.data ≠ .fields vs) → LocR c h' (σ.set i (ab v)).loc →
      Step c.priv (fas c.fr) σ.hp s σ.hp { s with heap := h', toks := t } ∧ SR prog w base c (σ.set i (ab v)) { s with heap := h', toks := t } := by
    intro b h' t hb hsb hdat hloc
    have other : ∀ a, σ.hp a ≠ none → a ≠ b := fun a ha e => ha (e ▸ S.priv b hb)
    refine ⟨⟨fun a o e hna hp => ?_, rfl, rfl, rfl⟩, hloc, S.priv, S.prb, fun a ha => ?_, ?_, S.cr.frm, ?_, S.cr.nb, ?_⟩
    · have hab : a ≠ b := fun e' => hp (e' ▸ hb)
      have q := (hsb.2 a hab).trans e
      exact ⟨⟨o.slots, q⟩, fun _ => q, hna⟩
    · obtain ⟨o, ho⟩ := S.plt a ha
      by_cases q : a = b
      · obtain ⟨o', ho', _⟩ := hdat o (q ▸ ho)
        exact ⟨o', q ▸ ho'⟩
      · exact ⟨o, (hsb.2 a q).trans ho⟩
    · intro a o e
      exact (S.cr.hr a o e).at fun o' e' => (hsb.2 a (other a (by rw [show σ.hp a = some o from e]; simp))).trans e'
    · intro a o e
      exact (hsb.2 a fun q => by rw [q, S.prb b hb] at e; cases e).trans (S.cr.bs a o e)
    · exact ff_sameBut hsb (fun ⟨o, ho, _⟩ => hdat o ho) S.cr.frames
  have setget : ∀ (j : Nat) (y : Str) (oa : Option AV), c.vars[j]? = some y → (σ.set i (ab v)).loc[j]? = some oa → (j = i ∧ y = x ∧ oa = some (ab v)) ∨ (y ≠ x ∧ σ.loc[j]? = some oa) := by
    intro j y oa h1 h2
    by_cases e : j = i
    · subst e
      refine .inl ⟨rfl, by rw [hx] at h1; exact (Option.some.inj h1).symm, ?_⟩
      unfold AS.set at h2
      simp only [List.getElem?_set, hir, if_true] at h2
      exact (Option.some.inj h2).symm
    · refine .inr ⟨fun q => e ?_, ?_⟩
      · subst q
        exact (List.getElem?_inj (List.getElem?_eq_some_iff.mp h1).1 nd).mp (h1.trans hx.symm)
      · unfold AS.set at h2
        rw [List.getElem?_set_ne (Ne.symm e)] at h2; exact h2
  obtain ⟨oa, hoa⟩ : ∃ oa, σ.loc[i]? = some oa := ⟨_, List.getElem?_eq_getElem hir⟩
  rcases hs i x oa hx hoa with ⟨k, _⟩ | ⟨k, cc, ov, hc, hcell, _⟩
  · refine wpAny_storeName_local k hn (fun h' hn' hsb => ?_) (by rw [hk]; rfl)
    refine main _ h' _ (.head _) hsb (fun o _ => ?_) ⟨_, hn', by simpa [AS.set] using hlen, fun j y ob h1 h2 => ?_⟩
    · obtain ⟨o', es, ep, ho', hd, _⟩ := hn'
      exact ⟨o', ho', fun vs q => by rw [hd] at q; cases q⟩
    · rcases setget j y ob h1 h2 with ⟨rfl, rfl, rfl⟩ | ⟨hy, h3⟩
      · exact .inl ⟨k, by simp⟩
      · rcases hs j y ob h1 h3 with ⟨k', e⟩ | ⟨k', c', ov', hc', ⟨o, ho, hd⟩, e⟩
        · exact .inl ⟨k', by dsimp only; rw [if_neg hy]; exact e⟩
        · refine .inr ⟨k', c', ov', hc', ⟨o, (hsb.2 c' fun q => ?_).trans ho, hd⟩, e⟩
          obtain ⟨o', es, ep, ho', hd', _⟩ := hn
          rw [q, ho'] at ho; cases ho; rw [hd'] at hd; cases hd
  · rcases k with k | k
    · refine wpAny_storeName_cell hk k hc hcell fun h' hc' hsb => ?_
      have hp : cc ∈ c.priv := .tail _ (List.mem_map.mpr ⟨(x, cc), PySem.mem_of_lookup hc, rfl⟩)
      have hLc : c.env.locals ≠ cc := fun q => by
        obtain ⟨o', es, ep, ho', hd', _⟩ := hn
        obtain ⟨o, ho, hd⟩ := hcell
        rw [q] at ho'; rw [ho'] at ho; cases ho; rw [hd'] at hd; cases hd
      refine (fun z : Step _ _ _ _ _ _ ∧ SR prog w base c (σ.set i (ab v)) { s with heap := h', toks := s.toks } => z) (main cc h' _ hp hsb (fun o _ => ?_) ⟨m, hn.sameBut hsb hLc, by simpa [AS.set] using hlen, fun j y ob h1 h2 => ?_⟩)
      · obtain ⟨o', ho', hd⟩ := hc'
        exact ⟨o', ho', fun vs q => by rw [hd] at q; cases q⟩
      · rcases setget j y ob h1 h2 with ⟨rfl, rfl, rfl⟩ | ⟨hy, h3⟩
        · exact .inr ⟨.inl k, cc, _, hc, hc', rfl⟩
        · rcases hs j y ob h1 h3 with h4 | ⟨k', c', ov', hc'', hcell', e⟩
          · exact .inl h4
          · refine .inr ⟨k', c', ov', hc'', hcell'.sameBut hsb fun q => hy ?_, e⟩
            subst q
            exact lookup_inj_cells (List.nodup_cons.mp ok.cnd).2 hc'' hc
    · exact absurd (by unfold Env.kindOf at k; rw [ok.scE] at k; exact k) hfree
end
end Mine

end

section
open PySem PySem.W PyProof.Rows PySem.Calls
set_option Elab.async false
set_option maxRecDepth 100000
set_option linter.unusedVariables false
namespace Mine

section
variable {prog : Program} {w : World} {base : Heap} {C : Addr} {sc : Scope} {vars : List Str} {n : Nat}

/-- unreached code -/
abbrev vDead {α : Type} : PT α := fun _ _ _ => False
theorem T_dead {α β : Type} {f : α → β} {t : Env → Sem α} : TM prog w base C sc vars n f t vDead := fun _ _ _ _ _ _ _ h => h.elim

abbrev vVal (a : AV) : PT AV := fun σ Q _ => Q a σ
theorem lf_tok {α : Type} {c : Act} {σ : AS} {s : Shared} {R : α → AS → Prop} {x : α} {t : Nat} (S : SR prog w base c σ s) (h : R x σ) : Lf prog w base c σ s R x { s with toks := t } := ⟨σ, (Step.refl ..).tok, S.tok, h⟩

theorem T_cnone {k : Nat} {pos : Pos} : TE prog w base C sc vars n (.Constant .none k pos) (vVal .none) := fun c σ s Q E ok S h => wpAny_pure (lf_now S h)
theorem T_cbool {k : Nat} {b : Bool} {pos : Pos} : TE prog w base C sc vars n (.Constant (.bool b) k pos) (vVal (.bool b)) := fun c σ s Q E ok S h => wpAny_pure (lf_now S h)
theorem T_cint {k : Nat} {i : Int} {pos : Pos} : TE prog w base C sc vars n (.Constant (.int i) k pos) (vVal (.int i)) := fun c σ s Q E ok S h => wpAny_Constant_int (lf_tok S h)
theorem T_cstr {k : Nat} {x : Str} {pos : Pos} : TE prog w base C sc vars n (.Constant (.str x) k pos) (vVal (.str x)) := fun c σ s Q E ok S h => wpAny_mkText (lf_tok S h)

/-! statements -/
abbrev vNil : PT AF := fun σ Q _ => Q .next σ
def kSeq (g : PT AF) (Q : AF → AS → Prop) (E : AS → Prop) (a : AF) (σ : AS) : Prop := match a with
  | .next => g σ Q E
  | a => Q a σ
abbrev vSeq (f g : PT AF) : PT AF := fun σ Q E => f σ (kSeq g Q E) E
theorem TB_nil : TB prog w base C sc vars n [] vNil := fun c σ s Q E ok S h => wpAny_execs_nil (lf_now S h)
theorem TB_cons {st : Stmt} {rest : List Stmt} {f g : PT AF} (hf : TS prog w base C sc vars n st f) (hg : TB prog w base C sc vars n rest g) : TB prog w base C sc vars n (st :: rest) (vSeq f g) := by
  intro c σ s Q E ok S h
  refine wpAny_execs_cons (wp_then (hf c σ s _ E ok S h) (fun fl σ' s' st S' r => ?_) fun _ _ x => x)
  cases fl with
  | next => exact wp_lift st (hg c σ' s' Q E ok S' r)
  | brk => exact ⟨σ', st, S', r⟩
  | cont => exact ⟨σ', st, S', r⟩
  | ret v => exact ⟨σ', st, S', r⟩

theorem T_assign {x : Str} {i : Nat} {px pos : Pos} {e : PySem.Expr} {f : PT AV} (h : At vars i x) (hfree : sc.names.lookup x ≠ some .free) (hf : TE prog w base C sc vars n e f)
    (hs : ∀ env, swapsWith e (some (.Name x px)) pos.line env = pure false := by intro _; rfl) : TS prog w base C sc vars n (.Assign [.Name x px] e pos) (vSet i f) := by
  intro c σ s Q E ok S hq
  refine wpAny_Assign_Name (wp_then (hf c σ s _ E ok S hq) (fun v σ' s' st S' r => ?_) fun _ _ x => x) (hs _)
  exact wpAny_mono (wp_store ok S' h hfree) (fun _ s'' ⟨st', S''⟩ => ⟨σ'.set i (ab v), st.trans st', S'', r⟩) fun _ _ x => x

def kRet (Q : AF → AS → Prop) (a : AV) (σ : AS) : Prop := Q (.ret a) σ
abbrev vRet (f : PT AV) : PT AF := fun σ Q E => f σ (kRet Q) E
theorem T_ret {e : PySem.Expr} {pos : Pos} {f : PT AV} (hf : TE prog w base C sc vars n e f) : TS prog w base C sc vars n (.Return (some e) pos) (vRet f) := by
  intro c σ s Q E ok S hq
  exact wpAny_Return_some (wp_then (hf c σ s _ E ok S hq) (fun v σ' s' st S' r => ⟨σ', st, S', r⟩) fun _ _ x => x)
theorem T_pass {pos : Pos} : TS prog w base C sc vars n (.Pass pos) vNil := fun c σ s Q E ok S h => wpAny_Pass (lf_now S h)

def kDo (Q : AF → AS → Prop) (_ : AV) (σ : AS) : Prop := Q .next σ
abbrev vDo (f : PT AV) : PT AF := fun σ Q E => f σ (kDo Q) E
theorem T_expr {e : PySem.Expr} {pos : Pos} {f : PT AV} (hf : TE prog w base C sc vars n e f) (hi : sc.kind = .function → True)
    (hs : ∀ env, swapsWith e none pos.line env = pure false := by intro _; rfl) : TS prog w base C sc vars n (.Expr e pos) (vDo f) := by
  intro c σ s Q E ok S hq
  refine wpAny_Expr_any (wp_then (hf c σ s _ E ok S hq) (fun v σ' s' st S' r => ⟨σ', st, S', r⟩) fun _ _ x => x) ?_ (hs _)
  unfold interactive
  rw [ok.scE, ok.kind]; rfl

structure kIf {α : Type} (f g : PT α) (Q : α → AS → Prop) (E : AS → Prop) (r : Bool) (σ : AS) : Prop where
  t : r = true → f σ Q E
  e : r = false → g σ Q E
abbrev vIf {α : Type} (b : PT Bool) (f g : PT α) : PT α := fun σ Q E => b σ (kIf f g Q E) E
theorem T_if {e : PySem.Expr} {t o : List Stmt} {pos : Pos} {b : PT Bool} {f g : PT AF} (hb : TT prog w base C sc vars n e b) (hf : TB prog w base C sc vars n t f) (hg : TB prog w base C sc vars n o g) :
    TS prog w base C sc vars n (.If e t o pos) (vIf b f g) := by
  intro c σ s Q E ok S hq
  refine wpAny_If (wp_then (hb c σ s _ E ok S hq) (fun r σ' s' st S' q => ?_) fun _ _ x => x)
  cases r with
  | true => exact wp_lift st (hf c σ' s' Q E ok S' (q.1 rfl))
  | false => exact wp_lift st (hg c σ' s' Q E ok S' (q.2 rfl))
theorem T_ife {e t o : PySem.Expr} {pos : Pos} {b : PT Bool} {f g : PT AV} (hb : TT prog w base C sc vars n e b) (hf : TE prog w base C sc vars n t f) (hg : TE prog w base C sc vars n o g) :
    TE prog w base C sc vars n (.IfExp e t o pos) (vIf b f g) := by
  intro c σ s Q E ok S hq
  show wpAny (model prog w) c.A (isTrue e c.env (eval e c.env) >>= fun r => if r = true then eval t c.env else eval o c.env) _ _ s
  refine wpAny_bind (wp_then (hb c σ s _ E ok S hq) (fun r σ' s' st S' q => ?_) fun _ _ x => x)
  cases r with
  | true => exact wp_lift st (hf c σ' s' Q E ok S' (q.1 rfl))
  | false => exact wp_lift st (hg c σ' s' Q E ok S' (q.2 rfl))

/-! tests -/
def kNot (Q : Bool → AS → Prop) (r : Bool) (σ : AS) : Prop := Q (!r) σ
abbrev vNot (b : PT Bool) : PT Bool := fun σ Q E => b σ (kNot Q) E
theorem TT_not {e : PySem.Expr} {pos : Pos} {b : PT Bool} (hb : TT prog w base C sc vars n e b) : TT prog w base C sc vars n (.UnaryOp .Not e pos) (vNot b) := by
  intro c σ s Q E ok S hq
  show wpAny (model prog w) c.A (isTrue e c.env (eval e c.env) >>= fun r => pure (!r)) _ _ s
  exact wpAny_bind (wp_then (hb c σ s _ E ok S hq) (fun r σ' s' st S' q => wpAny_pure ⟨σ', st, S', q⟩) fun _ _ x => x)
structure kAnd (g : PT Bool) (Q : Bool → AS → Prop) (E : AS → Prop) (r : Bool) (σ : AS) : Prop where
  t : r = true → g σ Q E
  e : r = false → Q false σ
structure kOr (g : PT Bool) (Q : Bool → AS → Prop) (E : AS → Prop) (r : Bool) (σ : AS) : Prop where
  t : r = true → Q true σ
  e : r = false → g σ Q E
abbrev vAnd (f g : PT Bool) : PT Bool := fun σ Q E => f σ (kAnd g Q E) E
abbrev vOr (f g : PT Bool) : PT Bool := fun σ Q E => f σ (kOr g Q E) E
abbrev vB (r : Bool) : PT Bool := fun σ Q _ => Q r σ
abbrev TA (prog : Program) (w : World) (base : Heap) (C : Addr) (sc : Scope) (vars : List Str) (n : Nat) (op : BoolOp) (es : List PySem.Expr) (p : PT Bool) : Prop := TM prog w base C sc vars n id (fun env => allTrue op es env) p
theorem TA_andNil : TA prog w base C sc vars n .And [] (vB true) := fun c σ s Q E ok S h => wpAny_pure (lf_now S h)
theorem TA_orNil : TA prog w base C sc vars n .Or [] (vB false) := fun c σ s Q E ok S h => wpAny_pure (lf_now S h)
theorem TA_and {e : PySem.Expr} {es : List PySem.Expr} {f g : PT Bool} (hf : TT prog w base C sc vars n e f) (hg : TA prog w base C sc vars n .And es g) : TA prog w base C sc vars n .And (e :: es) (vAnd f g) := by
  intro c σ s Q E ok S hq
  show wpAny (model prog w) c.A (isTrue e c.env (eval e c.env) >>= fun r => _) _ _ s
  refine wpAny_bind (wp_then (hf c σ s _ E ok S hq) (fun r σ' s' st S' q => ?_) fun _ _ x => x)
  cases r with
  | true => exact wp_lift st (hg c σ' s' Q E ok S' (q.1 rfl))
  | false => exact wpAny_pure ⟨σ', st, S', q.2 rfl⟩
theorem TA_or {e : PySem.Expr} {es : List PySem.Expr} {f g : PT Bool} (hf : TT prog w base C sc vars n e f) (hg : TA prog w base C sc vars n .Or es g) : TA prog w base C sc vars n .Or (e :: es) (vOr f g) := by
  intro c σ s Q E ok S hq
  show wpAny (model prog w) c.A (isTrue e c.env (eval e c.env) >>= fun r => _) _ _ s
  refine wpAny_bind (wp_then (hf c σ s _ E ok S hq) (fun r σ' s' st S' q => ?_) fun _ _ x => x)
  cases r with
  | true => exact wpAny_pure ⟨σ', st, S', q.1 rfl⟩
  | false => exact wp_lift st (hg c σ' s' Q E ok S' (q.2 rfl))
theorem TT_bool {op : BoolOp} {es : List PySem.Expr} {pos : Pos} {p : PT Bool} (h : TA prog w base C sc vars n op es p) : TT prog w base C sc vars n (.BoolOp op es pos) p := fun c σ s Q E ok S hq => h c σ s Q E ok S hq

/-- a test that is a value: a bool -/
inductive kTruth (Q : Bool → AS → Prop) (a : AV) (σ : AS) : Prop
  | mk (r : Bool) (e : a = .bool r) (q : Q r σ)
abbrev vTruth (f : PT AV) : PT Bool := fun σ Q E => f σ (kTruth Q) E
theorem TT_val {e : PySem.Expr} {f : PT AV} (hf : TE prog w base C sc vars n e f)
    (he : ∀ env t, isTrue e env t = (t >>= fun v => standAt e.pos >>= fun _ => holding [v] (truthy v)) := by intro _ _; rfl) : TT prog w base C sc vars n e (vTruth f) := by
  intro c σ s Q E ok S hq
  show wpAny (model prog w) c.A (isTrue e c.env (eval e c.env)) _ _ s
  rw [he]
  refine wpAny_bind (wp_then (hf c σ s _ E ok S hq) (fun v σ' s' st S' ⟨r, hr, q⟩ => ?_) fun _ _ x => x)
  obtain rfl := ab_bool hr
  exact wpAny_bind (wpAny_standAt (wpAny_holding (wpAny_truthy_bool ⟨σ', st, S', q⟩)))

/-! comparisons: what a comparison of two abstract values gives -/
def CmpS (prog : Program) (w : World) (base : Heap) (op : CmpOp) (κ : AV → AV → HP → Bool → Prop) : Prop :=
  ∀ (c : Act) (σ : AS) (s : Shared) (u v : Value) (r : Bool), c.A.handled = none → c.A.units + 200 < cLine → SR prog w base c σ s → κ (ab u) (ab v) σ.hp r →
    wpAny (model prog w) c.A (compareOp op u v) (fun x s' => x = .bool r ∧ Step c.priv (fas c.fr) σ.hp s σ.hp s' ∧ SR prog w base c σ s') (fun _ _ => False) s

inductive CmpI (κ : AV → AV → HP → Bool → Prop) (Q : AV → AS → Prop) (a b : AV) (l : List (Option AV)) (h : HP) : Prop
  | mk (r : Bool) (k : κ a b h r) (q : Q (.bool r) ⟨l, h⟩)
def kCmp2 (κ : AV → AV → HP → Bool → Prop) (Q : AV → AS → Prop) (a b : AV) : AS → Prop
  | ⟨l, h⟩ => CmpI κ Q a b l h
def kCmp1 (κ : AV → AV → HP → Bool → Prop) (g : PT AV) (Q : AV → AS → Prop) (E : AS → Prop) (a : AV) (σ : AS) : Prop := g σ (kCmp2 κ Q a) E
abbrev vCmp (κ : AV → AV → HP → Bool → Prop) (f g : PT AV) : PT AV := fun σ Q E => f σ (kCmp1 κ g Q E) E
theorem T_cmp {op : CmpOp} {l r : PySem.Expr} {pos : Pos} {κ : AV → AV → HP → Bool → Prop} {f g : PT AV} (hκ : CmpS prog w base op κ) (hn : 1 ≤ n) (hf : TE prog w base C sc vars n l f) (hg : TE prog w base C sc vars n r g)
    (hm : behindInMarks op r = false := by with_unfolding_all rfl) : TE prog w base C sc vars n (.Compare l [op] [r] pos) (vCmp κ f g) := by
  intro c σ s Q E ok S hq
  refine wpAny_Compare1 (wp_then (hf c σ s _ E ok S hq) (fun u σ1 s1 st1 S1 q => ?_) fun _ _ x => x) hm
  refine wp_then (hg c σ1 s1 _ E ok S1 q) (fun v σ2 s2 st2 S2 q => ?_) fun _ _ x => lx_trans st1 x
  obtain ⟨r, hr, q⟩ := q
  have := ok.units
  refine wpAny_mono (hκ c σ2 s2 u v r ok.handled (by omega) S2 hr) (fun x s3 ⟨e, st3, S3⟩ => ?_) fun _ _ x => x.elim
  subst e
  exact ⟨σ2, (st1.trans st2).trans st3, S3, q⟩
theorem TT_cmp {op : CmpOp} {l r : PySem.Expr} {pos : Pos} {κ : AV → AV → HP → Bool → Prop} {f g : PT AV} (hκ : CmpS prog w base op κ) (hn : 1 ≤ n) (hf : TE prog w base C sc vars n l f) (hg : TE prog w base C sc vars n r g)
    (hm : behindInMarks op r = false := by with_unfolding_all rfl) : TT prog w base C sc vars n (.Compare l [op] [r] pos) (vTruth (vCmp κ f g)) := by
  intro c σ s Q E ok S hq
  refine wpAny_isTrue_Compare1 (wp_then (hf c σ s _ E ok S hq) (fun u σ1 s1 st1 S1 q => ?_) fun _ _ x => x) hm
  refine wp_then (hg c σ1 s1 _ E ok S1 q) (fun v σ2 s2 st2 S2 q => ?_) fun _ _ x => lx_trans st1 x
  obtain ⟨r, hr, r', e', q⟩ := q
  cases e'
  have := ok.units
  refine wpAny_mono (hκ c σ2 s2 u v r ok.handled (by omega) S2 hr) (fun x s3 ⟨e, st3, S3⟩ => ?_) fun _ _ x => x.elim
  subst e
  exact wpAny_truthy_bool ⟨σ2, (st1.trans st2).trans st3, S3, q⟩

theorem wp_rel {M : Model} {A : Around} {vs keep : List Value} {Q : Unit → Shared → Prop} {E : Value → Shared → Prop} {s : Shared} (h : Q () s) : wpAny M A (release vs keep) Q E s := fun Γ p hΓ => by
  rw [Sem.wp_release]; exact h
/-- chains of two: 0 <= x < y -/
inductive ChI (κ κ' : AV → AV → HP → Bool → Prop) (k : PT AV) (Q : AV → AS → Prop) (E : AS → Prop) (a b : AV) (l : List (Option AV)) (h : HP) : Prop
  | mk (r : Bool) (x : κ a b h r) (e : r = false → Q (.bool false) ⟨l, h⟩) (t : r = true → k ⟨l, h⟩ (kCmp2 κ' Q b) E)
def kCh2 (κ κ' : AV → AV → HP → Bool → Prop) (k : PT AV) (Q : AV → AS → Prop) (E : AS → Prop) (a b : AV) : AS → Prop
  | ⟨l, h⟩ => ChI κ κ' k Q E a b l h
def kCh1 (κ κ' : AV → AV → HP → Bool → Prop) (g k : PT AV) (Q : AV → AS → Prop) (E : AS → Prop) (a : AV) (σ : AS) : Prop := g σ (kCh2 κ κ' k Q E a) E
abbrev vChain (κ κ' : AV → AV → HP → Bool → Prop) (f g k : PT AV) : PT AV := fun σ Q E => f σ (kCh1 κ κ' g k Q E) E
theorem TT_chain {op op' : CmpOp} {l m r : PySem.Expr} {pos : Pos} {κ κ' : AV → AV → HP → Bool → Prop} {f g k : PT AV} (hκ : CmpS prog w base op κ) (hκ' : CmpS prog w base op' κ') (hn : 1 ≤ n)
    (hf : TE prog w base C sc vars n l f) (hg : TE prog w base C sc vars n m g) (hk : TE prog w base C sc vars n r k)
    (hm : ∀ env, markedEach [op, op'] [m, r] [eval m env, eval r env] = [eval m env, eval r env] := by intro _; rfl) : TT prog w base C sc vars n (.Compare l [op, op'] [m, r] pos) (vTruth (vChain κ κ' f g k)) := by
  intro c σ s Q E ok S hq
  show wpAny (model prog w) c.A (eval l c.env >>= fun lv => testChain pos lv [op, op'] (markedEach [op, op'] [m, r] [eval m c.env, eval r c.env])) _ _ s
  rw [hm]
  refine wpAny_bind (wp_then (hf c σ s _ E ok S hq) (fun u σ1 s1 st1 S1 q => ?_) fun _ _ x => x)
  unfold testChain
  refine wpAny_bind (wpAny_holding (wp_then (hg c σ1 s1 _ E ok S1 q) (fun v σ2 s2 st2 S2 q => ?_) fun _ _ x => lx_trans st1 x))
  obtain ⟨b1, hb1, q1, q2⟩ := q
  have := ok.units
  refine wpAny_bind (wpAny_standAt (wpAny_bind (wpAny_holding (wpAny_mono (hκ c σ2 s2 u v b1 ok.handled (by omega) S2 hb1) (fun x s3 ⟨e, st3, S3⟩ => ?_) fun _ _ x => x.elim))))
  subst e
  have st13 := (st1.trans st2).trans st3
  refine wpAny_bind (wp_rel ?_)
  refine wpAny_bind (wpAny_holding (wpAny_truthy_bool ?_))
  cases b1 with
  | false =>
    obtain ⟨_, e, q⟩ := q1 rfl
    cases e
    exact wpAny_pure ⟨σ2, st13, S3, q⟩
  | true =>
    rw [if_pos rfl]
    unfold testChain
    refine wpAny_bind (wpAny_holding (wp_then (hk c σ2 s3 _ E ok S3 (q2 rfl)) (fun d σ4 s4 st4 S4 q => ?_) fun _ _ x => lx_trans st13 x))
    obtain ⟨b2, hb2, _, e, q⟩ := q
    cases e
    refine wpAny_bind (wpAny_standAt (wpAny_bind (wpAny_operating (wpAny_mono (hκ' c σ4 s4 v d b2 ok.handled (by omega) S4 hb2) (fun x s5 ⟨e, st5, S5⟩ => ?_) fun _ _ x => x.elim))))
    subst e
    exact wpAny_holding (wpAny_truthy_bool ⟨σ4, (st13.trans st4).trans st5, S5, q⟩)

end
end Mine

end

section
open PySem PySem.W PyProof.Rows PySem.Calls
set_option Elab.async false
set_option maxRecDepth 100000
set_option linter.unusedVariables false
namespace Mine

mutual
/-- an abstract value as a data tree -/
inductive DR (hp : HP) : AV → PyData → Prop
  | none : DR hp .none .none
  | bool (b : Bool) : DR hp (.bool b) (.bool b)
  | int (i : Int) : DR hp (.int i) (.int i)
  | str (x : Str) : DR hp (.str x) (.str x)
  | list {a : Addr} {xs : List AV} {ds : List PyData} : hp a = some (.list xs) → DRs hp xs ds → DR hp (.ref a) (.list ds)
  | tup {a : Addr} {xs : List AV} {ds : List PyData} : hp a = some (.tup xs) → DRs hp xs ds → DR hp (.ref a) (.tuple ds)
inductive DRs (hp : HP) : List AV → List PyData → Prop
  | nil : DRs hp [] []
  | cons {x : AV} {xs : List AV} {d : PyData} {ds : List PyData} : DR hp x d → DRs hp xs ds → DRs hp (x :: xs) (d :: ds)
end

mutual
theorem DR.reads {prog : Program} {w : World} {h : Heap} {hp : HP} (H : ∀ a o, hp a = some o → OH prog w h a o) : ∀ {v : Value} {x : AV} {d : PyData}, DR hp x d → ab v = x → ∃ as, Reads h v d as
  | v, _, _, .none, e => by rw [ab_none e]; exact ⟨_, .none⟩
  | v, _, _, .bool b, e => by rw [ab_bool e]; exact ⟨_, .bool b⟩
  | v, _, _, .int i, e => by obtain ⟨t, rfl⟩ := ab_int e; exact ⟨_, .int i t⟩
  | v, _, _, .str i, e => by obtain ⟨t, rfl⟩ := ab_str e; exact ⟨_, .str i t⟩
  | v, _, _, .list ha hs, e => by
    obtain rfl := ab_ref e
    obtain ⟨vs, hv, hm⟩ := H _ _ ha
    obtain ⟨o, ho, hc, n, hd⟩ := hv.isList
    obtain ⟨as, r⟩ := hs.reads H hm
    exact ⟨_, .list ho hc hd r⟩
  | v, _, _, .tup ha hs, e => by
    obtain rfl := ab_ref e
    obtain ⟨vs, ⟨o, ho, hc, n, hd⟩, hm⟩ := H _ _ ha
    obtain ⟨as, r⟩ := hs.reads H hm
    exact ⟨_, .tuple ho hc hd r⟩
theorem DRs.reads {prog : Program} {w : World} {h : Heap} {hp : HP} (H : ∀ a o, hp a = some o → OH prog w h a o) : ∀ {vs : List Value} {xs : List AV} {ds : List PyData}, DRs hp xs ds → vs.map ab = xs → ∃ as, ReadsAll h vs ds as
  | [], _, _, .nil, e => ⟨_, .nil⟩
  | _ :: _, _, _, .nil, e => by cases e
  | [], _, _, .cons _ _, e => by cases e
  | v :: vs, _, _, .cons hx hs, e => by
    rw [List.map_cons, List.cons.injEq] at e
    obtain ⟨as, r⟩ := hx.reads H e.1
    obtain ⟨bs, r'⟩ := hs.reads H e.2
    exact ⟨_, .cons r r'⟩
end

def kEqRef (a b : Addr) (hp : HP) (r : Bool) : Prop :=
  (∃ xs ys, hp a = some (.list xs) ∧ hp b = some (.list ys) ∧ xs.length ≠ ys.length ∧ r = false) ∨
  (∃ d d', DR hp (.ref a) d ∧ DR hp (.ref b) d' ∧ d.canLay0 = true ∧ d'.canLay0 = true ∧ d.depth ≤ 100 ∧ r = PyData.eqv d d')

/-- Python's == as far as it is asked -/
abbrev kEq : AV → AV → HP → Bool → Prop
  | .none, .none, _, r => r = true
  | .none, .int _, _, r => r = false
  | .int _, .none, _, r => r = false
  | .int a, .int b, _, r => r = decide (a = b)
  | .str a, .str b, _, r => r = decide (a = b)
  | .bool a, .bool b, _, r => r = decide (a = b)
  | .ref a, .ref b, hp, r => kEqRef a b hp r
  | _, _, _, _ => False
abbrev kNe (a b : AV) (hp : HP) (r : Bool) : Prop := kEq a b hp (!r)
abbrev kLt : AV → AV → HP → Bool → Prop
  | .int a, .int b, _, r => r = decide (a < b)
  | _, _, _, _ => False
abbrev kLe : AV → AV → HP → Bool → Prop
  | .int a, .int b, _, r => r = decide (a ≤ b)
  | _, _, _, _ => False
abbrev kGt (a b : AV) (hp : HP) (r : Bool) : Prop := kLt b a hp r
abbrev kGe (a b : AV) (hp : HP) (r : Bool) : Prop := kLe b a hp r
/-- is None, is not None -/
abbrev kIs : AV → AV → HP → Bool → Prop
  | .none, .none, _, r => r = true
  | .int _, .none, _, r => r = false
  | .ref _, .none, _, r => r = false
  | .str _, .none, _, r => r = false
  | _, _, _, _ => False
abbrev kIsNot (a b : AV) (hp : HP) (r : Bool) : Prop := kIs a b hp (!r)


/-- x in l -/
abbrev kIn : AV → AV → HP → Bool → Prop
  | .int i, .ref l, hp, r => (∃ ep es, hp l = some (.idict ep es) ∧ r = decide (i ∈ es.map (·.1))) ∨ (∃ is : List Int, hp l = some (.list (is.map .int)) ∧ r = decide (i ∈ is))
  | .str x, .ref l, hp, r => ∃ es, hp l = some (.sdict es) ∧ r = decide (x ∈ es.map (·.1))
  | _, _, _, _ => False
abbrev kNotIn (a b : AV) (hp : HP) (r : Bool) : Prop := kIn a b hp (!r)
/-- x in a tuple of strs that stands at the top -/
abbrev kInTop (p : Addr) (xs : List Str) : AV → AV → HP → Bool → Prop
  | .str x, .ref q, _, r => q = p ∧ r = decide (x ∈ xs)
  | _, _, _, _ => False
abbrev kNotInTop (p : Addr) (xs : List Str) (a b : AV) (hp : HP) (r : Bool) : Prop := kInTop p xs a b hp (!r)

section
variable {prog : Program} {w : World} {base : Heap}

theorem kEqRef_reads {c : Act} {σ : AS} {s : Shared} {a b : Addr} {r : Bool} (S : SR prog w base c σ s) (h : kEqRef a b σ.hp r) :
    (∃ d d' as bs, Reads s.heap (.ref a) d as ∧ Reads s.heap (.ref b) d' bs ∧ d.canLay0 = true ∧ d'.canLay0 = true ∧ d.depth ≤ 100 ∧ r = PyData.eqv d d') ∨
    (∃ (xs ys : Array Value), s.heap.IsList a xs ∧ s.heap.IsList b ys ∧ xs.size ≠ ys.size ∧ r = false) := by
  rcases h with ⟨xs, ys, ha, hb, hne, rfl⟩ | ⟨d, d', ra, rb, h1, h2, h3, rfl⟩
  · obtain ⟨vs, hv, rfl⟩ := S.cr.hr _ _ ha
    obtain ⟨ws, hw, rfl⟩ := S.cr.hr _ _ hb
    exact .inr ⟨vs, ws, hv.isList, hw.isList, by simpa using hne, rfl⟩
  · obtain ⟨as, ra'⟩ := ra.reads S.cr.hr (v := .ref a) rfl
    obtain ⟨bs, rb'⟩ := rb.reads S.cr.hr (v := .ref b) rfl
    exact .inl ⟨d, d', as, bs, ra', rb', h1, h2, h3, rfl⟩

theorem beq_dec {α : Type} [DecidableEq α] (a b : α) : (a == b) = decide (a = b) := by by_cases h : a = b <;> simp [h]
theorem bne_dec {α : Type} [DecidableEq α] (a b : α) : (a != b) = !decide (a = b) := by by_cases h : a = b <;> simp [h]
/-- what is asked of == -/
inductive EqC : AV → AV → HP → Bool → Prop
  | nn {hp : HP} : EqC .none .none hp true
  | ni {hp : HP} {i : Int} : EqC .none (.int i) hp false
  | iN {hp : HP} {i : Int} : EqC (.int i) .none hp false
  | ii {hp : HP} {a b : Int} : EqC (.int a) (.int b) hp (decide (a = b))
  | ss {hp : HP} {a b : Str} : EqC (.str a) (.str b) hp (decide (a = b))
  | bb {hp : HP} {a b : Bool} : EqC (.bool a) (.bool b) hp (decide (a = b))
  | rr {hp : HP} {a b : Addr} {r : Bool} (h : kEqRef a b hp r) : EqC (.ref a) (.ref b) hp r
theorem inv_eq {x y : AV} {hp : HP} {r : Bool} (h : kEq x y hp r) : EqC x y hp r := by
  unfold kEq at h
  split at h
  · subst h; exact .nn
  · subst h; exact .ni
  · subst h; exact .iN
  · subst h; exact .ii
  · subst h; exact .ss
  · subst h; exact .bb
  · exact .rr h
  · exact h.elim
theorem inv_lt {x y : AV} {hp : HP} {r : Bool} (h : kLt x y hp r) : ∃ a b, x = .int a ∧ y = .int b ∧ r = decide (a < b) := by
  unfold kLt at h
  split at h
  · exact ⟨_, _, rfl, rfl, h⟩
  · exact h.elim
theorem inv_le {x y : AV} {hp : HP} {r : Bool} (h : kLe x y hp r) : ∃ a b, x = .int a ∧ y = .int b ∧ r = decide (a ≤ b) := by
  unfold kLe at h
  split at h
  · exact ⟨_, _, rfl, rfl, h⟩
  · exact h.elim
inductive IsC : AV → AV → Bool → Prop
  | nn : IsC .none .none true
  | ni {i : Int} : IsC (.int i) .none false
  | nr {a : Addr} : IsC (.ref a) .none false
  | ns {a : Str} : IsC (.str a) .none false
theorem inv_is {x y : AV} {hp : HP} {r : Bool} (h : kIs x y hp r) : IsC x y r := by
  unfold kIs at h
  split at h
  · subst h; exact .nn
  · subst h; exact .ni
  · subst h; exact .nr
  · subst h; exact .ns
  · exact h.elim
theorem C_eq : CmpS prog w base .Eq kEq := by
  intro c σ s u v r hh hu S h
  have h' := inv_eq h
  clear h
  generalize hx : ab u = x at h'
  generalize hy : ab v = y at h'
  cases h' with
  | nn => obtain rfl := ab_none hx; obtain rfl := ab_none hy; exact EqNone.eq_none_none ⟨rfl, .refl .., S⟩
  | ni => obtain rfl := ab_none hx; obtain ⟨_, rfl⟩ := ab_int hy; exact EqNone.eq_none_int ⟨rfl, .refl .., S⟩
  | iN => obtain ⟨_, rfl⟩ := ab_int hx; obtain rfl := ab_none hy; exact EqNone.eq_int_none ⟨rfl, .refl .., S⟩
  | ii => obtain ⟨_, rfl⟩ := ab_int hx; obtain ⟨_, rfl⟩ := ab_int hy; exact PyProof.Rows.eq_int ⟨by rw [beq_dec], .refl .., S⟩
  | ss => obtain ⟨_, rfl⟩ := ab_str hx; obtain ⟨_, rfl⟩ := ab_str hy; exact PyProof.Rows.eq_str ⟨by rw [beq_dec], .refl .., S⟩
  | bb => obtain rfl := ab_bool hx; obtain rfl := ab_bool hy; exact PyProof.Rows.eq_bool ⟨by rw [beq_dec], .refl .., S⟩
  | rr h =>
    obtain rfl := ab_ref hx
    obtain rfl := ab_ref hy
    rcases kEqRef_reads S h with ⟨d, d', as, bs, ra, rb, h1, h2, h3, rfl⟩ | ⟨xs, ys, hx, hy, hne, rfl⟩
    · exact SeqAt.compareEq_reads ra rb h1 h2 (by omega) ⟨rfl, .refl .., S⟩
    · exact SeqAt.eq_list_lengthsAt hx hy (by simpa using hne) (by omega) ⟨rfl, .refl .., S⟩
theorem C_ne : CmpS prog w base .NotEq kNe := by
  intro c σ s u v r hh hu S h
  have h' := inv_eq h
  clear h
  obtain ⟨q, rfl⟩ : ∃ q, r = !q := ⟨!r, (Bool.not_not r).symm⟩
  rw [Bool.not_not] at h'
  generalize hx : ab u = x at h'
  generalize hy : ab v = y at h'
  cases h' with
  | nn => obtain rfl := ab_none hx; obtain rfl := ab_none hy; exact EqNone.ne_none_none ⟨rfl, .refl .., S⟩
  | ni => obtain rfl := ab_none hx; obtain ⟨_, rfl⟩ := ab_int hy; exact EqNone.ne_none_int ⟨rfl, .refl .., S⟩
  | iN => obtain ⟨_, rfl⟩ := ab_int hx; obtain rfl := ab_none hy; exact EqNone.ne_int_none ⟨rfl, .refl .., S⟩
  | ii => obtain ⟨_, rfl⟩ := ab_int hx; obtain ⟨_, rfl⟩ := ab_int hy; exact PyProof.Rows.ne_int ⟨by rw [bne_dec], .refl .., S⟩
  | ss => obtain ⟨_, rfl⟩ := ab_str hx; obtain ⟨_, rfl⟩ := ab_str hy; exact PyProof.Rows.ne_str ⟨by rw [bne_dec], .refl .., S⟩
  | bb => obtain rfl := ab_bool hx; obtain rfl := ab_bool hy; exact PyProof.Rows.ne_bool ⟨by rw [bne_dec], .refl .., S⟩
  | rr h =>
    obtain rfl := ab_ref hx
    obtain rfl := ab_ref hy
    rcases kEqRef_reads S h with ⟨d, d', as, bs, ra, rb, h1, h2, h3, rfl⟩ | ⟨xs, ys, hx, hy, hne, rfl⟩
    · exact SeqAt.compareNe_reads ra rb h1 h2 (by omega) ⟨rfl, .refl .., S⟩
    · exact SeqAt.RcNeAt.lists_lengths hx hy (by simpa using hne) (by omega) prog w _ _ ⟨rfl, .refl .., S⟩
theorem C_lt : CmpS prog w base .Lt kLt := by
  intro c σ s u v r hh hu S h
  obtain ⟨_, _, hx, hy, rfl⟩ := inv_lt h
  obtain ⟨_, rfl⟩ := ab_int hx
  obtain ⟨_, rfl⟩ := ab_int hy
  exact PyProof.Rows.lt_int ⟨rfl, .refl .., S⟩
theorem C_le : CmpS prog w base .LtE kLe := by
  intro c σ s u v r hh hu S h
  obtain ⟨_, _, hx, hy, rfl⟩ := inv_le h
  obtain ⟨_, rfl⟩ := ab_int hx
  obtain ⟨_, rfl⟩ := ab_int hy
  exact PyProof.Rows.le_int ⟨rfl, .refl .., S⟩
theorem C_gt : CmpS prog w base .Gt kGt := by
  intro c σ s u v r hh hu S h
  obtain ⟨_, _, hx, hy, rfl⟩ := inv_lt h
  obtain ⟨_, rfl⟩ := ab_int hx
  obtain ⟨_, rfl⟩ := ab_int hy
  exact PyProof.Rows.gt_int ⟨rfl, .refl .., S⟩
theorem C_ge : CmpS prog w base .GtE kGe := by
  intro c σ s u v r hh hu S h
  obtain ⟨_, _, hx, hy, rfl⟩ := inv_le h
  obtain ⟨_, rfl⟩ := ab_int hx
  obtain ⟨_, rfl⟩ := ab_int hy
  exact PyProof.Rows.ge_int ⟨rfl, .refl .., S⟩
/-- the values behind a question whether one is None -/
theorem is_vals {u v : Value} {r : Bool} (h : IsC (ab u) (ab v) r) : ((∃ t i, u = .int i t) ∨ (∃ a, u = .ref a) ∨ (∃ x t, u = .str x t) ∨ u = .none) ∧ v = .none ∧ r = decide (u = .none) := by
  generalize hx : ab u = x at h
  generalize hy : ab v = y at h
  cases h with
  | nn => obtain rfl := ab_none hx; obtain rfl := ab_none hy; exact ⟨.inr (.inr (.inr rfl)), rfl, by simp⟩
  | ni => obtain ⟨_, rfl⟩ := ab_int hx; obtain rfl := ab_none hy; exact ⟨.inl ⟨_, _, rfl⟩, rfl, by simp⟩
  | nr => obtain rfl := ab_ref hx; obtain rfl := ab_none hy; exact ⟨.inr (.inl ⟨_, rfl⟩), rfl, by simp⟩
  | ns => obtain ⟨_, rfl⟩ := ab_str hx; obtain rfl := ab_none hy; exact ⟨.inr (.inr (.inl ⟨_, _, rfl⟩)), rfl, by simp⟩
theorem C_is : CmpS prog w base .Is kIs := by
  intro c σ s u v r hh hu S h
  obtain ⟨hc, rfl, rfl⟩ := is_vals (inv_is h)
  rcases hc with ⟨_, _, rfl⟩ | ⟨_, rfl⟩ | ⟨_, _, rfl⟩ | rfl <;> (refine wpAny_is_plain rfl ⟨?_, .refl .., S⟩; simp)
theorem C_isNot : CmpS prog w base .IsNot kIsNot := by
  intro c σ s u v r hh hu S h
  obtain ⟨hc, rfl, hr⟩ := is_vals (inv_is h)
  obtain rfl : r = !decide (u = .none) := by rw [← hr, Bool.not_not]
  rcases hc with ⟨_, _, rfl⟩ | ⟨_, rfl⟩ | ⟨_, _, rfl⟩ | rfl <;> (refine wpAny_isNot_plain rfl ⟨?_, .refl .., S⟩; simp)
theorem int_in_map {i : Int} {is : List Int} : (is.map AV.int).contains (AV.int i) = decide (i ∈ is) := by
  rw [List.contains_eq_mem]
  congr 1
  simp
theorem eqAt_int {A : Around} {s : Shared} {y : Value} {i j : Int} {t : Tok} (hy : ab y = .int j) : SeqAt.EqAt A s y (.int i t) (decide (j = i)) := by
  obtain ⟨u, rfl⟩ := ab_int hy
  exact fun prog w E Q h => wpAny_eqBool_int (by rw [beq_dec]; exact h)
theorem ab_ints {vs : Array Value} {is : List Int} (h : vs.toList.map ab = is.map AV.int) : ∀ y ∈ vs, ∃ j ∈ is, ab y = .int j := by
  intro y hy
  have : ab y ∈ vs.toList.map ab := List.mem_map.mpr ⟨y, Array.mem_toList_iff.mpr hy, rfl⟩
  rw [h] at this
  obtain ⟨j, hj, e⟩ := List.mem_map.mp this
  exact ⟨j, hj, e.symm⟩
theorem any_ints {vs : Array Value} {is : List Int} {i : Int} (h : vs.toList.map ab = is.map AV.int) : (vs.any fun y => decide (ab y = .int i)) = decide (i ∈ is) := by
  have e : (vs.toList.any fun y => decide (ab y = .int i)) = (vs.toList.map ab).any fun y => decide (y = AV.int i) := by rw [List.any_map]; rfl
  rw [← Array.any_toList, e, h, List.any_map, Bool.eq_iff_iff, List.any_eq_true]
  simp

/-- look-up and store in a dict's pairs -/
def aGet {κ : Type} [DecidableEq κ] (es : List (κ × AV)) (k : κ) : Option AV := (es.find? fun p => decide (p.1 = k)).map (·.2)
def aPut {κ : Type} [DecidableEq κ] (es : List (κ × AV)) (k : κ) (v : AV) : List (κ × AV) :=
  if es.any (fun p => decide (p.1 = k)) then es.map (fun p => if p.1 = k then (p.1, v) else p) else es ++ [(k, v)]
theorem valueAt_ab {κ : Type} [DecidableEq κ] (kvs : List (κ × Value)) (k : κ) : (valueAt kvs k).map ab = aGet (kvs.map fun p => (p.1, ab p.2)) k := by
  unfold valueAt aGet
  rw [List.find?_map]
  rw [Option.map_map, Option.map_map]
  rfl
theorem aGet_isSome {κ : Type} [DecidableEq κ] (es : List (κ × AV)) (k : κ) : (aGet es k).isSome = decide (k ∈ es.map (·.1)) := by
  unfold aGet
  rw [Option.isSome_map, Bool.eq_iff_iff, List.find?_isSome]
  simp only [decide_eq_true_eq, List.mem_map]
theorem stored_ab {κ : Type} [DecidableEq κ] (kvs : List (κ × Value)) (k : κ) (v : Value) : (stored kvs k v).map (fun p => (p.1, ab p.2)) = aPut (kvs.map fun p => (p.1, ab p.2)) k (ab v) := by
  unfold stored aPut
  rw [List.any_map]
  have e : ((fun p : κ × AV => decide (p.1 = k)) ∘ fun p : κ × Value => (p.1, ab p.2)) = fun p => decide (p.1 = k) := rfl
  rw [e]
  split
  · rw [List.map_map, List.map_map]
    refine List.map_congr_left fun p _ => ?_
    simp only [Function.comp]
    split <;> rfl
  · rw [List.map_append]; rfl

theorem not_sys {c : Act} {σ : AS} {s : Shared} {l : Addr} {o : AObj} (low : base.get? sysModules ≠ none) (S : SR prog w base c σ s) (he : σ.hp l = some o) : (l == sysModules) = false := by
  have := S.cr.nb l (by rw [he]; simp)
  exact beq_eq_false_iff_ne.mpr fun q => low (q ▸ this)
theorem valueAt_in {κ : Type} [DecidableEq κ] (kvs : List (κ × Value)) (k : κ) : (valueAt kvs k).isSome = decide (k ∈ (kvs.map fun p => (p.1, ab p.2)).map (·.1)) := by
  rw [← aGet_isSome, ← valueAt_ab, Option.isSome_map]
inductive InC (hp : HP) : AV → AV → Bool → Prop
  | d {i : Int} {l : Addr} {ep : Nat} {es : List (Int × AV)} (h : hp l = some (.idict ep es)) : InC hp (.int i) (.ref l) (decide (i ∈ es.map (·.1)))
  | l {i : Int} {l : Addr} {is : List Int} (h : hp l = some (.list (is.map .int))) : InC hp (.int i) (.ref l) (decide (i ∈ is))
  | s {x : Str} {l : Addr} {es : List (Str × AV)} (h : hp l = some (.sdict es)) : InC hp (.str x) (.ref l) (decide (x ∈ es.map (·.1)))
theorem inv_in {x y : AV} {hp : HP} {r : Bool} (h : kIn x y hp r) : InC hp x y r := by
  unfold kIn at h
  split at h
  · rcases h with ⟨ep, es, he, rfl⟩ | ⟨is, he, rfl⟩
    · exact .d he
    · exact .l he
  · obtain ⟨es, he, rfl⟩ := h
    exact .s he
  · exact h.elim
theorem C_in (low : base.get? sysModules ≠ none) : CmpS prog w base .In kIn := by
  intro c σ s u v r hh hu S h
  have h' := inv_in h
  clear h
  generalize hx : ab u = x at h'
  generalize hy : ab v = y at h'
  cases h' with
  | d he =>
    obtain ⟨t, rfl⟩ := ab_int hx
    obtain rfl := ab_ref hy
    obtain ⟨kvs, hd, rfl⟩ := S.cr.hr _ _ he
    exact wpAny_in_of (intKind_is prog w _ t) (not_sys low S he) hd.dictOf.mapOf ⟨by rw [valueAt_in], (Step.refl ..).tok, S.tok⟩
  | @l i _ is he =>
    obtain ⟨t, rfl⟩ := ab_int hx
    obtain rfl := ab_ref hy
    obtain ⟨vs, hv, e⟩ := S.cr.hr _ _ he
    refine SeqAt.in_listAt (fun y => decide (ab y = .int i)) hv.isList (fun y hy => ?_) ⟨by rw [any_ints e], .refl .., S⟩
    obtain ⟨j, hj, ej⟩ := ab_ints e y hy
    have := eqAt_int (A := c.A.in1) (s := s) (i := i) (t := t) ej
    simpa [ej] using this
  | s he =>
    obtain ⟨t, rfl⟩ := ab_str hx
    obtain rfl := ab_ref hy
    obtain ⟨kvs, hd, rfl⟩ := S.cr.hr _ _ he
    exact wpAny_in_of (strKind_is prog w _ t) (not_sys low S he) hd.mapOf ⟨by rw [valueAt_in], (Step.refl ..).tok, S.tok⟩
theorem C_notIn (low : base.get? sysModules ≠ none) : CmpS prog w base .NotIn kNotIn := by
  intro c σ s u v r hh hu S h
  have h' := inv_in h
  clear h
  obtain ⟨q, rfl⟩ : ∃ q, r = !q := ⟨!r, (Bool.not_not r).symm⟩
  rw [Bool.not_not] at h'
  generalize hx : ab u = x at h'
  generalize hy : ab v = y at h'
  cases h' with
  | d he =>
    obtain ⟨t, rfl⟩ := ab_int hx
    obtain rfl := ab_ref hy
    obtain ⟨kvs, hd, rfl⟩ := S.cr.hr _ _ he
    exact wpAny_notIn_of (intKind_is prog w _ t) (not_sys low S he) hd.dictOf.mapOf ⟨by rw [valueAt_in], (Step.refl ..).tok, S.tok⟩
  | @l i _ is he =>
    obtain ⟨t, rfl⟩ := ab_int hx
    obtain rfl := ab_ref hy
    obtain ⟨vs, hv, e⟩ := S.cr.hr _ _ he
    refine SeqAt.notIn_listAt (fun y => decide (ab y = .int i)) hv.isList (fun y hy => ?_) ⟨by rw [any_ints e], .refl .., S⟩
    obtain ⟨j, hj, ej⟩ := ab_ints e y hy
    have := eqAt_int (A := c.A.in1) (s := s) (i := i) (t := t) ej
    simpa [ej] using this
  | s he =>
    obtain ⟨t, rfl⟩ := ab_str hx
    obtain rfl := ab_ref hy
    obtain ⟨kvs, hd, rfl⟩ := S.cr.hr _ _ he
    exact wpAny_notIn_of (strKind_is prog w _ t) (not_sys low S he) hd.mapOf ⟨by rw [valueAt_in], (Step.refl ..).tok, S.tok⟩

theorem eqAt_str {A : Around} {s : Shared} {y : Value} {x z : Str} {t : Tok} (hy : ab y = .str z) : SeqAt.EqAt A s y (.str x t) (decide (z = x)) := by
  obtain ⟨u, rfl⟩ := ab_str hy
  exact fun prog w E Q h => wpAny_eqBool_str h
theorem top_any {vs : Array Value} {xs : List Str} {x : Str} (h : vs.toList.map ab = xs.map AV.str) : (vs.any fun y => decide (ab y = .str x)) = decide (x ∈ xs) := by
  have e : (vs.toList.any fun y => decide (ab y = .str x)) = (vs.toList.map ab).any fun y => decide (y = AV.str x) := by rw [List.any_map]; rfl
  rw [← Array.any_toList, e, h, List.any_map, Bool.eq_iff_iff, List.any_eq_true]
  simp
theorem top_eqs {vs : Array Value} {xs : List Str} {x : Str} {t : Tok} {A : Around} {s : Shared} (h : vs.toList.map ab = xs.map AV.str) : ∀ y, y ∈ vs → SeqAt.EqAt A s y (.str x t) (decide (ab y = .str x)) := by
  intro y hy
  have : ab y ∈ vs.toList.map ab := List.mem_map.mpr ⟨y, Array.mem_toList_iff.mpr hy, rfl⟩
  rw [h] at this
  obtain ⟨j, hj, e⟩ := List.mem_map.mp this
  have := eqAt_str (A := A) (s := s) (x := x) (t := t) e.symm
  simpa [← e] using this
theorem inv_inTop {p : Addr} {xs : List Str} {u v : Value} {hp : HP} {r : Bool} (h : kInTop p xs (ab u) (ab v) hp r) : ∃ x t, u = .str x t ∧ v = .ref p ∧ r = decide (x ∈ xs) := by
  generalize hx : ab u = x at h
  generalize hy : ab v = y at h
  unfold kInTop at h
  split at h
  · obtain ⟨rfl, rfl⟩ := h
    obtain ⟨t, rfl⟩ := ab_str hx
    obtain rfl := ab_ref hy
    exact ⟨_, _, rfl, rfl, rfl⟩
  · exact h.elim
theorem C_inTop {p : Addr} {xs : List Str} {vs : Array Value} (ht : IsTup base p vs) (he : vs.toList.map ab = xs.map AV.str) : CmpS prog w base .In (kInTop p xs) := by
  intro c σ s u v r hh hu S h
  obtain ⟨x, t, rfl, rfl, rfl⟩ := inv_inTop h
  obtain ⟨o, ho, r⟩ := ht
  exact SeqAt.in_tupleAt (fun y => decide (ab y = .str _)) ⟨o, S.cr.bs _ _ ho, r⟩ (top_eqs he) ⟨by rw [top_any he], .refl .., S⟩
theorem C_notInTop {p : Addr} {xs : List Str} {vs : Array Value} (ht : IsTup base p vs) (he : vs.toList.map ab = xs.map AV.str) : CmpS prog w base .NotIn (kNotInTop p xs) := by
  intro c σ s u v r hh hu S h
  obtain ⟨x, t, rfl, rfl, hr⟩ := inv_inTop h
  obtain rfl : r = !decide (x ∈ xs) := by rw [← hr, Bool.not_not]
  obtain ⟨o, ho, r⟩ := ht
  exact SeqAt.notIn_tupleAt (fun y => decide (ab y = .str _)) ⟨o, S.cr.bs _ _ ho, r⟩ (top_eqs he) ⟨by rw [top_any he], .refl .., S⟩
end
end Mine

end

section
open PySem PySem.W PyProof.Rows PySem.Calls
set_option Elab.async false
set_option maxRecDepth 100000
set_option linter.unusedVariables false
namespace Mine

def upd (hp : HP) (a : Addr) (o : AObj) : HP := fun b => if b = a then some o else hp b
theorem upd_self (hp : HP) (a : Addr) (o : AObj) : upd hp a o a = some o := by simp [upd]
theorem upd_other {hp : HP} {a b : Addr} {o : AObj} (h : b ≠ a) : upd hp a o b = hp b := by simp [upd, h]
def plainAV : AV → Bool
  | .other _ => false
  | _ => true
theorem handed_of {v : Value} (h : plainAV (ab v) = true) : handedIn v = true := by cases v <;> first | rfl | (simp [ab, plainAV] at h)

section
variable {prog : Program} {w : World} {K : Frag} {base : Heap} {mg mb : Str → Option Value} {C : Addr} {sc : Scope} {vars : List Str} {n : Nat}

/-- a new object -/
theorem SR.alloc {c : Act} {σ : AS} {s : Shared} (S : SR prog w base c σ s) {o : Obj} {x : AObj} (hf : o.isFreed = false) (hx : ∀ h : Heap, h.get? s.heap.objs.size = some o → OH prog w h s.heap.objs.size x) {t : Nat} :
    σ.hp s.heap.objs.size = none ∧ SR prog w base c ⟨σ.loc, upd σ.hp s.heap.objs.size x⟩ { s with heap := s.heap.push o, toks := t } ∧ Step c.priv (fas c.fr) σ.hp s (upd σ.hp s.heap.objs.size x) { s with heap := s.heap.push o, toks := t } := by
  have hn : σ.hp s.heap.objs.size = none := by
    cases q : σ.hp s.heap.objs.size with
    | none => rfl
    | some y => obtain ⟨o', ho'⟩ := (S.cr.hr _ _ q).there; exact absurd (Heap.lt_size ho') (Nat.lt_irrefl _)
  refine ⟨hn, S.move [] (fun _ h => nomatch h) (fun b o' e _ => Heap.get?_push_of_some _ e) (fun a o' e => ?_) fun b hb => ?_⟩
  · by_cases q : a = s.heap.objs.size
    · subst q
      rw [upd_self] at e; cases e
      exact .inr (hx _ (Heap.get?_push_size _ hf))
    · rw [upd_other q] at e
      exact .inl ⟨e, fun h => nomatch h⟩
  · by_cases q : b = s.heap.objs.size
    · subst q; exact .inr (none_of_le (Nat.le_refl _))
    · rw [upd_other q] at hb; exact .inl hb
/-- a new object that nobody looks at -/
theorem SR.push {c : Act} {σ : AS} {s : Shared} (S : SR prog w base c σ s) (o : Obj) {t : Nat} :
    SR prog w base c σ { s with heap := s.heap.push o, toks := t } ∧ Step c.priv (fas c.fr) σ.hp s σ.hp { s with heap := s.heap.push o, toks := t } :=
  S.move [] (fun _ h => nomatch h) (fun b o' e _ => Heap.get?_push_of_some _ e) (fun a o' e => .inl ⟨e, fun h => nomatch h⟩) fun b hb => .inl hb
/-- a known object changed -/
theorem SR.write {c : Act} {σ : AS} {s : Shared} (S : SR prog w base c σ s) {a : Addr} {x y : AObj} {h' : Heap} (ha : σ.hp a = some x) (hs : Heap.SameBut a s.heap h') (hy : OH prog w h' a y) {t : Nat} :
    SR prog w base c ⟨σ.loc, upd σ.hp a y⟩ { s with heap := h', toks := t } ∧ Step c.priv (fas c.fr) σ.hp s (upd σ.hp a y) { s with heap := h', toks := t } := by
  refine S.move [a] (fun b hb => by rw [List.mem_singleton.mp hb, ha]; simp) (fun b o e hb => (hs.2 b fun q => hb (by simp [q])).trans e) (fun b o e => ?_) fun b hb => ?_
  · by_cases q : b = a
    · subst q; rw [upd_self] at e; cases e; exact .inr hy
    · rw [upd_other q] at e; exact .inl ⟨e, by simpa using q⟩
  · by_cases q : b = a
    · subst q; rw [ha]; exact .inl (by simp)
    · rw [upd_other q] at hb; exact .inl hb

/-! argument lists -/
abbrev TL (prog : Program) (w : World) (base : Heap) (C : Addr) (sc : Scope) (vars : List Str) (n : Nat) (es : List PySem.Expr) (p : PT (List AV)) : Prop :=
  ∀ pos : Pos, TM prog w base C sc vars n (fun vs : List Value => vs.map ab) (fun env => spliced (backTo pos (starEach es env))) p
abbrev vNilL : PT (List AV) := fun σ Q _ => Q [] σ
def kCons2 (Q : List AV → AS → Prop) (a : AV) (as : List AV) (σ : AS) : Prop := Q (a :: as) σ
def kCons1 (g : PT (List AV)) (Q : List AV → AS → Prop) (E : AS → Prop) (a : AV) (σ : AS) : Prop := g σ (kCons2 Q a) E
abbrev vConsL (f : PT AV) (g : PT (List AV)) : PT (List AV) := fun σ Q E => f σ (kCons1 g Q E) E
theorem TL_nil : TL prog w base C sc vars n [] vNilL := fun pos c σ s Q E ok S h => spliced_nil (lf_now S h)
theorem TL_cons {e : PySem.Expr} {es : List PySem.Expr} {f : PT AV} {g : PT (List AV)} (hf : TE prog w base C sc vars n e f) (hg : TL prog w base C sc vars n es g)
    (hs : ∀ env, starEach (e :: es) env = (false, eval e env) :: starEach es env := by intro _; rfl) : TL prog w base C sc vars n (e :: es) (vConsL f g) := by
  intro pos c σ s Q E ok S h
  show wpAny (model prog w) c.A (spliced (backTo pos (starEach (e :: es) c.env))) _ _ s
  rw [hs]
  refine spliced_cons (wp_then (hf c σ s _ E ok S h) (fun v σ' s' st S' q => ?_) fun _ _ x => x)
  refine wp_then (hg pos c σ' s' _ E ok S' q) (fun vs σ'' s'' st' S'' q => ⟨σ'', st.trans st', S'', q⟩) fun _ _ x => lx_trans st x

/-! operations of the interpreter's own: they raise nothing here -/
abbrev OPT := List AV → HP → (AV → HP → Prop) → Prop
def OpS (prog : Program) (w : World) (base : Heap) (t : List Value → Sem Value) (κ : OPT) : Prop :=
  ∀ (c : Act) (σ : AS) (s : Shared) (vs : List Value) (Q : AV → HP → Prop), c.A.handled = none → c.A.units + 200 < cLine → c.A.depth + 5 < recursionLimit → SR prog w base c σ s → κ (vs.map ab) σ.hp Q →
    wpAny (model prog w) c.A (t vs) (fun x s' => ∃ hp', Step c.priv (fas c.fr) σ.hp s hp' s' ∧ SR prog w base c ⟨σ.loc, hp'⟩ s' ∧ Q (ab x) hp') (fun _ _ => False) s

def kHp (Q : AV → AS → Prop) (l : List (Option AV)) (a : AV) (h : HP) : Prop := Q a ⟨l, h⟩
def kHpE (E : AS → Prop) (l : List (Option AV)) (h : HP) : Prop := E ⟨l, h⟩
def kOp (κ : OPT) (Q : AV → AS → Prop) (as : List AV) : AS → Prop
  | ⟨l, h⟩ => κ as h (kHp Q l)
abbrev vOp (κ : OPT) (g : PT (List AV)) : PT AV := fun σ Q E => g σ (kOp κ Q) E
theorem op_use {t : List Value → Sem Value} {κ : OPT} (h : OpS prog w base t κ) {c : Act} {σ σ' : AS} {s s' : Shared} {vs : List Value} {Q : AV → AS → Prop} {E : AS → Prop} (hn : 5 ≤ n) (ok : AOK sc vars n c) (st : Step c.priv (fas c.fr) σ.hp s σ'.hp s')
    (S : SR prog w base c σ' s') (q : κ (vs.map ab) σ'.hp (fun a hp' => Q a ⟨σ'.loc, hp'⟩)) : wpAny (model prog w) c.A (t vs) (Lf prog w base c σ s fun v σ' => Q (ab v) σ') (Lx prog w base C c σ s E) s' := by
  have h1 := ok.units
  have h2 := ok.depth
  refine wpAny_mono (h c σ' s' vs _ ok.handled (by omega) (by omega) S q) (fun x s2 ⟨hp', st', S', q⟩ => ⟨⟨σ'.loc, hp'⟩, st.trans st', S', q⟩) fun _ _ x => x.elim

/-- [..] -/
structure oList (as : List AV) (hp : HP) (Q : AV → HP → Prop) : Prop where
  n : as.length ≤ 1000
  q : ∀ l, hp l = none → Q (.ref l) (upd hp l (.list as))
structure oTup (as : List AV) (hp : HP) (Q : AV → HP → Prop) : Prop where
  n : as.length ≤ 1000
  q : ∀ l, hp l = none → Q (.ref l) (upd hp l (.tup as))
theorem O_list : OpS prog w base newList oList := by
  intro c σ s vs Q hh hu hd S ⟨hl, q⟩
  rw [List.length_map] at hl
  refine wpAny_newObj_type ?_ (by show vs.toArray.size ≤ sizeLine; rw [List.size_toArray]; exact Nat.le_trans hl (by decide))
  obtain ⟨h1, h2, h3⟩ := S.alloc (o := { cls := .type "list", data := .seq vs.toArray }) (x := .list (vs.map ab)) rfl (fun h e => ⟨vs.toArray, ⟨_, e⟩, rfl⟩) (t := s.toks)
  exact ⟨_, h3, h2, q _ h1⟩
theorem O_tup : OpS prog w base newTuple oTup := by
  intro c σ s vs Q hh hu hd S ⟨hl, q⟩
  rw [List.length_map] at hl
  refine wpAny_newObj_type ?_ (by show vs.toArray.size ≤ sizeLine; rw [List.size_toArray]; exact Nat.le_trans hl (by decide))
  obtain ⟨h1, h2, h3⟩ := S.alloc (o := { cls := .type "tuple", data := .seq vs.toArray }) (x := .tup (vs.map ab)) rfl (fun h e => ⟨vs.toArray, ⟨_, e, rfl, _, rfl⟩, rfl⟩) (t := s.toks)
  exact ⟨_, h3, h2, q _ h1⟩
theorem T_list {es : List PySem.Expr} {pos : Pos} {g : PT (List AV)} (hn : 5 ≤ n) (hg : TL prog w base C sc vars n es g) : TE prog w base C sc vars n (.List es pos) (vOp oList g) := by
  intro c σ s Q E ok S h
  exact List_ (wp_then (hg pos c σ s _ E ok S h) (fun vs σ' s' st S' q => op_use O_list hn ok st S' q) fun _ _ x => x)
theorem T_tup {es : List PySem.Expr} {k : Nat} {pos : Pos} {g : PT (List AV)} (hn : 5 ≤ n) (hg : TL prog w base C sc vars n es g) : TE prog w base C sc vars n (.Tuple es k pos) (vOp oTup g) := by
  intro c σ s Q E ok S h
  exact Tuple_ (wp_then (hg pos c σ s _ E ok S h) (fun vs σ' s' st S' q => op_use O_tup hn ok st S' q) fun _ _ x => x)

/-! binary operations -/
def kOp2b (κ : OPT) (Q : AV → AS → Prop) (a b : AV) : AS → Prop
  | ⟨l, h⟩ => κ [a, b] h (kHp Q l)
def kOp2a (κ : OPT) (g : PT AV) (Q : AV → AS → Prop) (E : AS → Prop) (a : AV) (σ : AS) : Prop := g σ (kOp2b κ Q a) E
abbrev vOp2 (κ : OPT) (f g : PT AV) : PT AV := fun σ Q E => f σ (kOp2a κ g Q E) E
theorem T_bin {op : Operator} {l r : PySem.Expr} {pos : Pos} {κ : OPT} {f g : PT AV} (hκ : OpS prog w base (fun vs => binaryOp op (vs.getD 0 .none) (vs.getD 1 .none)) κ) (hn : 5 ≤ n)
    (hf : TE prog w base C sc vars n l f) (hg : TE prog w base C sc vars n r g) : TE prog w base C sc vars n (.BinOp l op r pos) (vOp2 κ f g) := by
  intro c σ s Q E ok S h
  refine wpAny_BinOp (wp_then (hf c σ s _ E ok S h) (fun u σ1 s1 st1 S1 q => ?_) fun _ _ x => x)
  refine wp_then (hg c σ1 s1 _ E ok S1 q) (fun v σ2 s2 st2 S2 q => ?_) fun _ _ x => lx_trans st1 x
  exact op_use (vs := [u, v]) hκ hn ok (st1.trans st2) S2 q

structure AddS (a b : Str) (hp : HP) (Q : AV → HP → Prop) : Prop where
  n : a.length + b.length ≤ 100000
  q : Q (.str (a ++ b)) hp
inductive AddL (a b : Addr) (hp : HP) (Q : AV → HP → Prop) : Prop
  | mk (xs ys : List AV) (ha : hp a = some (.list xs)) (hb : hp b = some (.list ys)) (n : xs.length + ys.length ≤ 1000) (q : ∀ l, hp l = none → Q (.ref l) (upd hp l (.list (xs ++ ys))))
abbrev oAdd : OPT := fun as hp Q => match as with
  | [.int a, .int b] => Q (.int (a + b)) hp
  | [.str a, .str b] => AddS a b hp Q
  | [.ref a, .ref b] => AddL a b hp Q
  | _ => False
abbrev oSub : OPT := fun as hp Q => match as with
  | [.int a, .int b] => Q (.int (a - b)) hp
  | _ => False
end
end Mine

end

section
open PySem PySem.W PyProof.Rows PySem.Calls
set_option Elab.async false
set_option maxRecDepth 100000
set_option linter.unusedVariables false
namespace Mine

abbrev oMul : OPT := fun as hp Q => match as with
  | [.int a, .int b] => (a.natAbs < 2 ^ 64 ∨ b.natAbs < 2 ^ 64) ∧ Q (.int (a * b)) hp
  | _ => False
abbrev oDiv : OPT := fun as hp Q => match as with
  | [.int a, .int b] => 0 < b ∧ b < 2 ^ 30 ∧ Q (.int (a.fdiv b)) hp
  | _ => False
abbrev oMod : OPT := fun as hp Q => match as with
  | [.int a, .int b] => b ≠ 0 ∧ Q (.int (a.fmod b)) hp
  | _ => False
abbrev oPow : OPT := fun as hp Q => match as with
  | [.int a, .int b] => 0 ≤ b ∧ b ≤ 1000 ∧ a.natAbs < 2 ^ 64 ∧ Q (.int (a ^ b.toNat)) hp
  | _ => False

section
variable {prog : Program} {w : World} {K : Frag} {base : Heap} {mg mb : Str → Option Value} {C : Addr} {sc : Scope} {vars : List Str} {n : Nat}

theorem SR.eta {c : Act} {σ : AS} {s : Shared} (S : SR prog w base c σ s) : SR prog w base c ⟨σ.loc, σ.hp⟩ s := S
theorem two {vs : List Value} {P : AV → AV → Prop} (h : ∃ a b, vs.map ab = [a, b] ∧ P a b) : ∃ u v, vs = [u, v] ∧ P (ab u) (ab v) := by
  obtain ⟨a, b, e, p⟩ := h
  rcases vs with _ | ⟨u, _ | ⟨v, _ | ⟨x, r⟩⟩⟩ <;> simp at e
  obtain ⟨rfl, rfl⟩ := e
  exact ⟨u, v, rfl, p⟩
inductive AddC (as : List AV) (hp : HP) (Q : AV → HP → Prop) : Prop
  | i (a b : Int) (e : as = [.int a, .int b]) (q : Q (.int (a + b)) hp)
  | s (a b : Str) (e : as = [.str a, .str b]) (q : AddS a b hp Q)
  | l (a b : Addr) (e : as = [.ref a, .ref b]) (q : AddL a b hp Q)
theorem inv_add {as : List AV} {hp : HP} {Q : AV → HP → Prop} (q : oAdd as hp Q) : AddC as hp Q := by
  unfold oAdd at q
  split at q
  · exact .i _ _ rfl q
  · exact .s _ _ rfl q
  · exact .l _ _ rfl q
  · exact q.elim
theorem O_add : OpS prog w base (fun vs => binaryOp .Add (vs.getD 0 .none) (vs.getD 1 .none)) oAdd := by
  intro c σ s vs Q hh hu hd S q
  cases inv_add q with
  | i a b e q =>
    obtain ⟨u, v, rfl, e1, e2⟩ := two (P := fun x y => x = .int a ∧ y = .int b) ⟨_, _, e, rfl, rfl⟩
    obtain ⟨ta, rfl⟩ := ab_int e1
    obtain ⟨tb, rfl⟩ := ab_int e2
    exact PyProof.Rows.add_int ⟨_, (Step.refl ..).tok, S.tok, q⟩
  | s a b e q =>
    obtain ⟨u, v, rfl, e1, e2⟩ := two (P := fun x y => x = .str a ∧ y = .str b) ⟨_, _, e, rfl, rfl⟩
    obtain ⟨ta, rfl⟩ := ab_str e1
    obtain ⟨tb, rfl⟩ := ab_str e2
    exact PyProof.Rows.add_str (fun t' tk => ⟨_, (Step.refl ..).tok, S.tok, q.2⟩) (Nat.le_trans q.1 (by decide))
  | l a b e q =>
    obtain ⟨u, v, rfl, e1, e2⟩ := two (P := fun x y => x = .ref a ∧ y = .ref b) ⟨_, _, e, rfl, rfl⟩
    obtain rfl := ab_ref e1
    obtain rfl := ab_ref e2
    obtain ⟨xs, ys, ha, hb, hl, q⟩ := q
    obtain ⟨vs, hv, rfl⟩ := S.cr.hr _ _ ha
    obtain ⟨ws, hw, rfl⟩ := S.cr.hr _ _ hb
    obtain ⟨n, ho⟩ := hv
    obtain ⟨n2, ho2⟩ := hw
    obtain ⟨h1, h2, h3⟩ := S.alloc (o := { cls := .type "list", data := .seq (vs ++ ws) }) (x := .list ((vs ++ ws).toList.map ab)) rfl (fun h e => ⟨_, ⟨_, e⟩, rfl⟩) (t := s.toks)
    refine concat_meets ⟨_, ho, rfl⟩ ⟨_, ho2, rfl⟩ noFill_list_add seq_list_add PySem.F.slot_list_add PySem.F.entry_list_add (PySem.F.args_list_add_2 _ _) (list_addW a b vs ws n n2 none none #[] #[] (by simp only [List.length_map, Array.length_toList] at hl; exact Nat.le_trans hl (by decide))) ⟨ho, ho2, ?_⟩
    have e := q _ h1
    rw [show vs.toList.map ab ++ ws.toList.map ab = (vs ++ ws).toList.map ab by rw [Array.toList_append, List.map_append]] at e
    exact ⟨_, h3, h2, e⟩
/-- an operation of two ints -/
theorem op_ints {t : List Value → Sem Value} {κ : OPT} (P : Int → Int → Prop) (f : Int → Int → Int) (hk : ∀ as hp Q, κ as hp Q → ∃ a b, as = [.int a, .int b] ∧ P a b ∧ Q (.int (f a b)) hp)
    (ht : ∀ (A : Around) (s : Shared) (E : Value → Shared → Prop) (Q : Value → Shared → Prop) (a b : Int) (ta tb : Tok), P a b → Q (.int (f a b) s.toks) { s with toks := s.toks + 1 } → wpAny (model prog w) A (t [.int a ta, .int b tb]) Q E s) : OpS prog w base t κ := by
  intro c σ s vs Q hh hu hd S q
  obtain ⟨a, b, e, hp, q'⟩ := hk _ _ _ q
  obtain ⟨u, v, rfl, e1, e2⟩ := two (P := fun x y => x = .int a ∧ y = .int b) ⟨_, _, e, rfl, rfl⟩
  obtain ⟨ta, rfl⟩ := ab_int e1
  obtain ⟨tb, rfl⟩ := ab_int e2
  exact ht _ _ _ _ _ _ _ _ hp ⟨_, (Step.refl ..).tok, S.tok, q'⟩
theorem O_sub : OpS prog w base (fun vs => binaryOp .Sub (vs.getD 0 .none) (vs.getD 1 .none)) oSub :=
  op_ints (fun _ _ => True) (· - ·) (fun as hp Q q => by unfold oSub at q; split at q; exact ⟨_, _, rfl, trivial, q⟩; exact q.elim) fun A s E Q a b ta tb _ q => PyProof.Rows.sub_int q
theorem bits_small {a : Int} (h : a.natAbs < 2 ^ 64) : Builtin.Int.intBits a ≤ 64 := intBits_le_64 (by omega) (by omega)
theorem O_mul : OpS prog w base (fun vs => binaryOp .Mult (vs.getD 0 .none) (vs.getD 1 .none)) oMul :=
  op_ints (fun a b => a.natAbs < 2 ^ 64 ∨ b.natAbs < 2 ^ 64) (· * ·) (fun as hp Q q => by unfold oMul at q; split at q; exact ⟨_, _, rfl, q.1, q.2⟩; exact q.elim) fun A s E Q a b ta tb hp q =>
    PyProof.Rows.mul_int q (hp.elim (fun h => .of_left (bits_small h)) fun h => .of_right (bits_small h))
theorem O_div : OpS prog w base (fun vs => binaryOp .FloorDiv (vs.getD 0 .none) (vs.getD 1 .none)) oDiv :=
  op_ints (fun a b => 0 < b ∧ b < 2 ^ 30) (fun a b => a.fdiv b) (fun as hp Q q => by unfold oDiv at q; split at q; exact ⟨_, _, rfl, ⟨q.1, q.2.1⟩, q.2.2⟩; exact q.elim) fun A s E Q a b ta tb hp q =>
    PyProof.Rows.floordiv_int (by omega) q (.inl (PyProof.noPylong_small (by omega)))
theorem O_mod : OpS prog w base (fun vs => binaryOp .Mod (vs.getD 0 .none) (vs.getD 1 .none)) oMod :=
  op_ints (fun a b => b ≠ 0) (fun a b => a.fmod b) (fun as hp Q q => by unfold oMod at q; split at q; exact ⟨_, _, rfl, q.1, q.2⟩; exact q.elim) fun A s E Q a b ta tb hp q =>
    PyProof.Rows.mod_int' hp q
theorem O_pow : OpS prog w base (fun vs => binaryOp .Pow (vs.getD 0 .none) (vs.getD 1 .none)) oPow :=
  op_ints (fun a b => 0 ≤ b ∧ b ≤ 1000 ∧ a.natAbs < 2 ^ 64) (fun a b => a ^ b.toNat) (fun as hp Q q => by unfold oPow at q; split at q; exact ⟨_, _, rfl, ⟨q.1, q.2.1, q.2.2.1⟩, q.2.2.2⟩; exact q.elim) fun A s E Q a b ta tb hp q =>
    PyProof.Rows.pow_int_small hp.1 (by omega) hp.2.2 q

/-- - x -/
inductive kNeg (Q : AV → AS → Prop) (a : AV) (σ : AS) : Prop
  | mk (i : Int) (e : a = .int i) (q : Q (.int (-i)) σ)
abbrev vNeg (f : PT AV) : PT AV := fun σ Q E => f σ (kNeg Q) E
theorem T_neg {e : PySem.Expr} {pos : Pos} {f : PT AV} (hf : TE prog w base C sc vars n e f) : TE prog w base C sc vars n (.UnaryOp .USub e pos) (vNeg f) := by
  intro c σ s Q E ok S h
  show wpAny (model prog w) c.A (eval e c.env >>= fun v => standAt pos >>= fun _ => holding [v] (unaryOp .USub v)) _ _ s
  refine wpAny_bind (wp_then (hf c σ s _ E ok S h) (fun v σ' s' st S' ⟨i, e, q⟩ => ?_) fun _ _ x => x)
  obtain ⟨t, rfl⟩ := ab_int e
  exact wpAny_bind (wpAny_standAt (wpAny_holding (PyProof.Rows.neg_int ⟨σ', st.tok, S'.tok, q⟩)))

end
end Mine

end

section
open PySem PySem.W PyProof.Rows PySem.Calls
set_option Elab.async false
set_option maxRecDepth 100000
set_option linter.unusedVariables false
namespace Mine

theorem fas_mem {l : List Env} {env : Env} {a : Addr} (h : env ∈ l) (e : env.frame = some a) : a ∈ fas l := List.mem_filterMap.mpr ⟨env, h, e⟩

section
variable {prog : Program} {w : World} {base : Heap} {C : Addr} {sc : Scope} {vars : List Str} {n : Nat}

/-- what changes where an exception's own records are written -/
structure ExcStep (C : Addr) (pv fa : List Addr) (hp : HP) (s : Shared) (hp' : HP) (s' : Shared) (e : Value) (h'' : Heap) : Prop where
  keep : ∃ X : List Addr, (∀ y ∈ X, Nu pv hp s y ∧ hp' y = none ∧ ∀ o, s'.heap.get? y = some o → ∃ vs, o.data = .fields vs) ∧
    ∀ b o, b ∉ X → s'.heap.get? b = some o → (∃ sl, h''.get? b = some { o with slots := sl }) ∧ (b ∉ fa → h''.get? b = some o)
  exc : ExcR C pv hp s hp' { s' with heap := h'' } e

theorem leave_exc {M : Model} {A : Around} {env : Env} {outer : List Env} {L : Addr} {pv fa : List Addr} {hp hp' : HP} {s s' : Shared} {e : Value} {E : Value → Shared → Prop}
    (hfr : A.frames = some (env :: outer)) (hl : s'.heap.FunFrames base (env :: outer)) (hf : env.frame = some L)
    (st : Step pv fa hp s hp' s') (hr : ∀ a o, hp' a = some o → OH prog w s'.heap a o) (X : ExcR C pv hp s hp' s' e) :
    wpAny M A (leaving env e) (fun _ s'' => ∃ h'', s'' = { s' with heap := h'' } ∧ ExcStep C pv (fas (env :: outer)) hp s hp' s' e h'') E s' := by
  obtain ⟨x, t, oe, vs, rfl, hNx, hpx, hx, hcl, hd, h0, h1⟩ := X
  have fresh : ∀ T : Addr, s'.heap.get? T = none → Nu pv hp s T ∧ hp' T = none := fun T e => by
    refine ⟨fun o ho hn => ?_, ?_⟩
    · by_cases q : T ∈ pv
      · exact q
      · obtain ⟨⟨sl, e'⟩, _⟩ := st.keep T o ho hn q
        rw [e] at e'; cases e'
    · cases q : hp' T with
      | none => rfl
      | some o => obtain ⟨o', ho'⟩ := (hr T o q).there; rw [e] at ho'; cases ho'
  have fin : ∀ (Z : List Addr) (h'' : Heap), (∀ y ∈ Z, Nu pv hp s y ∧ hp' y = none ∧ ∀ o, s'.heap.get? y = some o → ∃ vs, o.data = .fields vs) → Heap.LeftW (hideAll s'.heap (Z ++ fas (env :: outer))) (env :: outer) x oe.cls (.ref t) s'.heap h'' →
      ExcStep C pv (fas (env :: outer)) hp s hp' s' (.ref x) h'' := by
    rintro Z h'' hZ ⟨k1, k2, ⟨oe', vs', T, oT, ts, c1, ⟨c2, c3⟩, c4, c5, c6, c7, c8, c9, c10⟩, k4⟩
    refine ⟨⟨Z, hZ, fun b o hb ho => ?_⟩, x, t, oe', vs', rfl, hNx, hpx, c1, c2.trans hcl, c4, c3, .inr ⟨T, oT, ts, c5, ?_, ?_, c7, c8, c9, c10⟩⟩
    · by_cases hbf : b ∈ fas (env :: outer)
      · obtain ⟨_, o', ho', hnf⟩ := ff_get hl b hbf
        rw [ho] at ho'; cases ho'
        exact ⟨k4 b o ho hnf, fun q => absurd hbf q⟩
      · have := k1 b o (hideAll_get _ ho (by rw [List.mem_append]; exact fun q => q.elim hb hbf))
        exact ⟨⟨o.slots, this⟩, fun _ => this⟩
    all_goals
      cases q : s'.heap.get? T with
      | none => first | exact (fresh T q).1 | exact (fresh T q).2
      | some o =>
        have hT : T ∈ Z ++ fas (env :: outer) := by
          refine Classical.byContradiction fun hn => ?_
          rw [hideAll_get _ q hn] at c6; cases c6
        rcases List.mem_append.mp hT with hT | hT
        · first | exact (hZ T hT).1 | exact (hZ T hT).2.1
        · obtain ⟨_, o', ho', hnf⟩ := ff_get hl T hT
          rw [q] at ho'; cases ho'
          obtain ⟨sl, e'⟩ := k4 T o q hnf
          rw [c8] at e'; cases e'
          exact absurd c9 (hnf ts)
  have ffh : ∀ Z : List Addr, s'.heap.FunFrames (hideAll s'.heap (Z ++ fas (env :: outer))) (env :: outer) := fun Z =>
    funFrames_hide hl fun env' he a ha => List.mem_append.mpr (.inr (fas_mem he ha))
  have hxf : ∀ o, s'.heap.get? x = some o → ∃ vs, o.data = .fields vs := fun o ho => by rw [hx] at ho; cases ho; exact ⟨vs, hd⟩
  rcases h1 with h1 | ⟨T, oT, ts, h1, hNT, hpT, hTx, hT, hdT, h3⟩
  · refine wpAny_leaving_firstW (base := hideAll s'.heap ([x] ++ fas (env :: outer))) hfr (ffh [x]) hf hx (fun b o e => of_hideAll _ e) (hideAll_none _ (by simp)) hd h1 h0 fun h'' hL => ?_
    exact ⟨h'', rfl, fin [x] h'' (fun y hy => by rw [List.mem_singleton.mp hy]; exact ⟨hNx, hpx, hxf⟩) hL⟩
  · refine wpAny_leaving_nextW (base := hideAll s'.heap ([x, T] ++ fas (env :: outer))) (cls := oe.cls) (a0 := .ref t) hfr (ffh [x, T]) hf ⟨oe, vs, T, oT, ts, hx, ⟨rfl, h0⟩, hd, h1, hideAll_none _ (by simp), hTx, hT, hdT, h3⟩ (fun b o e => of_hideAll _ e) (hideAll_none _ (by simp)) fun h'' hL => ?_
    refine ⟨h'', rfl, fin [x, T] h'' (fun y hy => ?_) hL⟩
    rcases List.mem_cons.mp hy with rfl | hy
    · exact ⟨hNx, hpx, hxf⟩
    · rw [List.mem_singleton.mp hy]
      exact ⟨hNT, hpT, fun o ho => by rw [hT] at ho; cases ho; exact ⟨ts, hdT⟩⟩

theorem ns_slots {h h' : Heap} {a : Addr} {m : Str → Option Value} (hn : h.Ns a m) (k : ∀ o, h.get? a = some o → ∃ sl, h'.get? a = some { o with slots := sl }) : h'.Ns a m := by
  obtain ⟨o, es, ep, ho, hd, r⟩ := hn
  obtain ⟨sl, hs⟩ := k o ho
  exact ⟨_, es, ep, hs, hd, r⟩
theorem cell_slots {h h' : Heap} {a : Addr} {v : Option Value} (hn : h.IsCell a v) (k : ∀ o, h.get? a = some o → ∃ sl, h'.get? a = some { o with slots := sl }) : h'.IsCell a v := by
  obtain ⟨o, ho, hd⟩ := hn
  obtain ⟨sl, hs⟩ := k o ho
  exact ⟨_, hs, hd⟩
theorem ns_fields {h : Heap} {a : Addr} {m : Str → Option Value} (hn : h.Ns a m) {o : Obj} (ho : h.get? a = some o) : ∀ vs, o.data ≠ .fields vs := by
  obtain ⟨o', es, ep, ho', hd, r⟩ := hn
  rw [ho] at ho'; cases ho'
  exact fun vs q => by rw [hd] at q; cases q

/-- the caller's state behind a call -/
theorem SR.after {c : Act} {σ : AS} {s s' : Shared} {hp' : HP} (S : SR prog w base c σ s) (st : Step [] (fas c.fr) σ.hp s hp' s') (cr : CR prog w base c.fr hp' s') : SR prog w base c ⟨σ.loc, hp'⟩ s' := by
  have k : ∀ b ∈ c.priv, ∀ o, s.heap.get? b = some o → ∃ sl, s'.heap.get? b = some { o with slots := sl } := fun b hb o ho => (st.keep b o ho (S.priv b hb) (fun h => nomatch h)).1
  refine ⟨?_, fun b hb => ?_, S.prb, fun b hb => ?_, cr⟩
  · obtain ⟨m, hn, hl, hs⟩ := S.loc
    refine ⟨m, ns_slots hn (k _ (.head _)), hl, fun i x oa h1 h2 => ?_⟩
    rcases hs i x oa h1 h2 with h | ⟨h3, cc, ov, h4, h5, h6⟩
    · exact .inl h
    · exact .inr ⟨h3, cc, ov, h4, cell_slots h5 (k _ (.tail _ (List.mem_map.mpr ⟨(x, cc), PySem.mem_of_lookup h4, rfl⟩))), h6⟩
  · obtain ⟨o, ho⟩ := S.plt b hb
    exact (st.keep b o ho (S.priv b hb) (fun h => nomatch h)).2.2
  · obtain ⟨o, ho⟩ := S.plt b hb
    obtain ⟨sl, e⟩ := k b hb o ho
    exact ⟨_, e⟩

/-- contracts of what is called -/
abbrev CPT := List AV → HP → (AV → HP → Prop) → (HP → Prop) → Prop
/-- the end of a def -/
def kFin (Q : AV → HP → Prop) (fl : AF) : AS → Prop
  | ⟨_, h⟩ => match fl with
    | .ret a => Q a h
    | .next => Q .none h
    | _ => False
def kFinE (E : HP → Prop) : AS → Prop
  | ⟨_, h⟩ => E h
/-- a call may be made from here -/
structure FOK (n : Nat) (c : Act) : Prop where
  handled : c.A.handled = none
  frames : c.A.frames = some c.fr
  depth : c.A.depth + n < recursionLimit
  units : c.A.units + 200 * n < cLine
theorem AOK.fok {c : Act} (ok : AOK sc vars n c) : FOK n c := ⟨ok.handled, ok.frames, ok.depth, ok.units⟩
theorem FOK.le {c : Act} {m : Nat} (ok : FOK n c) (h : m ≤ n) : FOK m c := ⟨ok.handled, ok.frames, by have := ok.depth; omega, by have := ok.units; omega⟩
def CallS (prog : Program) (w : World) (base : Heap) (C : Addr) (n : Nat) (f : Value) (κ : CPT) : Prop :=
  ∀ (c : Act) (σ : AS) (s : Shared) (vs : List Value) (Q : AV → HP → Prop) (E : HP → Prop), FOK n c → SR prog w base c σ s → κ (vs.map ab) σ.hp Q E →
    wpAny (model prog w) c.A (call f vs) (fun x s' => ∃ hp', Step c.priv (fas c.fr) σ.hp s hp' s' ∧ SR prog w base c ⟨σ.loc, hp'⟩ s' ∧ Q (ab x) hp') (Lx prog w base C c σ s fun σ' => σ'.loc = σ.loc ∧ E σ'.hp) s
/-- the same of the code alone: what a class calls -/
def CodeS (prog : Program) (w : World) (base : Heap) (C : Addr) (n : Nat) (f : Value) (κ : CPT) : Prop :=
  ∀ (c : Act) (σ : AS) (s : Shared) (vs : List Value) (Q : AV → HP → Prop) (E : HP → Prop), FOK n c → SR prog w base c σ s → κ (vs.map ab) σ.hp Q E →
    codeAny (model prog w) c.A (.call f ⟨vs, []⟩) (fun r s' => match r with
      | .ok (.ret x) => ∃ hp', Step c.priv (fas c.fr) σ.hp s hp' s' ∧ SR prog w base c ⟨σ.loc, hp'⟩ s' ∧ Q (ab x) hp'
      | .ok _ => False
      | .error e => Lx prog w base C c σ s (fun σ' => σ'.loc = σ.loc ∧ E σ'.hp) e s') s
theorem CodeS.call {f : Value} {κ : CPT} (h : CodeS prog w base C n f κ) : CallS prog w base C n f κ := fun c σ s vs Q E ok S q => wpAny_call (codeAny_mono (h c σ s vs Q E ok S q) fun r s' z => by
  rcases r with e | (v | _ | _ | _) <;> exact z)

/-- a function of the text, as it stands -/
structure FunIn (K : Frag) (a : Addr) (ps : List Str) (rest : List Str) (sc : Scope) (body : List Stmt) (fd : FuncData) : Prop where
  at_ : ∃ o, K.lookup a = some o ∧ o.data = .func fd
  body : fd.body = .stmts body
  scope : fd.scope = sc
  globals : fd.globals = mainGlobals
  builtins : fd.builtins = builtinsNs
  closure : fd.closure = []
  code : codeIn K fd.code fd.qualname = true
  bind : ∀ vals : List Value, vals.length = ps.length → bindArgs fd ⟨vals, []⟩ = pure (ps.zip vals)
  nd : (ps ++ rest).Nodup
  kinds : ((ps ++ rest).all fun x => sc.names.lookup x == some .local || sc.names.lookup x == some .cell) = true
  cells : ((cellsFrom 0 sc.names []).map (·.1)).Nodup
  co : sc.isCoroutine = false
  gen : sc.isGenerator = false
  kind : sc.kind = .function

theorem bindL_other {k : Str → Option NameKind} {x : Str} : ∀ {binds : List (Str × Value)} {m : Str → Option Value}, x ∉ binds.map (·.1) → bindL k binds m x = m x
  | [], m, _ => rfl
  | (y, v) :: r, m, h => by
    rw [List.map_cons, List.mem_cons, not_or] at h
    unfold bindL
    rw [bindL_other h.2]
    split
    · exact if_neg h.1
    · rfl
theorem bindL_get {k : Str → Option NameKind} {x : Str} {v : Value} (hx : k x = some .local) : ∀ {binds : List (Str × Value)} {m : Str → Option Value}, (binds.map (·.1)).Nodup → (x, v) ∈ binds → bindL k binds m x = some v
  | (y, u) :: r, m, hn, h => by
    rw [List.map_cons, List.nodup_cons] at hn
    unfold bindL
    rcases List.mem_cons.mp h with e | h
    · cases e
      rw [bindL_other hn.1, if_pos hx]; simp
    · exact bindL_get hx hn.2 h
theorem bindC_other {k : Str → Option NameKind} {x : Str} : ∀ {binds : List (Str × Value)} {m : Str → Option Value}, x ∉ binds.map (·.1) → bindC k binds m x = m x
  | [], m, _ => rfl
  | (y, v) :: r, m, h => by
    rw [List.map_cons, List.mem_cons, not_or] at h
    unfold bindC
    rw [bindC_other h.2]
    split
    · rfl
    · exact if_neg h.1
theorem bindC_get {k : Str → Option NameKind} {x : Str} {v : Value} (hx : k x ≠ some .local) : ∀ {binds : List (Str × Value)} {m : Str → Option Value}, (binds.map (·.1)).Nodup → (x, v) ∈ binds → bindC k binds m x = some v
  | (y, u) :: r, m, hn, h => by
    rw [List.map_cons, List.nodup_cons] at hn
    unfold bindC
    rcases List.mem_cons.mp h with e | h
    · cases e
      rw [bindC_other hn.1, if_neg hx]; simp
    · exact bindC_get hx hn.2 h
end
end Mine

end

section
open PySem PySem.W PyProof.Rows PySem.Calls
set_option Elab.async false
set_option maxRecDepth 100000
set_option linter.unusedVariables false
namespace Mine

section
variable {prog : Program} {w : World} {K : Frag} {base : Heap} {C : Addr} {sc : Scope} {n : Nat}

theorem zip_keys : ∀ {ps : List Str} {vs : List Value}, vs.length = ps.length → (ps.zip vs).map (·.1) = ps
  | [], [], _ => rfl
  | p :: ps, v :: vs, h => by rw [List.zip_cons_cons, List.map_cons, zip_keys (by simpa using h)]

theorem fun_loc {ps rest : List Str} {k : Str → Option NameKind} {vs : List Value} {h : Heap} {env : Env} {s₀ s : Shared} (hl : vs.length = ps.length) (nd : (ps ++ rest).Nodup) (kinds : ∀ x ∈ ps ++ rest, env.kindOf x = some .local ∨ env.kindOf x = some .cell)
    (cs : ∀ x, env.kindOf x = some .cell → (env.cells.lookup x).isSome = true)
    (x : InCallC s₀ env.locals (bindL env.kindOf (ps.zip vs) fun _ => none) env.cells (bindC env.kindOf (ps.zip vs) fun _ => none) s) (A : Around) (fr : List Env) :
    LocR ⟨env, A, ps ++ rest, fr⟩ s.heap ((vs.map ab).map some ++ rest.map fun _ => none) := by
  refine ⟨_, x.toInCall.ns, by simp [hl], fun i y oa hy ho => ?_⟩
  have hy' : (ps ++ rest)[i]? = some y := hy
  have hmem : y ∈ ps ++ rest := List.mem_of_getElem? hy'
  have keys : (ps.zip vs).map (·.1) = ps := zip_keys hl
  have ndp : ((ps.zip vs).map (·.1)).Nodup := by rw [keys]; exact (List.nodup_append.mp nd).1
  have val : (∃ v, (y, v) ∈ ps.zip vs ∧ oa = some (ab v)) ∨ (y ∉ (ps.zip vs).map (·.1) ∧ oa = none) := by
    by_cases hi : i < ps.length
    · refine .inl ?_
      have hv : i < vs.length := by omega
      rw [List.getElem?_append_left hi] at hy'
      rw [List.getElem?_append_left (by simpa using hv)] at ho
      refine ⟨vs[i], ?_, ?_⟩
      · refine List.mem_iff_getElem?.mpr ⟨i, ?_⟩
        rw [List.getElem?_zip_eq_some]
        exact ⟨hy', List.getElem?_eq_getElem hv⟩
      · simp only [List.getElem?_map, List.getElem?_eq_getElem hv, Option.map_some] at ho
        exact (Option.some.inj ho).symm
    · refine .inr ?_
      rw [List.getElem?_append_right (by omega)] at hy'
      rw [List.getElem?_append_right (by simp [hl]; omega)] at ho
      rw [keys]
      refine ⟨fun q => ?_, ?_⟩
      · exact (List.nodup_append.mp nd).2.2 y q y (List.mem_of_getElem? hy') rfl
      · simp only [List.getElem?_map] at ho
        cases e : rest[i - ((vs.map ab).map some).length]? with
        | none => rw [e] at ho; cases ho
        | some z => rw [e] at ho; exact (Option.some.inj ho).symm
  rcases kinds y hmem with hk | hk
  · refine .inl ⟨hk, ?_⟩
    rcases val with ⟨v, hv, rfl⟩ | ⟨hv, rfl⟩
    · rw [bindL_get hk ndp hv]; rfl
    · rw [bindL_other hv]; rfl
  · refine .inr ⟨.inl hk, ?_⟩
    obtain ⟨cc, hc⟩ := Option.isSome_iff_exists.mp (cs y hk)
    refine ⟨cc, _, hc, x.cell y cc hc, ?_⟩
    rcases val with ⟨v, hv, rfl⟩ | ⟨hv, rfl⟩
    · rw [bindC_get (by rw [hk]; decide) ndp hv]; rfl
    · rw [bindC_other hv]; rfl

/-- the same from a caller of whom no frame is known -/
structure FOKR (n : Nat) (A : Around) (fr : List Env) : Prop where
  handled : A.handled = none
  frames : A.frames = some fr
  depth : A.depth + n < recursionLimit
  units : A.units + 200 * n < cLine
def CodeR (prog : Program) (w : World) (base : Heap) (C : Addr) (n : Nat) (f : Value) (κ : CPT) : Prop :=
  ∀ (A : Around) (fr : List Env) (hp : HP) (s : Shared) (vs : List Value) (Q : AV → HP → Prop) (E : HP → Prop), FOKR n A fr → CR prog w base fr hp s → κ (vs.map ab) hp Q E →
    codeAny (model prog w) A (.call f ⟨vs, []⟩) (fun r s' => match r with
      | .ok (.ret x) => ∃ hp', Step [] (fas fr) hp s hp' s' ∧ CR prog w base fr hp' s' ∧ Q (ab x) hp'
      | .ok _ => False
      | .error e => ∃ hp', Step [] (fas fr) hp s hp' s' ∧ CR prog w base fr hp' s' ∧ ExcR C [] hp s hp' s' e ∧ E hp') s
theorem Nu.wide {pv : List Addr} {hp : HP} {s : Shared} {x : Addr} (h : Nu [] hp s x) : Nu pv hp s x := fun o ho hn => nomatch h o ho hn
theorem CodeR.s {f : Value} {κ : CPT} (h : CodeR prog w base C n f κ) : CodeS prog w base C n f κ := fun c σ s vs Q E ok S q => codeAny_mono (h c.A c.fr σ.hp s vs Q E ⟨ok.handled, ok.frames, ok.depth, ok.units⟩ S.cr q) fun r s' z => by
  rcases r with e | (v | _ | _ | _)
  · obtain ⟨hp', st, cr, ⟨x, t, oe, vs, h1, h2, h3⟩, qe⟩ := z
    refine ⟨⟨σ.loc, hp'⟩, st.wide (fun _ h => nomatch h), S.after st cr, ⟨x, t, oe, vs, h1, h2.wide, h3.1, h3.2.1, h3.2.2.1, h3.2.2.2.1, h3.2.2.2.2.1, h3.2.2.2.2.2.imp id ?_⟩, rfl, qe⟩
    rintro ⟨T, oT, ts, j1, j2, j3⟩
    exact ⟨T, oT, ts, j1, j2.wide, j3⟩
  all_goals first | exact z.elim | skip
  all_goals (obtain ⟨hp', st, cr, q⟩ := z; exact ⟨hp', st.wide (fun _ h => nomatch h), S.after st cr, q⟩)
theorem fun_code (X : K.In base) (nolimit : base.NoLimit) {a : Addr} {ps rest : List Str} {body : List Stmt} {fd : FuncData} (F : FunIn K a ps rest sc body fd) {p : PT AF} (hp : TB prog w base C sc (ps ++ rest) n body p) {κ : CPT}
    (hκ : ∀ as hp Q E, κ as hp Q E → as.length = ps.length ∧ p ⟨as.map some ++ rest.map (fun _ => none), hp⟩ (kFin Q) (kFinE E)) :
    CodeR prog w base C (n + 1) (.ref a) κ := by
  intro A fr hp0 s vs Q E ok cr0 q
  obtain ⟨hlen, q⟩ := hκ _ _ _ _ q
  rw [List.length_map] at hlen
  obtain ⟨o, ho, hd⟩ := F.at_
  have hbs : ∀ b o, base.get? b = some o → s.heap.get? b = some o := cr0.bs
  have kinds0 := fun x (hx : x ∈ ps ++ rest) => List.all_eq_true.mp F.kinds x hx
  have kinds1 : ∀ x ∈ ps ++ rest, sc.names.lookup x = some .local ∨ sc.names.lookup x = some .cell := fun x hx => by
    rcases Bool.or_eq_true_iff.mp (kinds0 x hx) with h | h
    · exact .inl (by simpa using h)
    · exact .inr (by simpa using h)
  have cellsN : ∀ m, (cellsFrom m fd.scope.names []).map (·.1) = (cellsFrom 0 sc.names []).map (·.1) := fun m => by rw [F.scope]; exact cellsFrom_names sc.names m 0 [] [] rfl
  refine codeAny_call_cells (fd := fd) (body := body) (binds := ps.zip vs) (by have := ok.depth; omega) (hbs _ _ (X _ _ ho)) hd (nolimit.keeps hbs) ((codeRec_of (X.keeps hbs) F.code)) F.body (F.bind vs hlen) F.closure (fun x hx => ?_) (fun s₁ x => ?_)
    (by rw [F.scope]; exact F.co) (by rw [F.scope]; exact F.gen) (by rw [F.scope]; exact F.kind)
  · have hx' : x.1 ∈ ps ++ rest := List.mem_append.mpr (.inl (by have := List.mem_map_of_mem (f := (·.1)) hx; rwa [zip_keys hlen] at this))
    rw [F.scope]
    rcases kinds1 _ hx' with h | h
    · exact .inl h
    · exact .inr ⟨h, cellsFrom_some _ _ _ (.inl h)⟩
  generalize hE : callEnvC fd s.heap.objs.size a = env at x ⊢
  have eL : env.locals = s.heap.objs.size := by rw [← hE]; rfl
  have eF : env.frame = some s.heap.objs.size := by rw [← hE]; rfl
  have eS : env.scope = sc := by rw [← hE]; exact F.scope
  have eG : env.globals = mainGlobals := by rw [← hE]; exact F.globals
  have eB : env.builtins = builtinsNs := by rw [← hE]; exact F.builtins
  have eC : env.cells = cellsFrom (s.heap.objs.size + 1) fd.scope.names [] := by rw [← hE]; rfl
  have hKeep := x.toInCall.keep
  obtain ⟨h₁, tk, e1, _⟩ := x.done
  have above : ∀ b ∈ (⟨env, A.deeper env, ps ++ rest, env :: fr⟩ : Act).priv, s.heap.objs.size ≤ b := by
    intro b hb
    rcases List.mem_cons.mp hb with rfl | hb
    · exact Nat.le_of_eq eL.symm
    · obtain ⟨⟨y, cc⟩, hm, rfl⟩ := List.mem_map.mp hb
      have := x.above y cc hm
      rw [eL] at this; exact Nat.le_of_lt this
  have fresh : ∀ b, s.heap.objs.size ≤ b → s.heap.get? b = none := fun b hb => none_of_le hb
  have freshp : ∀ b ∈ (⟨env, A.deeper env, ps ++ rest, env :: fr⟩ : Act).priv, s.heap.get? b = none := fun b hb => fresh b (above b hb)
  have hpn : ∀ b, s.heap.get? b = none → hp0 b = none := fun b hb => by
    cases q : hp0 b with
    | none => rfl
    | some y => obtain ⟨o', ho'⟩ := (cr0.hr b y q).there; rw [hb] at ho'; cases ho'
  have hbn : ∀ b, s.heap.get? b = none → base.get? b = none := fun b hb => by
    cases q : base.get? b with
    | none => rfl
    | some y => rw [hbs b y q] at hb; cases hb
  have nd2 : (⟨env, A.deeper env, ps ++ rest, env :: fr⟩ : Act).priv.Nodup := by
    refine List.nodup_cons.mpr ⟨fun hb => ?_, ?_⟩
    · obtain ⟨⟨y, cc⟩, hm, e⟩ := List.mem_map.mp hb
      have := x.above y cc hm
      exact Nat.lt_irrefl _ (e ▸ this)
    · rw [List.nodup_iff_pairwise_ne, List.pairwise_map]; exact x.apart
  have nd1 : (env.cells.map (·.1)).Nodup := by rw [eC, cellsN]; exact F.cells
  have kd : ∀ y, env.kindOf y = sc.names.lookup y := fun y => by unfold Env.kindOf; rw [eS]
  have ok' : AOK sc (ps ++ rest) n ⟨env, A.deeper env, ps ++ rest, env :: fr⟩ :=
    ⟨eS, rfl, F.kind, F.nd, eG, eB, ok.handled, by show A.frames.map _ = _; rw [ok.frames]; rfl, by have := ok.depth; show A.depth + 1 + n < _; omega, by have := ok.units; show A.units + 3 + 200 * n < _; omega, nd2, nd1, fun _ => ⟨fr, _, rfl, eF, fun h => by show env.cells = []; rw [eC]; exact List.map_eq_nil_iff.mp ((cellsN _).trans h)⟩⟩
  have Lget : ∃ o, s₁.heap.get? env.locals = some o ∧ ∀ vs, o.data ≠ .fields vs := by
    obtain ⟨o', es, ep, ho', hd', r⟩ := x.toInCall.ns
    exact ⟨o', ho', fun vs q => by rw [hd'] at q; cases q⟩
  have ffr : s₁.heap.FunFrames base (env :: fr) := by
    obtain ⟨o', ho', hd'⟩ := Lget
    refine ⟨by rw [eS, F.kind]; decide, ⟨env.locals, o', by rw [eF, eL], hbn _ (freshp _ (.head _)), ho', hd'⟩, ff_keep (fun b _ o e => hKeep b o e) cr0.frames⟩
  have S' : SR prog w base ⟨env, A.deeper env, ps ++ rest, env :: fr⟩ ⟨(vs.map ab).map some ++ rest.map (fun _ => none), hp0⟩ s₁ := by
    refine ⟨fun_loc (k := env.kindOf) (h := s.heap) hlen F.nd (fun y hy => by rw [kd]; exact kinds1 y hy) (fun y hy => by rw [eC]; exact cellsFrom_some _ _ _ (.inl (by rw [F.scope, ← kd]; exact hy))) x _ _,
      fun b hb => hpn b (freshp b hb), fun b hb => hbn b (freshp b hb), fun b hb => ?_, ⟨fun a o e => (cr0.hr a o e).at fun o' e' => hKeep a o' e', fun b hb => ?_, fun b o e => hKeep b o (hbs b o e), cr0.nb, ffr⟩⟩
    · rcases List.mem_cons.mp hb with rfl | hb
      · obtain ⟨o', ho', _⟩ := Lget
        exact ⟨o', ho'⟩
      · obtain ⟨⟨y, cc⟩, hm, rfl⟩ := List.mem_map.mp hb
        have hlk : env.cells.lookup y = some cc := lookup_of_mem_nodup nd1 hm
        obtain ⟨o', ho', _⟩ := x.cell y cc hlk
        exact ⟨o', ho'⟩
    · have : fas (env :: fr) = s.heap.objs.size :: fas fr := by unfold fas; rw [List.filterMap_cons, eF]
      rw [show (⟨env, A.deeper env, ps ++ rest, env :: fr⟩ : Act).fr = env :: fr from rfl, this] at hb
      rcases List.mem_cons.mp hb with rfl | hb
      · exact hpn _ (fresh _ (Nat.le_refl _))
      · exact cr0.frm b hb
  have fasC : fas (env :: fr) = s.heap.objs.size :: fas fr := by unfold fas; rw [List.filterMap_cons, eF]
  -- leaving
  have back : ∀ (hp' : HP) (s' s'' : Shared) (Z : List Addr), Step (⟨env, A.deeper env, ps ++ rest, env :: fr⟩ : Act).priv (fas (env :: fr)) hp0 s₁ hp' s' → SR prog w base ⟨env, A.deeper env, ps ++ rest, env :: fr⟩ ⟨[], hp'⟩ s' ∨ CR prog w base (env :: fr) hp' s' →
      (∀ y ∈ Z, Nu (⟨env, A.deeper env, ps ++ rest, env :: fr⟩ : Act).priv hp0 s₁ y ∧ hp' y = none ∧ ∀ o, s'.heap.get? y = some o → ∃ vs, o.data = .fields vs) →
      (∀ b o, b ∉ Z → s'.heap.get? b = some o → (∃ sl, s''.heap.get? b = some { o with slots := sl }) ∧ (b ∉ fas (env :: fr) → s''.heap.get? b = some o)) →
      s''.gens = s'.gens → s''.drawn = s'.drawn → s''.os = s'.os → Step [] (fas fr) hp0 s hp' s'' ∧ CR prog w base fr hp' s'' := by
    intro hp' s' s'' Z st cr hZ k g1 g2 g3
    have cr : CR prog w base (env :: fr) hp' s' := cr.elim (·.cr) id
    have kk : ∀ b o, s.heap.get? b = some o → hp0 b = none → (∃ sl, s''.heap.get? b = some { o with slots := sl }) ∧ (b ∉ fas fr → s''.heap.get? b = some o) ∧ hp' b = none := by
      intro b o hb hn
      have hlt : b < s.heap.objs.size := Heap.lt_size hb
      have np : b ∉ (⟨env, A.deeper env, ps ++ rest, env :: fr⟩ : Act).priv := fun h => absurd hlt (Nat.not_lt.mpr (above b h))
      obtain ⟨⟨sl, a1⟩, a2, a3⟩ := st.keep b o (hKeep b o hb) hn np
      have nZ : b ∉ Z := fun h => np ((hZ b h).1 o (hKeep b o hb) hn)
      obtain ⟨⟨sl', b1⟩, b2⟩ := k b _ nZ a1
      refine ⟨⟨sl', b1⟩, fun hf => ?_, a3⟩
      have hf' : b ∉ fas (env :: fr) := by rw [fasC]; exact fun h => (List.mem_cons.mp h).elim (fun e => absurd hlt (by rw [e]; exact Nat.lt_irrefl _)) hf
      exact (k b o nZ (a2 hf')).2 hf'
    have kn : ∀ b o, hp' b = some o → ∀ o', s'.heap.get? b = some o' → s''.heap.get? b = some o' := fun b o hb o' ho' => by
      refine (k b o' (fun h => ?_) ho').2 fun h => ?_
      · rw [(hZ b h).2.1] at hb; cases hb
      · rw [cr.frm b h] at hb; cases hb
    refine ⟨⟨fun b o hb hn _ => kk b o hb hn, ?_, ?_, ?_⟩, ⟨fun a o e => (cr.hr a o e).at (kn a o e), fun b hb => cr.frm b (by rw [fasC]; exact .tail _ hb), fun b o e => ?_, cr.nb, ?_⟩⟩
    · rw [g1, st.gens, e1]
    · rw [g2, st.drawn, e1]
    · rw [g3, st.os, e1]
    · have hn : hp0 b = none := by
        cases q : hp0 b with
        | none => rfl
        | some y => have := cr0.nb b (by rw [q]; simp); rw [e] at this; cases this
      refine (kk b o (hbs b o e) hn).2.1 fun hf => ?_
      rw [(ff_get cr0.frames b hf).1] at e; cases e
    · obtain ⟨_, _, f3⟩ := cr.frames
      refine f3.of_keeps fun b o hb hnf => ?_
      obtain ⟨sl, e⟩ := (k b o (fun h => by obtain ⟨vs, q⟩ := (hZ b h).2.2 o hb; exact hnf vs q) hb).1
      exact ⟨_, e, rfl⟩
  refine wpAny_mono (hp _ _ s₁ _ _ ok' S' q) (fun fl s' h => ?_) (fun e s' h => ?_)
  · obtain ⟨σ', st, S'', qf⟩ := h
    obtain ⟨r1, r2⟩ := back σ'.hp s' s' [] st (.inr S''.cr) (fun _ h => nomatch h) (fun b o _ e => ⟨⟨o.slots, e⟩, fun _ => e⟩) rfl rfl rfl
    refine ⟨σ'.hp, r1, r2, ?_⟩
    cases fl with
    | next => exact qf
    | ret v => exact qf
    | brk => exact qf.elim
    | cont => exact qf.elim
  · obtain ⟨σ', st, S'', hx, qe⟩ := h
    refine wpAny_mono (leave_exc (base := base) (E := fun _ _ => False) (L := s.heap.objs.size) ok'.frames S''.cr.frames eF st S''.cr.hr hx) (fun _ s'' h => ?_) (fun _ _ x => x.elim)
    obtain ⟨h'', e2, ⟨Z, hZ, k⟩, hx'⟩ := h
    obtain ⟨r1, r2⟩ := back σ'.hp s' s'' Z st (.inr S''.cr) hZ (by rw [e2]; exact k) (by rw [e2]) (by rw [e2]) (by rw [e2])
    refine ⟨σ'.hp, r1, r2, ?_, qe⟩
    rw [e2]
    obtain ⟨x1, t, oe, ws, g1, g2, g3⟩ := hx'
    have nu : ∀ y, Nu (⟨env, A.deeper env, ps ++ rest, env :: fr⟩ : Act).priv hp0 s₁ y → Nu [] hp0 s y := fun y hy o ho hn =>
      absurd (Heap.lt_size ho) (Nat.not_lt.mpr (above y (hy o (hKeep y o ho) hn)))
    refine ⟨x1, t, oe, ws, g1, nu _ g2, g3.1, g3.2.1, g3.2.2.1, g3.2.2.2.1, g3.2.2.2.2.1, g3.2.2.2.2.2.imp id ?_⟩
    rintro ⟨T, oT, ts, j1, j2, j3⟩
    exact ⟨T, oT, ts, j1, nu _ j2, j3⟩
theorem fun_call (X : K.In base) (nolimit : base.NoLimit) {a : Addr} {ps rest : List Str} {body : List Stmt} {fd : FuncData} (F : FunIn K a ps rest sc body fd) {p : PT AF} (hp : TB prog w base C sc (ps ++ rest) n body p) {κ : CPT}
    (hκ : ∀ as hp Q E, κ as hp Q E → as.length = ps.length ∧ p ⟨as.map some ++ rest.map (fun _ => none), hp⟩ (kFin Q) (kFinE E)) :
    CodeS prog w base C (n + 1) (.ref a) κ := (fun_code X nolimit F hp hκ).s
end
end Mine

end

section
open PySem PySem.W PyProof.Rows PySem.Calls
set_option Elab.async false
set_option maxRecDepth 100000
set_option linter.unusedVariables false
namespace Mine

theorem ns_inj {h : Heap} {a : Addr} {m m' : Str → Option Value} (x : h.Ns a m) (y : h.Ns a m') : m = m' := by
  obtain ⟨o, es, ep, ho, hd, _, hf⟩ := x
  obtain ⟨o', es', ep', ho', hd', _, hf'⟩ := y
  rw [ho] at ho'; cases ho'
  rw [hd] at hd'; cases hd'
  funext z
  rw [← hf z, ← hf' z]
theorem ff_keep' {h h' base : Heap} : ∀ {l : List Env}, (∀ b ∈ fas l, ∀ o, h.get? b = some o → (∀ vs, o.data ≠ .fields vs) → ∃ o', h'.get? b = some o' ∧ ∀ vs, o'.data ≠ .fields vs) → h.FunFrames base l → h'.FunFrames base l
  | [], _, _ => trivial
  | env :: r, hk, ⟨hf, ⟨L, o, hL, hn, ho, hd⟩, hr⟩ => by
    have e : fas (env :: r) = L :: fas r := by unfold fas; rw [List.filterMap_cons, hL]
    rw [e] at hk
    obtain ⟨o', ho', hd'⟩ := hk L (.head _) o ho hd
    exact ⟨hf, ⟨L, o', hL, hn, ho', hd'⟩, ff_keep' (fun b hb => hk b (.tail _ hb)) hr⟩
def emptyH : Heap := { objs := #[] }
theorem emptyH_get (b : Addr) : emptyH.get? b = none := none_of_le (Nat.zero_le _)
/-- every object of a heap but two, written as a ledger -/
theorem ledger (h : Heap) (L D : Addr) (oD : Obj) (hD : h.get? D = some oD) (hDL : D ≠ L) :
    ∃ news : List (Addr × Obj), News emptyH L h ([] ++ (D, oD) :: news) ∧ (∀ p ∈ news, p.1 ≠ D) ∧ ∀ b o, h.get? b = some o → b ≠ L → b ≠ D → (b, o) ∈ news := by
  refine ⟨(List.range h.objs.size).filterMap fun b => if b = L ∨ b = D then none else (h.get? b).map fun o => (b, o), ?_, ?_, ?_⟩
  · intro p hp
    rcases List.mem_cons.mp hp with rfl | hp
    · exact ⟨hD, hDL, emptyH_get _⟩
    · obtain ⟨b, _, hb⟩ := List.mem_filterMap.mp hp
      split at hb
      · cases hb
      · rename_i hn
        obtain ⟨o, ho, rfl⟩ := Option.map_eq_some_iff.mp hb
        exact ⟨ho, fun q => hn (.inl q), emptyH_get _⟩
  · intro p hp
    obtain ⟨b, _, hb⟩ := List.mem_filterMap.mp hp
    split at hb
    · cases hb
    · rename_i hn
      obtain ⟨o, ho, rfl⟩ := Option.map_eq_some_iff.mp hb
      exact fun q => hn (.inr q)
  · intro b o ho hL hD
    refine List.mem_filterMap.mpr ⟨b, List.mem_range.mpr (Heap.lt_size ho), ?_⟩
    rw [if_neg (by rintro (q | q); exact hL q; exact hD q), ho]; rfl

section
variable {prog : Program} {w : World} {K : Frag} {base : Heap} {mg mb : Str → Option Value} {C : Addr} {sc : Scope} {vars : List Str} {n : Nat}

/-- a known object changed by a rule that speaks of ledgers -/
theorem SR.writeL {c : Act} {σ : AS} {s : Shared} (S : SR prog w base c σ s) {D : Addr} {x y : AObj} {oD : Obj} (hD : σ.hp D = some x) (ho : s.heap.get? D = some oD) :
    ∃ (m : Str → Option Value) (news : List (Addr × Obj)), Fr emptyH c.env.locals s.heap m ∧ News emptyH c.env.locals s.heap ([] ++ (D, oD) :: news) ∧ (∀ p ∈ news, p.1 ≠ D) ∧
      ∀ (h' : Heap) (oD' : Obj) (t : Nat), Fr emptyH c.env.locals h' m → News emptyH c.env.locals h' ([] ++ (D, oD') :: news) → (∀ h : Heap, h.get? D = some oD' → OH prog w h D y) →
        SR prog w base c ⟨σ.loc, upd σ.hp D y⟩ { s with heap := h', toks := t } ∧ Step c.priv (fas c.fr) σ.hp s (upd σ.hp D y) { s with heap := h', toks := t } := by
  obtain ⟨m, hn, hl, hs⟩ := S.loc
  have hLn : σ.hp c.env.locals = none := S.priv _ (.head _)
  have hDL : D ≠ c.env.locals := fun q => by rw [q, hLn] at hD; cases hD
  obtain ⟨news, N, hND, hall⟩ := ledger s.heap c.env.locals D oD ho hDL
  refine ⟨m, news, ⟨hn, (fun b o e => by rw [emptyH_get] at e; cases e), Nat.zero_le _⟩, N, hND, fun h' oD' t F' N' hy => ?_⟩
  have k : ∀ b o, s.heap.get? b = some o → b ≠ D → b ≠ c.env.locals → h'.get? b = some o := fun b o e h1 h2 => (N' (b, o) (.tail _ (hall b o e h2 h1))).1
  have kD : h'.get? D = some oD' := (N' (D, oD') (.head _)).1
  have nD : ∀ b, σ.hp b = none → b ≠ D := fun b e q => by rw [q, hD] at e; cases e
  have kn : ∀ b o, σ.hp b = some o → b ≠ c.env.locals := fun b o e q => by rw [q, hLn] at e; cases e
  refine ⟨⟨⟨m, F'.ns, hl, fun i z oa h1 h2 => ?_⟩, fun b hb => ?_, S.prb, fun b hb => ?_, ⟨fun a o e => ?_, fun b hb => ?_, fun b o e => ?_, fun b hb => ?_, ?_⟩⟩, ⟨fun b o e hn' hp => ?_, rfl, rfl, rfl⟩⟩
  · rcases hs i z oa h1 h2 with h | ⟨h3, cc, ov, h4, ⟨o, ho', hd⟩, h6⟩
    · exact .inl h
    · refine .inr ⟨h3, cc, ov, h4, ⟨o, k cc o ho' (nD _ (S.priv cc (.tail _ (List.mem_map.mpr ⟨(z, cc), PySem.mem_of_lookup h4, rfl⟩)))) fun q => ?_, hd⟩, h6⟩
      obtain ⟨o', es, ep, ho'', hd', _⟩ := hn
      rw [q, ho''] at ho'; cases ho'; rw [hd'] at hd; cases hd
  · show upd σ.hp D y b = none
    rw [upd_other (nD b (S.priv b hb))]; exact S.priv b hb
  · obtain ⟨o, e⟩ := S.plt b hb
    by_cases q : b = c.env.locals
    · subst q
      obtain ⟨o', es, ep, ho', _⟩ := F'.ns
      exact ⟨o', ho'⟩
    · exact ⟨o, k b o e (nD b (S.priv b hb)) q⟩
  · change upd σ.hp D y a = some o at e
    by_cases q : a = D
    · subst q
      rw [upd_self] at e; cases e
      exact hy h' kD
    · rw [upd_other q] at e
      exact (S.cr.hr a o e).at fun o' e' => k a o' e' q (kn a o e)
  · show upd σ.hp D y b = none
    rw [upd_other (nD b (S.cr.frm b hb))]; exact S.cr.frm b hb
  · have h1 := S.cr.bs b o e
    refine k b o h1 (fun q => ?_) fun q => ?_
    · have := S.cr.nb D (by rw [hD]; simp)
      rw [← q, e] at this; cases this
    · have := S.prb c.env.locals (.head _)
      rw [← q, e] at this; cases this
  · by_cases q : b = D
    · subst q; exact S.cr.nb b (by rw [hD]; simp)
    · exact S.cr.nb b (by rw [← upd_other (hp := σ.hp) (o := y) q]; exact hb)
  · refine ff_keep' (fun b hb o e hnf => ?_) S.cr.frames
    by_cases q : b = c.env.locals
    · subst q
      obtain ⟨o', es, ep, ho', hd', _⟩ := F'.ns
      exact ⟨o', ho', fun vs q => by rw [hd'] at q; cases q⟩
    · exact ⟨o, k b o e (nD b (S.cr.frm b hb)) q, hnf⟩
  · have h1 : b ≠ c.env.locals := fun q => hp (q ▸ .head _)
    exact ⟨⟨o.slots, k b o e (nD b hn') h1⟩, fun _ => k b o e (nD b hn') h1, by show upd σ.hp D y b = none; rw [upd_other (nD b hn')]; exact hn'⟩
end
end Mine

end

section
open PySem PySem.W PyProof.Rows PySem.Calls
set_option Elab.async false
set_option maxRecDepth 100000
set_option linter.unusedVariables false
namespace Mine

section
variable {prog : Program} {w : World} {K : Frag} {base : Heap} {mg mb : Str → Option Value} {C : Addr} {sc : Scope} {vars : List Str} {n : Nat}

/-! names of the module and of the interpreter -/
theorem T_glob {x : Str} {pos : Pos} {v : Value} (G : GC prog w K base mg mb) (e : nsIn K mainGlobals x = some (some v)) (hx : sc.names.lookup x = some .globalImplicit) (hd : (x == ("__debug__" : Str)) = false) : TE prog w base C sc vars n (.Name x pos) (vVal (ab v)) := by
  intro c σ s Q E ok S h
  have hk : c.env.scope.kind = .function := by rw [ok.scE]; exact ok.kind
  refine Name_function_global hk (by unfold Env.kindOf; rw [ok.scE]; exact hx) ?_ hd
  exact loadGlobal_global (by rw [ok.glob]; exact G.g.keeps S.cr.bs) (mg_of G.X G.g e) (lf_now S h)
theorem T_bltn {x : Str} {pos : Pos} {v : Value} (G : GC prog w K base mg mb) (e : nsIn K mainGlobals x = some none) (hv : bootBuiltins x = some v) (hn : x ≠ "__name__") (hx : sc.names.lookup x = some .globalImplicit) (hd : (x == ("__debug__" : Str)) = false) :
    TE prog w base C sc vars n (.Name x pos) (vVal (ab v)) := by
  intro c σ s Q E ok S h
  have hk : c.env.scope.kind = .function := by rw [ok.scE]; exact ok.kind
  refine Name_function_global hk (by unfold Env.kindOf; rw [ok.scE]; exact hx) ?_ hd
  exact loadGlobal_builtin (by rw [ok.glob]; exact G.g.keeps S.cr.bs) (mg_none_of G.X G.g e) (by rw [ok.bl]; exact G.b.keeps S.cr.bs) ((G.builtins x hn).trans hv) (lf_now S h)

/-! calls -/
def kCall (κ : CPT) (Q : AV → AS → Prop) (E : AS → Prop) (as : List AV) : AS → Prop
  | ⟨l, h⟩ => κ as h (kHp Q l) (kHpE E l)
abbrev vCall (κ : CPT) (g : PT (List AV)) : PT AV := fun σ Q E => g σ (kCall κ Q E) E
/-- a value that its abstract value tells -/
def Told (f : Value) : Prop := ∀ v, ab v = ab f → v = f
theorem told_ref (a : Addr) : Told (.ref a) := fun v h => ab_ref h
theorem told_builtin (a : String) : Told (.builtin a) := fun v h => by cases v <;> simp [ab] at h; rw [h]
theorem told_type (a : String) : Told (.type a) := fun v h => by cases v <;> simp [ab] at h; rw [h]

theorem call_use {f : Value} {κ : CPT} {m : Nat} (h : CallS prog w base C m f κ) {c : Act} {σ σ' : AS} {s s' : Shared} {vs : List Value} {Q : AV → AS → Prop} {E : AS → Prop} (hm : m ≤ n) (ok : AOK sc vars n c) (st : Step c.priv (fas c.fr) σ.hp s σ'.hp s')
    (S : SR prog w base c σ' s') (q : κ (vs.map ab) σ'.hp (fun a hp' => Q a ⟨σ'.loc, hp'⟩) fun hp' => E ⟨σ'.loc, hp'⟩) : wpAny (model prog w) c.A (call f vs) (Lf prog w base c σ s fun v σ' => Q (ab v) σ') (Lx prog w base C c σ s E) s' := by
  refine wpAny_mono (h c σ' s' vs _ _ (ok.fok.le hm) S q) (fun x s2 ⟨hp', st', S', q⟩ => ⟨⟨σ'.loc, hp'⟩, st.trans st', S', q⟩) fun e s2 h => ?_
  refine lx_trans st ?_
  obtain ⟨σ2, k1, k2, k3, k4, k5⟩ := h
  obtain ⟨l2, hp2⟩ := σ2
  cases k4
  exact ⟨_, k1, k2, k3, k5⟩

theorem T_call {f : Value} {id : Str} {p pos : Pos} {e : PySem.Expr} {rest : List PySem.Expr} {κ : CPT} {g : PT (List AV)} {m : Nat} (X : K.In base) (hk : keepIn K f = true) (hf : TE prog w base C sc vars n (.Name id p) (vVal (ab f))) (ht : Told f) (hg : TL prog w base C sc vars n (e :: rest) g)
    (hc : CallS prog w base C m f κ) (hm : m ≤ n) (he : ∀ env, starEach (e :: rest) env = (false, eval e env) :: starEach rest env := by intro _; rfl) (hp : ∀ env, (backTo pos (starEach rest env)).any (·.1) = false := by intro _; rfl) :
    TE prog w base C sc vars n (.Call (.Name id p) (e :: rest) [] pos) (vCall κ g) := by
  intro c σ s Q E ok S q
  refine wpAny_Call_Name_kw (wpAny_mono (hf c σ s (fun a σ' => a = ab f ∧ σ' = σ) (fun _ => False) ok S ⟨rfl, rfl⟩) (fun v s' ⟨σ', st, S', e1, e2⟩ => ?_) fun _ _ ⟨_, _, _, _, x⟩ => x.elim)
  subst e2
  obtain rfl := ht v e1
  show wpAny (model prog w) c.A (callWith pos v [] (backTo pos (starEach (e :: rest) c.env)) []) _ _ s'
  refine callWith_K X hk (wp_then (hg pos c σ' s' _ E ok S' q) (fun vs σ2 s2 st2 S2 q2 => ?_) fun _ _ x => lx_trans st x) (he _) (hp _)
  exact ⟨X.keeps S2.cr.bs, call_use hc hm ok (st.trans st2) S2 q2⟩
theorem T_call0 {f : Value} {id : Str} {p pos : Pos} {κ : CPT} {m : Nat} (X : K.In base) (hk : keepIn K f = true) (hf : TE prog w base C sc vars n (.Name id p) (vVal (ab f))) (ht : Told f)
    (hc : CallS prog w base C m f κ) (hm : m ≤ n) :
    TE prog w base C sc vars n (.Call (.Name id p) [] [] pos) (vCall κ vNilL) := by
  intro c σ s Q E ok S q
  refine wpAny_Call_Name_kw (wpAny_mono (hf c σ s (fun a σ' => a = ab f ∧ σ' = σ) (fun _ => False) ok S ⟨rfl, rfl⟩) (fun v s' ⟨σ', st, S', e1, e2⟩ => ?_) fun _ _ ⟨_, _, _, _, x⟩ => x.elim)
  subst e2
  obtain rfl := ht v e1
  exact callWith_K0 (X.keeps S'.cr.bs) hk (call_use (vs := []) hc hm ok st S' q)
/-- a builtin by its name -/
theorem T_callB {id0 : String} {id : Str} {p pos : Pos} {e : PySem.Expr} {rest : List PySem.Expr} {κ : CPT} {g : PT (List AV)} {m : Nat} (hf : TE prog w base C sc vars n (.Name id p) (vVal (ab (.builtin id0)))) (hg : TL prog w base C sc vars n (e :: rest) g)
    (hc : CallS prog w base C m (.builtin id0) κ) (hm : m ≤ n) (he : ∀ env, starEach (e :: rest) env = (false, eval e env) :: starEach rest env := by intro _; rfl) (hp : ∀ env, (backTo pos (starEach (e :: rest) env)).any (·.1) = false := by intro _; rfl) :
    TE prog w base C sc vars n (.Call (.Name id p) (e :: rest) [] pos) (vCall κ g) := by
  intro c σ s Q E ok S q
  refine wpAny_Call_Name_kw (wpAny_mono (hf c σ s (fun a σ' => a = ab (.builtin id0) ∧ σ' = σ) (fun _ => False) ok S ⟨rfl, rfl⟩) (fun v s' ⟨σ', st, S', e1, e2⟩ => ?_) fun _ _ ⟨_, _, _, _, x⟩ => x.elim)
  subst e2
  obtain rfl := told_builtin id0 v e1
  show wpAny (model prog w) c.A (callWith pos _ [] (backTo pos (starEach (e :: rest) c.env)) []) _ _ s'
  refine callWith_builtin (hp _) ?_
  have hg' : wpAny (model prog w) c.A (spliced (backTo pos (starEach (e :: rest) c.env))) _ _ _ := hg pos c σ' s' _ E ok S' q
  rw [he] at hg' ⊢
  refine evalArgs_plain (wp_then hg' (fun vs σ2 s2 st2 S2 q2 => ?_) fun _ _ x => lx_trans st x)
  exact call_use hc hm ok (st.trans st2) S2 q2

/-! methods -/
def plOf (o : PySem.Expr) (env : Env) : Sem Bool := do return (← importBound o env).getD true
def kCallM (κ : CPT) (Q : AV → AS → Prop) (E : AS → Prop) (a : AV) (as : List AV) : AS → Prop
  | ⟨l, h⟩ => κ (a :: as) h (kHp Q l) (kHpE E l)
inductive MethI (CT : Addr) (name : Str) (κ : CPT) (g : PT (List AV)) (Q : AV → AS → Prop) (E : AS → Prop) (a : AV) (l : List (Option AV)) (h : HP) : Prop
  | mk (x d : Addr) (fs : List (Str × AV)) (e : a = .ref x) (hx : h x = some (.inst CT d)) (hd : h d = some (.attrs fs)) (hn : name ∉ fs.map (·.1)) (q : g ⟨l, h⟩ (kCallM κ Q E (.ref x)) E)
def kMeth (CT : Addr) (name : Str) (κ : CPT) (g : PT (List AV)) (Q : AV → AS → Prop) (E : AS → Prop) (a : AV) : AS → Prop
  | ⟨l, h⟩ => MethI CT name κ g Q E a l h
abbrev vMeth (CT : Addr) (name : Str) (κ : CPT) (f : PT AV) (g : PT (List AV)) : PT AV := fun σ Q E => f σ (kMeth CT name κ g Q E) E

theorem ents_find {name : Str} : ∀ {es : List DictEntry} {fs : List (Str × AV)}, EntsR es fs → (match es.find? (·.key.isStr name) with | some e => fs.find? (fun p => decide (p.1 = name)) = some (name, ab e.val) | none => name ∉ fs.map (·.1)) ∧ es.any (·.refKey) = false
  | _, _, .nil => ⟨fun h => (nomatch h), rfl⟩
  | _, _, .cons (hh := hh) (x := x) (t := t) (v := v) (es := es) (fs := fs) r => by
    obtain ⟨h1, h2⟩ := ents_find (name := name) r
    have hk : (⟨hh, .str x t, v⟩ : DictEntry).key.isStr name = (x == name) := rfl
    refine ⟨?_, ?_⟩
    · rw [List.find?_cons, hk]
      by_cases q : x = name
      · subst q
        simp [List.find?_cons]
      · have q' : (x == name) = false := beq_eq_false_iff_ne.mpr q
        rw [q']
        cases e : es.find? (·.key.isStr name) with
        | some e' => rw [e] at h1; simp only at h1 ⊢; rw [List.find?_cons]; simp [q, h1]
        | none => rw [e] at h1; simp only at h1 ⊢; rw [List.map_cons, List.mem_cons, not_or]; exact ⟨Ne.symm q, h1⟩
    · rw [List.any_cons, h2]; rfl
theorem attrs_none {name : Str} {es : List DictEntry} {fs : List (Str × AV)} (r : EntsR es fs) (h : name ∉ fs.map (·.1)) : getL name es = some none := by
  obtain ⟨h1, h2⟩ := ents_find (name := name) r
  unfold getL
  cases e : es.find? (·.key.isStr name) with
  | none => simp [h2]
  | some e' =>
    rw [e] at h1
    exact absurd (List.mem_map.mpr ⟨_, List.mem_of_find?_eq_some h1, rfl⟩) h
theorem attrs_some {name : Str} {es : List DictEntry} {fs : List (Str × AV)} (r : EntsR es fs) {a : AV} (h : aGet fs name = some a) : ∃ v, getL name es = some (some v) ∧ ab v = a := by
  obtain ⟨h1, h2⟩ := ents_find (name := name) r
  unfold aGet at h
  obtain ⟨p, hp, rfl⟩ := Option.map_eq_some_iff.mp h
  unfold getL
  cases e : es.find? (·.key.isStr name) with
  | none =>
    rw [e] at h1
    refine absurd (List.mem_map.mpr ⟨_, List.mem_of_find?_eq_some hp, ?_⟩) h1
    have := List.find?_some hp
    simpa using this
  | some e' =>
    rw [e] at h1
    simp only at h1
    rw [h1] at hp; cases hp
    exact ⟨_, rfl, rfl⟩
theorem inst_at {h : Heap} {x CT d : Addr} {es : List DictEntry} {k : Nat} (hx : h.get? x = some (instObj CT d)) (hd : h.get? d = some (dictOf es k)) : InstAt h x (instObj CT d) CT (some (dictOf es k)) := ⟨hx, rfl, rfl, hd⟩

theorem T_meth {CT f : Addr} {o : PySem.Expr} {name : Str} {apos pos : Pos} {e : PySem.Expr} {rest : List PySem.Expr} {κ : CPT} {fo : PT AV} {g : PT (List AV)} {m : Nat} (X : K.In base) (hp : plainGet K CT name = true) (hfn : findIn K (.ref CT) name = some (some (.ref f))) (hfn' : isFn K (.ref f) = true) (hk : keepIn K (.ref f) = true)
    (ho : TE prog w base C sc vars n o fo) (hg : TL prog w base C sc vars n (e :: rest) g) (hc : CallS prog w base C m (.ref f) κ) (hm : m ≤ n)
    (he : ∀ env, starEach (e :: rest) env = (false, eval e env) :: starEach rest env := by intro _; rfl) (hpl : ∀ env, (backTo pos (starEach rest env)).any (·.1) = false := by intro _; rfl)
    (hev : ∀ env, eval (.Call (.Attribute o name apos) (e :: rest) [] pos) env = (do
      let ov ← eval o env
      standAt apos.atName
      let (f, first) ← holding [ov] (getMethod ov name (plOf o env))
      callWith pos f first (backTo pos (starEach (e :: rest) env)) (backToKw pos (keywordEach [] env))) := by intro _; rfl) :
    TE prog w base C sc vars n (.Call (.Attribute o name apos) (e :: rest) [] pos) (vMeth CT name κ fo g) := by
  intro c σ s Q E ok S q
  refine methodCall_KW (wp_then (ho c σ s _ E ok S q) (fun v σ1 s1 st1 S1 q => ?_) fun _ _ x => x) (hev _)
  obtain ⟨x, d, fs, e1, hx, hd, hnot, q⟩ := q
  obtain rfl := ab_ref e1
  obtain ⟨es, k, hd', hr⟩ := S1.cr.hr _ _ hd
  refine method_fn (X.keeps S1.cr.bs) (inst_at (S1.cr.hr _ _ hx) hd') (plainGet_of hp).1 (plainGet_of hp).2 hfn (beq_iff_eq.mp hfn') (by show (lookIn name (dictOf es k)).map _ = _; rw [lookIn_dict, attrs_none hr hnot]; rfl) ?_
  refine callWith_K X hk (wp_then (hg pos c σ1 s1 _ E ok S1 q) (fun vs σ2 s2 st2 S2 q2 => ?_) fun _ _ x => lx_trans st1 x) (he _) (hpl _)
  exact ⟨X.keeps S2.cr.bs, call_use (vs := .ref x :: vs) hc hm ok (st1.trans st2) S2 q2⟩
theorem T_meth0 {CT f : Addr} {o : PySem.Expr} {name : Str} {apos pos : Pos} {κ : CPT} {fo : PT AV} {m : Nat} (X : K.In base) (hp : plainGet K CT name = true) (hfn : findIn K (.ref CT) name = some (some (.ref f))) (hfn' : isFn K (.ref f) = true) (hk : keepIn K (.ref f) = true)
    (ho : TE prog w base C sc vars n o fo) (hc : CallS prog w base C m (.ref f) κ) (hm : m ≤ n)
    (hev : ∀ env, eval (.Call (.Attribute o name apos) [] [] pos) env = (do
      let ov ← eval o env
      standAt apos.atName
      let (f, first) ← holding [ov] (getMethod ov name (plOf o env))
      callWith pos f first (backTo pos (starEach [] env)) (backToKw pos (keywordEach [] env))) := by intro _; rfl) :
    TE prog w base C sc vars n (.Call (.Attribute o name apos) [] [] pos) (vMeth CT name κ fo vNilL) := by
  intro c σ s Q E ok S q
  refine methodCall_KW (wp_then (ho c σ s _ E ok S q) (fun v σ1 s1 st1 S1 q => ?_) fun _ _ x => x) (hev _)
  obtain ⟨x, d, fs, e1, hx, hd, hnot, q⟩ := q
  obtain rfl := ab_ref e1
  obtain ⟨es, k, hd', hr⟩ := S1.cr.hr _ _ hd
  refine method_fn (X.keeps S1.cr.bs) (inst_at (S1.cr.hr _ _ hx) hd') (plainGet_of hp).1 (plainGet_of hp).2 hfn (beq_iff_eq.mp hfn') (by show (lookIn name (dictOf es k)).map _ = _; rw [lookIn_dict, attrs_none hr hnot]; rfl) ?_
  exact callWith_K0 (X.keeps S1.cr.bs) hk (call_use (vs := [.ref x]) hc hm ok st1 S1 q)

/-- methods of the interpreter's own types -/
def TypeSat (prog : Program) (w : World) (base : Heap) (T : String) (γ : AV → HP → Prop) : Prop := ∀ (c : Act) (σ : AS) (s : Shared) (v : Value), SR prog w base c σ s → γ (ab v) σ.hp → s.TypeIs v T ∧ ∀ a, v = .ref a → ∃ ob, s.heap.get? a = some ob ∧ ob.dict = none
structure MethB (γ : AV → HP → Prop) (κ : CPT) (g : PT (List AV)) (Q : AV → AS → Prop) (E : AS → Prop) (a : AV) (l : List (Option AV)) (h : HP) : Prop where
  ty : γ a h
  q : g ⟨l, h⟩ (kCallM κ Q E a) E
def kMethB (γ : AV → HP → Prop) (κ : CPT) (g : PT (List AV)) (Q : AV → AS → Prop) (E : AS → Prop) (a : AV) : AS → Prop
  | ⟨l, h⟩ => MethB γ κ g Q E a l h
abbrev vMethB (γ : AV → HP → Prop) (κ : CPT) (f : PT AV) (g : PT (List AV)) : PT AV := fun σ Q E => f σ (kMethB γ κ g Q E) E
theorem T_methB {T id : String} {γ : AV → HP → Prop} {o : PySem.Expr} {name : Str} {apos pos : Pos} {e : PySem.Expr} {rest : List PySem.Expr} {κ : CPT} {fo : PT AV} {g : PT (List AV)} {m : Nat} (pa : PlainAttrs T) (slot : Slot T name id) (ty : typeOf (.builtin id) = pure (.type "method_descriptor")) (hγ : TypeSat prog w base T γ)
    (ho : TE prog w base C sc vars n o fo) (hg : TL prog w base C sc vars n (e :: rest) g) (hc : CallS prog w base C m (.builtin id) κ) (hm : m ≤ n)
    (he : ∀ env, starEach (e :: rest) env = (false, eval e env) :: starEach rest env := by intro _; rfl) (hpl : ∀ env, (backTo pos (starEach (e :: rest) env)).any (·.1) = false := by intro _; rfl)
    (hev : ∀ env, eval (.Call (.Attribute o name apos) (e :: rest) [] pos) env = (do
      let ov ← eval o env
      standAt apos.atName
      let (f, first) ← holding [ov] (getMethod ov name (plOf o env))
      callWith pos f first (backTo pos (starEach (e :: rest) env)) (backToKw pos (keywordEach [] env))) := by intro _; rfl) :
    TE prog w base C sc vars n (.Call (.Attribute o name apos) (e :: rest) [] pos) (vMethB γ κ fo g) := by
  intro c σ s Q E ok S q
  refine methodCall_KW (wp_then (ho c σ s _ E ok S q) (fun v σ1 s1 st1 S1 q => ?_) fun _ _ x => x) (hev _)
  obtain ⟨h1, q⟩ := q
  obtain ⟨hT, hd⟩ := hγ c σ1 s1 v S1 h1
  refine getMethod_builtin hT pa slot ty hd ?_
  show wpAny (model prog w) c.A (callWith pos (.builtin id) [v] (backTo pos (starEach (e :: rest) c.env)) []) _ _ s1
  refine callWith_builtin (hpl _) ?_
  have hg' : wpAny (model prog w) c.A (spliced (backTo pos (starEach (e :: rest) c.env))) _ _ _ := hg pos c σ1 s1 _ E ok S1 q
  rw [he] at hg' ⊢
  refine evalArgs_plain (wp_then hg' (fun vs σ2 s2 st2 S2 q2 => ?_) fun _ _ x => lx_trans st1 x)
  exact call_use (vs := v :: vs) hc hm ok (st1.trans st2) S2 q2
theorem T_methB0 {T id : String} {γ : AV → HP → Prop} {o : PySem.Expr} {name : Str} {apos pos : Pos} {κ : CPT} {fo : PT AV} {m : Nat} (pa : PlainAttrs T) (slot : Slot T name id) (ty : typeOf (.builtin id) = pure (.type "method_descriptor")) (hγ : TypeSat prog w base T γ)
    (ho : TE prog w base C sc vars n o fo) (hc : CallS prog w base C m (.builtin id) κ) (hm : m ≤ n)
    (hev : ∀ env, eval (.Call (.Attribute o name apos) [] [] pos) env = (do
      let ov ← eval o env
      standAt apos.atName
      let (f, first) ← holding [ov] (getMethod ov name (plOf o env))
      callWith pos f first (backTo pos (starEach [] env)) (backToKw pos (keywordEach [] env))) := by intro _; rfl) :
    TE prog w base C sc vars n (.Call (.Attribute o name apos) [] [] pos) (vMethB γ κ fo vNilL) := by
  intro c σ s Q E ok S q
  refine methodCall_KW (wp_then (ho c σ s _ E ok S q) (fun v σ1 s1 st1 S1 q => ?_) fun _ _ x => x) (hev _)
  obtain ⟨h1, q⟩ := q
  obtain ⟨hT, hd⟩ := hγ c σ1 s1 v S1 h1
  refine getMethod_builtin hT pa slot ty hd ?_
  show wpAny (model prog w) c.A (callWith pos (.builtin id) [v] [] []) _ _ s1
  exact callWith_builtin rfl (evalArgs_nil3 (call_use (vs := [v]) hc hm ok st1 S1 q))

/-! attributes -/
structure AttrOK (K : Frag) (CT : Addr) (name : Str) : Prop where
  get : plainGet K CT name = true
  dict : hasDictIn K CT = true
  own : ∃ attr, findIn K (.ref CT) name = some attr ∧ noGet K attr = true
inductive AttrI (CT : Addr) (name : Str) (Q : AV → AS → Prop) (a : AV) (l : List (Option AV)) (h : HP) : Prop
  | mk (x d : Addr) (fs : List (Str × AV)) (r : AV) (e : a = .ref x) (hx : h x = some (.inst CT d)) (hd : h d = some (.attrs fs)) (hg : aGet fs name = some r) (hp : plainAV r = true) (q : Q r ⟨l, h⟩)
def kAttr (CT : Addr) (name : Str) (Q : AV → AS → Prop) (a : AV) : AS → Prop
  | ⟨l, h⟩ => AttrI CT name Q a l h
abbrev vAttr (CT : Addr) (name : Str) (f : PT AV) : PT AV := fun σ Q E => f σ (kAttr CT name Q) E
theorem T_attr {CT : Addr} {o : PySem.Expr} {name : Str} {pos : Pos} {fo : PT AV} (X : K.In base) (ha : AttrOK K CT name) (ho : TE prog w base C sc vars n o fo)
    (he : ∀ env, eval (.Attribute o name pos) env = (do
      let ov ← eval o env
      standAt pos.atName
      let r ← holding [ov] (getAttr ov name true)
      letTemporaryGo o ov r
      pure r) := by intro _; with_unfolding_all rfl) : TE prog w base C sc vars n (.Attribute o name pos) (vAttr CT name fo) := by
  intro c σ s Q E ok S q
  refine Attribute_any_ (wp_then (ho c σ s _ E ok S q) (fun v σ1 s1 st1 S1 q => ?_) fun _ _ x => x) (he _)
  obtain ⟨x, d, fs, r, e1, hx, hd, hg, hr, q⟩ := q
  obtain rfl := ab_ref e1
  obtain ⟨es, k, hd', hr'⟩ := S1.cr.hr _ _ hd
  obtain ⟨v, hv, e2⟩ := attrs_some hr' hg
  obtain ⟨attr, h1, h2⟩ := ha.own
  subst e2
  exact get_value (X.keeps S1.cr.bs) (inst_at (S1.cr.hr _ _ hx) hd') (plainGet_of ha.get).1 (findObj_own ha.dict h1 h2 hv) (handed_of hr) ⟨σ1, st1.tok, S1.tok, q⟩
end
end Mine

end

section
open PySem PySem.W PyProof.Rows PySem.Calls
set_option Elab.async false
set_option maxRecDepth 100000
set_option linter.unusedVariables false
namespace Mine

section
variable {prog : Program} {w : World} {K : Frag} {base : Heap} {mg mb : Str → Option Value} {C : Addr} {sc : Scope} {vars : List Str} {n : Nat}

theorem SR.grown {c : Act} {σ : AS} {s : Shared} (S : SR prog w base c σ s) {h' : Heap} {t : Nat} (k : ∀ b o, s.heap.get? b = some o → h'.get? b = some o) :
    SR prog w base c σ { s with heap := h', toks := t } ∧ Step c.priv (fas c.fr) σ.hp s σ.hp { s with heap := h', toks := t } :=
  S.move [] (fun _ h => nomatch h) (fun b o e _ => k b o e) (fun a o e => .inl ⟨e, fun h => nomatch h⟩) fun b hb => .inl hb
/-- a new object at an address that a rule of the library gives -/
theorem SR.allocAt {c : Act} {σ : AS} {s : Shared} (S : SR prog w base c σ s) {h' : Heap} {t : Nat} {D : Addr} {x : AObj} (k : ∀ b o, s.heap.get? b = some o → h'.get? b = some o) (hD : s.heap.get? D = none) (hx : OH prog w h' D x) :
    σ.hp D = none ∧ SR prog w base c ⟨σ.loc, upd σ.hp D x⟩ { s with heap := h', toks := t } ∧ Step c.priv (fas c.fr) σ.hp s (upd σ.hp D x) { s with heap := h', toks := t } := by
  have hn : σ.hp D = none := by
    cases q : σ.hp D with
    | none => rfl
    | some y => obtain ⟨o', ho'⟩ := (S.cr.hr _ _ q).there; rw [hD] at ho'; cases ho'
  refine ⟨hn, S.move [] (fun _ h => nomatch h) (fun b o e _ => k b o e) (fun a o e => ?_) fun b hb => ?_⟩
  · by_cases q : a = D
    · subst q; rw [upd_self] at e; cases e; exact .inr hx
    · rw [upd_other q] at e; exact .inl ⟨e, fun h => nomatch h⟩
  · by_cases q : b = D
    · subst q; exact .inr hD
    · rw [upd_other q] at hb; exact .inl hb

abbrev cOp (κ : OPT) : CPT := fun as hp Q _ => κ as hp Q
theorem OpS.call {f : Value} {κ : OPT} (h : OpS prog w base (fun vs => call f vs) κ) : CallS prog w base C 5 f (cOp κ) := fun c σ s vs Q E ok S q =>
  wpAny_mono (h c σ s vs Q ok.handled (by have := ok.units; omega) (by have := ok.depth; omega) S q) (fun _ _ x => x) fun _ _ x => x.elim

theorem one {vs : List Value} {P : AV → Prop} (h : ∃ a, vs.map ab = [a] ∧ P a) : ∃ u, vs = [u] ∧ P (ab u) := by
  obtain ⟨a, e, p⟩ := h
  rcases vs with _ | ⟨u, _ | ⟨v, r⟩⟩ <;> simp at e
  subst e
  exact ⟨u, rfl, p⟩
theorem three {vs : List Value} {P : AV → AV → AV → Prop} (h : ∃ a b d, vs.map ab = [a, b, d] ∧ P a b d) : ∃ u v x, vs = [u, v, x] ∧ P (ab u) (ab v) (ab x) := by
  obtain ⟨a, b, d, e, p⟩ := h
  rcases vs with _ | ⟨u, _ | ⟨v, _ | ⟨x, _ | ⟨y, r⟩⟩⟩⟩ <;> simp at e
  obtain ⟨rfl, rfl, rfl⟩ := e
  exact ⟨u, v, x, rfl, p⟩

/-! len, max, min, int, list -/
abbrev oLen : OPT := fun as hp Q => ∃ l, as = [.ref l] ∧ ((∃ xs, hp l = some (.list xs) ∧ xs.length ≤ 1000 ∧ Q (.int xs.length) hp) ∨ (∃ ep es, hp l = some (.idict ep es) ∧ es.length ≤ 1000 ∧ Q (.int es.length) hp))
theorem O_len (low : base.get? sysModules ≠ none) : OpS prog w base (fun vs => call (.builtin "len") vs) oLen := by
  intro c σ s vs Q hh hu hd S ⟨l, e, q⟩
  obtain ⟨u, rfl, e1⟩ := one (P := fun x => x = .ref l) ⟨_, e, rfl⟩
  obtain rfl := ab_ref e1
  rcases q with ⟨xs, hl, hz, q⟩ | ⟨ep, es, hl, hz, q⟩
  · obtain ⟨ws, hw, rfl⟩ := S.cr.hr _ _ hl
    refine len_list hw.isList (by simp only [List.length_map, Array.length_toList] at hz; omega) ⟨_, (Step.refl ..).tok, S.tok, ?_⟩
    simpa [ab] using q
  · obtain ⟨kvs, hw, rfl⟩ := S.cr.hr _ _ hl
    refine call_len_dict (not_sys low S hl) hw.dictOf (by simp only [List.length_map] at hz; omega) ⟨_, (Step.refl ..).tok, S.tok, ?_⟩
    simpa [ab] using q
abbrev oMax : OPT := fun as hp Q => ∃ a b, as = [.int a, .int b] ∧ Q (.int (if b > a then b else a)) hp
abbrev oMin : OPT := fun as hp Q => ∃ a b, as = [.int a, .int b] ∧ Q (.int (if b < a then b else a)) hp
theorem O_max : OpS prog w base (fun vs => call (.builtin "max") vs) oMax := by
  intro c σ s vs Q hh hu hd S ⟨a, b, e, q⟩
  obtain ⟨u, v, rfl, e1, e2⟩ := two (P := fun x y => x = .int a ∧ y = .int b) ⟨_, _, e, rfl, rfl⟩
  obtain ⟨ta, rfl⟩ := ab_int e1
  obtain ⟨tb, rfl⟩ := ab_int e2
  refine max_two_ints hh fun h' tk k => ?_
  obtain ⟨S', st⟩ := S.grown (t := tk) k
  refine ⟨_, st, S', ?_⟩
  split at q <;> rename_i hc <;> simp only [hc, if_true, if_false] <;> exact q
theorem O_min : OpS prog w base (fun vs => call (.builtin "min") vs) oMin := by
  intro c σ s vs Q hh hu hd S ⟨a, b, e, q⟩
  obtain ⟨u, v, rfl, e1, e2⟩ := two (P := fun x y => x = .int a ∧ y = .int b) ⟨_, _, e, rfl, rfl⟩
  obtain ⟨ta, rfl⟩ := ab_int e1
  obtain ⟨tb, rfl⟩ := ab_int e2
  refine min_two_ints hh fun h' tk k => ?_
  obtain ⟨S', st⟩ := S.grown (t := tk) k
  refine ⟨_, st, S', ?_⟩
  split at q <;> rename_i hc <;> simp only [hc, if_true, if_false] <;> exact q
abbrev oInt : OPT := fun as hp Q => match as with
  | [.int a] => Q (.int a) hp
  | [.bool b] => Q (.int (if b then 1 else 0)) hp
  | _ => False
theorem O_int : OpS prog w base (fun vs => call (.type "int") vs) oInt := by
  intro c σ s vs Q hh hu hd S q
  unfold oInt at q
  split at q
  · rename_i a e
    obtain ⟨u, rfl, e1⟩ := one (P := fun x => x = .int a) ⟨_, e, rfl⟩
    obtain ⟨t, rfl⟩ := ab_int e1
    exact call_int_int ⟨_, .refl .., S, q⟩
  · rename_i a e
    obtain ⟨u, rfl, e1⟩ := one (P := fun x => x = .bool a) ⟨_, e, rfl⟩
    obtain rfl := ab_bool e1
    exact call_int_bool ⟨_, (Step.refl ..).tok, S.tok, q⟩
  · exact q.elim
abbrev oListOf : OPT := fun as hp Q => ∃ l xs, as = [.ref l] ∧ hp l = some (.list xs) ∧ xs.length ≤ 1000 ∧ ∀ D, hp D = none → Q (.ref D) (upd hp D (.list xs))
theorem O_listOf : OpS prog w base (fun vs => call (.type "list") vs) oListOf := by
  intro c σ s vs Q hh hu hd S ⟨l, xs, e, hl, hz, q⟩
  obtain ⟨u, rfl, e1⟩ := one (P := fun x => x = .ref l) ⟨_, e, rfl⟩
  obtain rfl := ab_ref e1
  obtain ⟨ws, ⟨n, hw⟩, rfl⟩ := S.cr.hr _ _ hl
  refine call_list_seq l (.inl rfl) hw rfl rfl (fun h' c' k hD => ?_) (by simp only [List.length_map, Array.length_toList] at hz; exact Nat.le_trans hz (by decide))
  obtain ⟨h1, h2, h3⟩ := S.allocAt (x := .list (ws.toList.map ab)) (t := s.toks) k (none_of_le (Nat.le_refl _)) ⟨ws, ⟨c', hD⟩, rfl⟩
  exact ⟨_, h3, h2, q _ h1⟩

theorem strsAre_of {vs : List Value} {xs : List Str} (h : vs.map ab = xs.map AV.str) : StrsAre vs xs := by
  induction vs generalizing xs with
  | nil => cases xs with
    | nil => exact .nil
    | cons _ _ => cases h
  | cons v r ih => cases xs with
    | nil => cases h
    | cons x xs =>
      rw [List.map_cons, List.map_cons, List.cons.injEq] at h
      obtain ⟨t, rfl⟩ := ab_str h.1
      exact .cons x t (ih h.2)
abbrev oJoin : OPT := fun as hp Q => ∃ x l ys, as = [.str x, .ref l] ∧ hp l = some (.list (ys.map .str)) ∧ (ys.map (·.length)).sum + ys.length * x.length ≤ 16777216 ∧ Q (.str (Txt.join x ys)) hp
theorem O_join : OpS prog w base (fun vs => call (.builtin "str.join") vs) oJoin := by
  intro c σ s vs Q hh hu hd S ⟨x, l, ys, e, hl, hz, q⟩
  obtain ⟨u, v, rfl, e1, e2⟩ := two (P := fun a b => a = .str x ∧ b = .ref l) ⟨_, _, e, rfl, rfl⟩
  obtain ⟨t, rfl⟩ := ab_str e1
  obtain rfl := ab_ref e2
  obtain ⟨ws, hw, e3⟩ := S.cr.hr _ _ hl
  exact join_list hw.isList (strsAre_of e3) hz fun t' k => ⟨_, (Step.refl ..).tok, S.tok, q⟩

/-! methods of lists -/
theorem isL_upd {h : Heap} {l : Addr} {vs : Array Value} {n : Nat} (x : IsL h l vs n) (f : Array Value → Array Value) : PL (h.update l (Obj.mapSeq f)) l (f vs) := ⟨_, x.update f⟩
abbrev gList : AV → HP → Prop := fun a hp => ∃ l xs, a = .ref l ∧ hp l = some (.list xs)
theorem G_list : TypeSat prog w base "list" gList := by
  intro c σ s v S ⟨l, xs, e, hl⟩
  obtain rfl := ab_ref e
  obtain ⟨ws, ⟨n, hw⟩, rfl⟩ := S.cr.hr _ _ hl
  exact ⟨⟨_, hw, rfl⟩, fun a e => by cases e; exact ⟨_, hw, rfl⟩⟩
abbrev oAppend : OPT := fun as hp Q => ∃ l a xs, as = [.ref l, a] ∧ hp l = some (.list xs) ∧ xs.length ≤ 1000 ∧ Q .none (upd hp l (.list (xs ++ [a])))
theorem O_append : OpS prog w base (fun vs => call (.builtin "list.append") vs) oAppend := by
  intro c σ s vs Q hh hu hd S ⟨l, a, xs, e, hl, hz, q⟩
  obtain ⟨u, v, rfl, e1, e2⟩ := two (P := fun x y => x = .ref l ∧ y = a) ⟨_, _, e, rfl, rfl⟩
  obtain rfl := ab_ref e1
  subst e2
  obtain ⟨ws, ⟨n, hw⟩, rfl⟩ := S.cr.hr _ _ hl
  have hsz : ws.size ≤ sizeLine := by simp only [List.length_map, Array.length_toList] at hz; exact Nat.le_trans hz (by decide)
  refine call_meets PySem.F.slot_list_append ⟨_, hw, rfl⟩ PySem.F.entry_list_append (PySem.F.args_list_append_2 _ _) (PySem.list_append l ws n v hsz) ⟨hw, ?_⟩
  obtain ⟨h2, h3⟩ := S.write (t := s.toks) hl (Heap.SameBut.update ..) (y := .list (ws.toList.map ab ++ [ab v])) ⟨_, isL_upd hw (fun xs => xs.push v), by simp⟩
  exact ⟨_, h3, h2, q⟩
abbrev oPop : OPT := fun as hp Q => ∃ l a xs, as = [.ref l] ∧ hp l = some (.list (xs ++ [a])) ∧ xs.length ≤ 1000 ∧ Q a (upd hp l (.list xs))
theorem O_pop : OpS prog w base (fun vs => call (.builtin "list.pop") vs) oPop := by
  intro c σ s vs Q hh hu hd S ⟨l, a, xs, e, hl, hz, q⟩
  obtain ⟨u, rfl, e1⟩ := one (P := fun x => x = .ref l) ⟨_, e, rfl⟩
  obtain rfl := ab_ref e1
  obtain ⟨ws, ⟨n, hw⟩, e⟩ := S.cr.hr _ _ hl
  have hlen : ws.size = xs.length + 1 := by have := congrArg List.length e; simpa using this
  obtain ⟨y, hy⟩ : ∃ y, ws[ws.size - 1]? = some y := ⟨_, Array.getElem?_eq_getElem (by omega)⟩
  have hya : ab y = a := by
    have h1 : (ws.toList.map ab)[ws.size - 1]? = some (ab y) := by rw [List.getElem?_map, Array.getElem?_toList, hy]; rfl
    rw [e, show ws.size - 1 = xs.length by omega, List.getElem?_append_right (Nat.le_refl _)] at h1
    simpa using h1.symm
  refine call_meets PySem.F.slot_list_pop ⟨_, hw, rfl⟩ PySem.F.entry_list_pop (PySem.F.args_list_pop_1 _) (PySem.MeetsSeq.list_pop_last l ws n y hy (by rw [hlen]; exact Nat.le_trans (Nat.succ_le_succ hz) (by decide))) ⟨hw, ?_⟩
  have hpl : OH prog w (s.heap.update l (Obj.mapSeq fun xs => xs.eraseIdxIfInBounds (ws.size - 1))) l (.list xs) := by
    refine ⟨_, isL_upd hw (fun xs => xs.eraseIdxIfInBounds (ws.size - 1)), ?_⟩
    have e2 : (ws.eraseIdxIfInBounds (ws.size - 1)).toList = ws.toList.dropLast := by
      rw [Array.toList_eraseIdxIfInBounds, ← Array.length_toList, List.eraseIdx_length_sub_one]
    rw [e2, List.map_dropLast, e]; simp
  obtain ⟨h2, h3⟩ := S.write (t := s.toks) hl (Heap.SameBut.update ..) hpl
  subst hya
  exact ⟨_, h3, h2, q⟩
/-- where a thing stands first -/
abbrev oRemove : OPT := fun as hp Q => ∃ (l : Addr) (i : Int) (is : List Int), as = [.ref l, .int i] ∧ hp l = some (.list (is.map .int)) ∧ is.length ≤ 1000 ∧ i ∈ is ∧ Q .none (upd hp l (.list ((is.erase i).map .int)))
theorem er_map {α β : Type} (f : α → β) : ∀ (l : List α) (j : Nat), (l.eraseIdx j).map f = (l.map f).eraseIdx j
  | [], _ => rfl
  | _ :: _, 0 => rfl
  | x :: r, j + 1 => by simp [er_map f r j]
theorem O_remove : OpS prog w base (fun vs => call (.builtin "list.remove") vs) oRemove := by
  intro c σ s vs Q hh hu hd S ⟨l, i, is, e, hl, hz, hi, q⟩
  obtain ⟨u, v, rfl, e1, e2⟩ := two (P := fun x y => x = .ref l ∧ y = .int i) ⟨_, _, e, rfl, rfl⟩
  obtain rfl := ab_ref e1
  obtain ⟨t, rfl⟩ := ab_int e2
  obtain ⟨ws, ⟨n, hw⟩, e⟩ := S.cr.hr _ _ hl
  have hlen : ws.size = is.length := by have := congrArg List.length e; simpa using this
  have hint : ∀ j (hj : j < ws.size), ∃ tj, ws[j] = .int (is[j]'(by omega)) tj := fun j hj => by
    have h1 : (ws.toList.map ab)[j]? = some (ab ws[j]) := by rw [List.getElem?_map, Array.getElem?_toList, Array.getElem?_eq_getElem hj]; rfl
    rw [e, List.getElem?_map, List.getElem?_eq_getElem (by omega)] at h1
    exact ab_int (Option.some.inj h1).symm
  obtain ⟨j, hj, hji, hmin⟩ : ∃ j, ∃ hj : j < is.length, is[j] = i ∧ ∀ m (hm : m < is.length), m < j → is[m] ≠ i := by
    refine ⟨is.idxOf i, List.idxOf_lt_length_of_mem hi, List.getElem_idxOf _, fun m hm hlt => ?_⟩
    have := List.not_of_lt_findIdx (p := (· == i)) (xs := is) (i := m) hlt
    simpa using this
  refine call_meets PySem.F.slot_list_remove ⟨_, hw, rfl⟩ PySem.F.entry_list_remove (PySem.F.args_list_remove_2 _ _)
    (MeetsSeq.list_remove l ws n (.int i t) (isInt i) (fun y hy => ?_) j (by omega) ?_ (fun m hm hlt => ?_) (by rw [hlen]; exact Nat.le_trans hz (by decide))) ⟨hw, ?_⟩
  · obtain ⟨m, hm, rfl⟩ := Array.mem_iff_getElem.mp hy
    obtain ⟨tj, e⟩ := hint m hm
    refine kf_eq (l := [ws[m]]) ?_ _ (.head _)
    rw [e]; rfl
  · obtain ⟨tj, e⟩ := hint j (by omega)
    rw [e, hji]; simp [isInt]
  · obtain ⟨tj, e⟩ := hint m hm
    rw [e]
    have := hmin m (by omega) hlt
    simp [isInt, this]
  · have hpl : OH prog w (s.heap.update l (Obj.mapSeq fun xs => xs.eraseIdxIfInBounds j)) l (.list ((is.erase i).map .int)) := by
      refine ⟨_, isL_upd hw (fun xs => xs.eraseIdxIfInBounds j), ?_⟩
      have hj' : is.idxOf i = j := by
        have h5 : is.idxOf i < is.length := List.idxOf_lt_length_of_mem hi
        have h6 : is[is.idxOf i] = i := List.getElem_idxOf _
        rcases Nat.lt_trichotomy (is.idxOf i) j with h7 | h7 | h7
        · exact absurd h6 (hmin _ h5 h7)
        · exact h7
        · have := List.not_of_lt_findIdx (p := (· == i)) (xs := is) (i := j) h7
          simp [hji] at this
      rw [Array.toList_eraseIdxIfInBounds, List.erase_eq_eraseIdx_of_idxOf hj', er_map, er_map, e]
    obtain ⟨h2, h3⟩ := S.write (t := s.toks) hl (Heap.SameBut.update ..) hpl
    exact ⟨_, h3, h2, q⟩
def insAt (xs : List AV) (i : Int) (a : AV) : List AV := xs.take i.toNat ++ a :: xs.drop i.toNat
abbrev oInsert : OPT := fun as hp Q => ∃ (l : Addr) (i : Int) (a : AV) (xs : List AV), as = [.ref l, .int i, a] ∧ hp l = some (.list xs) ∧ 0 ≤ i ∧ i ≤ xs.length ∧ xs.length ≤ 1000 ∧ Q .none (upd hp l (.list (insAt xs i a)))
theorem O_insert : OpS prog w base (fun vs => call (.builtin "list.insert") vs) oInsert := by
  intro c σ s vs Q hh hu hd S ⟨l, i, a, xs, e, hl, h0, hi, hz, q⟩
  obtain ⟨u, v, x, rfl, e1, e2, e3⟩ := three (P := fun x y z => x = .ref l ∧ y = .int i ∧ z = a) ⟨_, _, _, e, rfl, rfl, rfl⟩
  obtain rfl := ab_ref e1
  obtain ⟨t, rfl⟩ := ab_int e2
  subst e3
  obtain ⟨ws, ⟨n, hw⟩, rfl⟩ := S.cr.hr _ _ hl
  simp only [List.length_map, Array.length_toList] at hz hi
  have hfit : Builtin.List.listFitsIndex i = true := fitsIndex_of h0 (by omega)
  refine call_meets PySem.F.slot_list_insert ⟨_, hw, rfl⟩ PySem.F.entry_list_insert (PySem.F.args_list_insert_3 _ _ _) (PySem.AutoSeq1.list_insert_list_int_val_1 l ws n i t x (by simp [hfit]) (Nat.le_trans hz (by decide))) ⟨hw, ?_⟩
  have hpl : OH prog w (s.heap.update l (Obj.mapSeq fun xs => (xs.extract 0 (if i < 0 then (i + (xs.size : Int)).toNat else min i.toNat xs.size)).push x ++ xs.extract (if i < 0 then (i + (xs.size : Int)).toNat else min i.toNat xs.size))) l (.list (insAt (ws.toList.map ab) i (ab x))) := by
    refine ⟨_, isL_upd hw _, ?_⟩
    unfold insAt
    have hneg : ¬ i < 0 := by omega
    have hm : min i.toNat ws.size = i.toNat := by omega
    simp only [hneg, if_false, hm]
    obtain ⟨li, rfl⟩ : ∃ li : List Value, ws = li.toArray := ⟨ws.toList, by rw [Array.toArray_toList]⟩
    rw [kl_ins_eq]
    simp
  obtain ⟨h2, h3⟩ := S.write (t := s.toks) hl (Heap.SameBut.update ..) hpl
  exact ⟨_, h3, h2, q⟩
end
end Mine

end

section
open PySem PySem.W PyProof.Rows PySem.Calls
set_option Elab.async false
set_option maxRecDepth 100000
set_option linter.unusedVariables false
namespace Mine

section
variable {prog : Program} {w : World} {K : Frag} {base : Heap} {mg mb : Str → Option Value} {C : Addr} {sc : Scope} {vars : List Str} {n : Nat}

/-! subscripts -/
abbrev kItem : AV → AV → HP → AV → Prop := fun a b hp r => match a, b with
  | .ref l, .int i => (∃ xs, hp l = some (.list xs) ∧ 0 ≤ i ∧ i < 2 ^ 62 ∧ xs[i.toNat]? = some r) ∨ (∃ ep es, hp l = some (.idict ep es) ∧ aGet es i = some r)
  | .ref l, .str x => ∃ es, hp l = some (.sdict es) ∧ aGet es x = some r
  | _, _ => False
inductive ItI (Q : AV → AS → Prop) (a b : AV) (l : List (Option AV)) (h : HP) : Prop
  | mk (r : AV) (k : kItem a b h r) (q : Q r ⟨l, h⟩)
def kIt2 (Q : AV → AS → Prop) (a b : AV) : AS → Prop
  | ⟨l, h⟩ => ItI Q a b l h
def kIt1 (g : PT AV) (Q : AV → AS → Prop) (E : AS → Prop) (a : AV) (σ : AS) : Prop := g σ (kIt2 Q a) E
abbrev vItem (f g : PT AV) : PT AV := fun σ Q E => f σ (kIt1 g Q E) E
theorem map_get {α β : Type} {f : α → β} {l : List α} {i : Nat} {y : β} (h : (l.map f)[i]? = some y) : ∃ x, l[i]? = some x ∧ f x = y := by
  rw [List.getElem?_map] at h
  exact Option.map_eq_some_iff.mp h
theorem T_item {v sl : PySem.Expr} {pos : Pos} {f g : PT AV} (hf : TE prog w base C sc vars n v f) (hg : TE prog w base C sc vars n sl g)
    (hs : ∀ o i, subscripted sl false o i = operate [o, i] (getItem o i) := by intro _ _; rfl) : TE prog w base C sc vars n (.Subscript v sl pos) (vItem f g) := by
  intro c σ s Q E ok S q
  refine Subscript_ (wp_then (hf c σ s _ E ok S q) (fun u σ1 s1 st1 S1 q => ?_) fun _ _ x => x)
  refine wp_then (hg c σ1 s1 _ E ok S1 q) (fun x σ2 s2 st2 S2 ⟨r, hk, q⟩ => ?_) fun _ _ x => lx_trans st1 x
  unfold kItem at hk
  split at hk
  · rename_i l i e1 e2
    obtain rfl := ab_ref e1
    obtain ⟨t, rfl⟩ := ab_int e2
    rcases hk with ⟨xs, hl, h0, h1, hr⟩ | ⟨ep, es, hl, hr⟩
    · obtain ⟨ws, hw, rfl⟩ := S2.cr.hr _ _ hl
      obtain ⟨y, hy, rfl⟩ := map_get hr
      exact tail_any hw.isList.typeIs slot_list_getitem.lookup (wpAny_getItem_list hw.isList h0 (by omega) (by rw [← Array.getElem?_toList]; exact hy) ⟨σ2, st1.trans st2, S2, q⟩) (hs _ _)
    · obtain ⟨kvs, hw, rfl⟩ := S2.cr.hr _ _ hl
      rw [← valueAt_ab] at hr
      obtain ⟨y, hy, rfl⟩ := Option.map_eq_some_iff.mp hr
      exact tail_any hw.dictOf.mapOf.typeIs slot_dict_getitem.lookup (wpAny_getItem_of (intKind_is prog w i t) hw.dictOf.mapOf hy ⟨σ2, (st1.trans st2).tok, S2.tok, q⟩) (hs _ _)
  · rename_i l i e1 e2
    obtain rfl := ab_ref e1
    obtain ⟨t, rfl⟩ := ab_str e2
    obtain ⟨es, hl, hr⟩ := hk
    obtain ⟨kvs, hw, rfl⟩ := S2.cr.hr _ _ hl
    rw [← valueAt_ab] at hr
    obtain ⟨y, hy, rfl⟩ := Option.map_eq_some_iff.mp hr
    exact tail_any hw.mapOf.typeIs slot_dict_getitem.lookup (wpAny_getItem_of (strKind_is prog w i t) hw.mapOf hy ⟨σ2, (st1.trans st2).tok, S2.tok, q⟩) (hs _ _)
  · exact hk.elim
/-- a subscript of a list that stands at the top -/
def kItT2 (xs : List AV) (Q : AV → AS → Prop) (b : AV) (σ : AS) : Prop := ∃ i r, b = .int i ∧ 0 ≤ i ∧ i < 2 ^ 62 ∧ xs[i.toNat]? = some r ∧ Q r σ
def kItT1 (p : Addr) (xs : List AV) (g : PT AV) (Q : AV → AS → Prop) (E : AS → Prop) (a : AV) (σ : AS) : Prop := a = .ref p ∧ g σ (kItT2 xs Q) E
abbrev vItemTop (p : Addr) (xs : List AV) (f g : PT AV) : PT AV := fun σ Q E => f σ (kItT1 p xs g Q E) E
theorem T_itemTop {v sl : PySem.Expr} {pos : Pos} {f g : PT AV} {p : Addr} {xs : List AV} {vs : Array Value} (ht : base.IsList p vs) (hv : vs.toList.map ab = xs) (hf : TE prog w base C sc vars n v f) (hg : TE prog w base C sc vars n sl g)
    (hs : ∀ o i, subscripted sl false o i = operate [o, i] (getItem o i) := by intro _ _; rfl) : TE prog w base C sc vars n (.Subscript v sl pos) (vItemTop p xs f g) := by
  intro c σ s Q E ok S q
  refine Subscript_ (wp_then (hf c σ s _ E ok S q) (fun u σ1 s1 st1 S1 q => ?_) fun _ _ x => x)
  obtain ⟨e, q⟩ := q
  refine wp_then (hg c σ1 s1 _ E ok S1 q) (fun x σ2 s2 st2 S2 q => ?_) fun _ _ x => lx_trans st1 x
  obtain ⟨i, r, e2, h0, h1, hr, q⟩ := q
  obtain rfl := ab_ref e
  obtain ⟨t, rfl⟩ := ab_int e2
  subst hv
  obtain ⟨y, hy, rfl⟩ := map_get hr
  have hw : s2.heap.IsList p vs := ht.at fun o e => S2.cr.bs _ _ e
  exact tail_any hw.typeIs slot_list_getitem.lookup (wpAny_getItem_list hw h0 (by omega) (by rw [← Array.getElem?_toList]; exact hy) ⟨σ2, st1.trans st2, S2, q⟩) (hs _ _)
abbrev oLenTop (p : Addr) (xs : List AV) : OPT := fun as hp Q => as = [.ref p] ∧ Q (.int xs.length) hp
theorem O_lenTop {p : Addr} {xs : List AV} {ws : Array Value} (ht : base.IsList p ws) (hv : ws.toList.map ab = xs) (hz : xs.length ≤ 1000) : OpS prog w base (fun vs => call (.builtin "len") vs) (oLenTop p xs) := by
  intro c σ s vs Q hh hu hd S ⟨e, q⟩
  obtain ⟨u, rfl, e1⟩ := one (P := fun x => x = .ref p) ⟨_, e, rfl⟩
  obtain rfl := ab_ref e1
  subst hv
  have hw : s.heap.IsList p ws := ht.at fun o e => S.cr.bs _ _ e
  refine len_list hw (by simp only [List.length_map, Array.length_toList] at hz; omega) ⟨_, (Step.refl ..).tok, S.tok, ?_⟩
  simpa [ab] using q

/-- l[::-1] -/
inductive RevI (Q : AV → AS → Prop) (a b : AV) (lc : List (Option AV)) (h : HP) : Prop
  | mk (l : Addr) (xs : List AV) (ea : a = .ref l) (eb : b = .int (-1)) (hl : h l = some (.list xs)) (n : xs.length ≤ 1000) (q : ∀ D, h D = none → Q (.ref D) ⟨lc, upd h D (.list xs.reverse)⟩)
def kRev2 (Q : AV → AS → Prop) (a b : AV) : AS → Prop
  | ⟨lc, h⟩ => RevI Q a b lc h
def kRev1 (g : PT AV) (Q : AV → AS → Prop) (E : AS → Prop) (a : AV) (σ : AS) : Prop := g σ (kRev2 Q a) E
abbrev vRev (f g : PT AV) : PT AV := fun σ Q E => f σ (kRev1 g Q E) E
theorem T_rev {v st : PySem.Expr} {p pos : Pos} {f g : PT AV} (hf : TE prog w base C sc vars n v f) (hg : TE prog w base C sc vars n st g)
    (hs : ∀ o i, subscripted (.Slice none none (some st) p) false o i = operate [o, i] (getItem o i) := by intro _ _; rfl) : TE prog w base C sc vars n (.Subscript v (.Slice none none (some st) p) pos) (vRev f g) := by
  intro c σ s Q E ok S q
  refine Subscript_ (wp_then (hf c σ s _ E ok S q) (fun u σ1 s1 st1 S1 q => ?_) fun _ _ x => x)
  refine wpAny_Slice ?_
  rw [evalPart_none, evalPart_some]
  refine wpAny_pure (wpAny_pure (wp_then (hg c σ1 s1 _ E ok S1 q) (fun x σ2 s2 st2 S2 q => ?_) fun _ _ x => lx_trans st1 x))
  obtain ⟨l, xs, e1, e2, hl, hz, q⟩ := q
  obtain rfl := ab_ref e1
  obtain ⟨t, rfl⟩ := ab_int e2
  obtain ⟨ws, ⟨k, hw⟩, rfl⟩ := S2.cr.hr _ _ hl
  obtain ⟨S3, st3⟩ := S2.push { cls := .type "slice", data := .fields #[.none, .none, .int (-1) t] } (t := s2.toks)
  have hw' : (s2.heap.push { cls := .type "slice", data := .fields #[.none, .none, .int (-1) t] }).IsList l ws := PL.isList ⟨k, hw.push _⟩
  refine tail_any (s := { s2 with heap := s2.heap.push { cls := .type "slice", data := .fields #[.none, .none, .int (-1) t] } }) hw'.typeIs slot_list_getitem.lookup
    (wpAny_getItem_list_slice hw' (Heap.IsSliceOf.new ..) .none .none (.int _ _) (by simp) ?_ (by simp only [List.length_map, Array.length_toList] at hz; exact Nat.le_trans hz (by decide))) (hs _ _)
  rw [krv_pick]
  obtain ⟨h1, h2, h3⟩ := S3.alloc (o := { cls := .type "list", data := .seq ws.toList.reverse.toArray }) (x := .list (ws.toList.map ab).reverse) rfl (fun h e => ⟨_, ⟨_, e⟩, by simp⟩) (t := s2.toks)
  exact ⟨_, ((st1.trans st2).trans st3).trans h3, h2, q _ h1⟩
/-- l[k:] -/
inductive FromI (Q : AV → AS → Prop) (a b : AV) (lc : List (Option AV)) (h : HP) : Prop
  | mk (l : Addr) (xs : List AV) (k : Int) (ea : a = .ref l) (eb : b = .int k) (k0 : 0 ≤ k) (hl : h l = some (.list xs)) (n : xs.length ≤ 1000) (q : ∀ D, h D = none → Q (.ref D) ⟨lc, upd h D (.list (xs.drop k.toNat))⟩)
def kFrom2 (Q : AV → AS → Prop) (a b : AV) : AS → Prop
  | ⟨lc, h⟩ => FromI Q a b lc h
def kFrom1 (g : PT AV) (Q : AV → AS → Prop) (E : AS → Prop) (a : AV) (σ : AS) : Prop := g σ (kFrom2 Q a) E
abbrev vFrom (f g : PT AV) : PT AV := fun σ Q E => f σ (kFrom1 g Q E) E
theorem T_from {v lo : PySem.Expr} {p pos : Pos} {f g : PT AV} (hf : TE prog w base C sc vars n v f) (hg : TE prog w base C sc vars n lo g)
    (hs : ∀ o i, subscripted (.Slice (some lo) none none p) false o i = operate [i, o] (getItem o i) := by intro _ _; rfl) : TE prog w base C sc vars n (.Subscript v (.Slice (some lo) none none p) pos) (vFrom f g) := by
  intro c σ s Q E ok S q
  refine Subscript_ (wp_then (hf c σ s _ E ok S q) (fun u σ1 s1 st1 S1 q => ?_) fun _ _ x => x)
  refine wpAny_Slice ?_
  rw [evalPart_none, evalPart_some]
  refine wp_then (hg c σ1 s1 _ E ok S1 q) (fun x σ2 s2 st2 S2 q => wpAny_pure (wpAny_pure ?_)) fun _ _ x => lx_trans st1 x
  obtain ⟨l, xs, kk, e1, e2, h0, hl, hz, q⟩ := q
  obtain rfl := ab_ref e1
  obtain ⟨t, rfl⟩ := ab_int e2
  obtain ⟨ws, ⟨k, hw⟩, rfl⟩ := S2.cr.hr _ _ hl
  obtain ⟨j, rfl⟩ := Int.eq_ofNat_of_zero_le h0
  obtain ⟨S3, st3⟩ := S2.push { cls := .type "slice", data := .fields #[.int j t, .none, .none] } (t := s2.toks)
  have hw' : (s2.heap.push { cls := .type "slice", data := .fields #[.int j t, .none, .none] }).IsList l ws := PL.isList ⟨k, hw.push _⟩
  refine tail_any (s := { s2 with heap := s2.heap.push { cls := .type "slice", data := .fields #[.int j t, .none, .none] } }) hw'.typeIs slot_list_getitem.lookup
    (wpAny_getItem_list_slice hw' (Heap.IsSliceOf.new ..) (.int _ _) .none .none (by simp) ?_ (by simp only [List.length_map, Array.length_toList] at hz; exact Nat.le_trans hz (by decide))) (hs _ _)
  rw [slicePick_from']
  obtain ⟨h1, h2, h3⟩ := S3.alloc (o := { cls := .type "list", data := .seq (ws.toList.drop j).toArray }) (x := .list ((ws.toList.map ab).drop j)) rfl (fun h e => ⟨_, ⟨_, e⟩, by simp⟩) (t := s2.toks)
  exact ⟨_, ((st1.trans st2).trans st3).trans h3, h2, q _ h1⟩

/-- a store into a list or a dict -/
def kPut3 (Q : AF → AS → Prop) (a o b : AV) : AS → Prop
  | ⟨lc, h⟩ => ∃ l i, o = .ref l ∧ b = .int i ∧
    ((∃ xs, h l = some (.list xs) ∧ 0 ≤ i ∧ i < xs.length ∧ xs.length ≤ 1000 ∧ Q .next ⟨lc, upd h l (.list (xs.set i.toNat a))⟩) ∨
     (∃ ep es, h l = some (.idict ep es) ∧ es.length ≤ 1000 ∧ ∀ ep', Q .next ⟨lc, upd h l (.idict ep' (aPut es i a))⟩))
def kPut2 (fi : PT AV) (Q : AF → AS → Prop) (E : AS → Prop) (a o : AV) (σ : AS) : Prop := fi σ (kPut3 Q a o) E
def kPut1 (fo fi : PT AV) (Q : AF → AS → Prop) (E : AS → Prop) (a : AV) (σ : AS) : Prop := fo σ (kPut2 fi Q E a) E
abbrev vPut (fv fo fi : PT AV) : PT AF := fun σ Q E => fv σ (kPut1 fo fi Q E) E
theorem T_put {v o i : PySem.Expr} {pos' pos : Pos} {fv fo fi : PT AV} (hv : TE prog w base C sc vars n v fv) (ho : TE prog w base C sc vars n o fo) (hi : TE prog w base C sc vars n i fi)
    (hs : ∀ env, swapsWith v (some (.Subscript o i pos')) pos.line env = pure false := by intro _; rfl) : TS prog w base C sc vars n (.Assign [.Subscript o i pos'] v pos) (vPut fv fo fi) := by
  intro c σ s Q E ok S q
  refine wpAny_Assign_Subscript (wp_then (hv c σ s _ E ok S q) (fun a σ1 s1 st1 S1 q1 => ?_) fun _ _ x => x) (hs _)
  refine wp_then (ho c σ1 s1 _ E ok S1 q1) (fun u σ2 s2 st2 S2 q2 => ?_) fun _ _ x => lx_trans st1 x
  refine wp_then (hi c σ2 s2 _ E ok S2 q2) (fun x σ3 s3 st3 S3 q3 => ?_) fun _ _ x => lx_trans st1 (lx_trans st2 x)
  obtain ⟨l, i, e1, e2, q4⟩ := q3
  obtain rfl := ab_ref e1
  obtain ⟨t, rfl⟩ := ab_int e2
  have st := (st1.trans st2).trans st3
  rcases q4 with ⟨xs, hl, h0, h1, hz, q5⟩ | ⟨ep, es, hl, hz, q5⟩
  · obtain ⟨ws, ⟨k, hw⟩, rfl⟩ := S3.cr.hr _ _ hl
    simp only [List.length_map, Array.length_toList] at h1 hz
    refine ki_setAt hw h0 (by omega) h1 ?_
    have hpl : OH prog w (s3.heap.update l (Obj.mapSeq fun xs => xs.setIfInBounds i.toNat a)) l (.list ((ws.toList.map ab).set i.toNat (ab a))) := by
      refine ⟨_, isL_upd hw (fun xs => xs.setIfInBounds i.toNat a), ?_⟩
      simp [List.map_set]
    obtain ⟨h2, h3⟩ := S3.write (t := s3.toks) hl (Heap.SameBut.update ..) hpl
    exact ⟨_, st.trans h3, h2, q5⟩
  · obtain ⟨kvs, hw, rfl⟩ := S3.cr.hr _ _ hl
    refine wpAny_setItem_pairs (intKind_is prog w i t) hw.dictOf (fun h' hd hsb => ?_) (by simp only [List.length_map] at hz; exact Nat.le_trans hz (by decide))
    obtain ⟨ep', hd'⟩ := hd.dictAt
    obtain ⟨h2, h3⟩ := S3.write (t := s3.toks + 1) hl hsb (y := .idict ep' (aPut (kvs.map fun p => (p.1, ab p.2)) i (ab a))) ⟨_, hd', stored_ab _ _ _⟩
    exact ⟨_, st.trans h3, h2, q5 ep'⟩

/-- {} -/
abbrev vDict0 : PT AV := fun σ Q _ => ∀ D ep, σ.hp D = none → Q (.ref D) ⟨σ.loc, upd σ.hp D (.idict ep [])⟩
theorem T_dict0 {pos : Pos} : TE prog w base C sc vars n (.Dict [] [] pos) vDict0 := by
  intro c σ s Q E ok S q
  refine wpAny_Dict_empty ?_
  obtain ⟨ep, hd⟩ := (Heap.DictOf.new (knd := intKind prog w) s.heap).dictAt
  obtain ⟨h1, h2, h3⟩ := S.allocAt (x := .idict ep []) (t := s.toks) (fun b o e => Heap.get?_push_of_some _ e) (none_of_le (Nat.le_refl _)) ⟨[], hd, rfl⟩
  exact ⟨_, h3, h2, q _ _ h1⟩
end
end Mine

end

section
open PySem PySem.W PyProof.Rows PySem.Calls
set_option Elab.async false
set_option maxRecDepth 100000
set_option linter.unusedVariables false
namespace Mine

def putF (name : Str) (a : AV) : List (Str × AV) → List (Str × AV)
  | [] => [(name, a)]
  | p :: r => if p.1 = name then (p.1, a) :: r else p :: putF name a r
theorem ents_put {name : Str} {hsh : Int} {t : Tok} {v : Value} : ∀ {es : List DictEntry} {fs : List (Str × AV)}, EntsR es fs → EntsR (putL name hsh (.str name t) v es) (putF name (ab v) fs)
  | _, _, .nil => .cons .nil
  | _, _, .cons (hh := hh) (x := x) (t := u) (v := y) (es := es) (fs := fs) r => by
    show EntsR (if (Value.str x u).isStr name then _ else _) (if x = name then _ else _)
    have e : (Value.str x u).isStr name = (x == name) := rfl
    rw [e]
    by_cases q : x = name
    · subst q
      rw [if_pos (by simp), if_pos rfl]
      exact .cons r
    · rw [if_neg (by simpa using q), if_neg q]
      exact .cons (ents_put r)
theorem ents_len {es : List DictEntry} {fs : List (Str × AV)} (r : EntsR es fs) : es.length = fs.length := by
  induction r with
  | nil => rfl
  | cons _ ih => simp [ih]
theorem ents_isSome {name : Str} {es : List DictEntry} {fs : List (Str × AV)} (r : EntsR es fs) : (getL name es).isSome = true := by
  obtain ⟨h1, h2⟩ := ents_find (name := name) r
  unfold getL
  cases e : es.find? (·.key.isStr name) with
  | none => simp [h2]
  | some e' => rfl
theorem putF_length (name : Str) (a : AV) : ∀ fs : List (Str × AV), (putF name a fs).length ≤ fs.length + 1
  | [] => Nat.le_refl _
  | p :: r => by
    unfold putF
    split
    · simp
    · have := putF_length name a r
      simp only [List.length_cons]; omega

section
variable {prog : Program} {w : World} {K : Frag} {base : Heap} {mg mb : Str → Option Value} {C : Addr} {sc : Scope} {vars : List Str} {n : Nat}

structure SetOK (K : Frag) (CT : Addr) (name : Str) : Prop where
  set : findIn K (.ref CT) "__setattr__" = some (some (.builtin "object.__setattr__"))
  over : plainOver K CT = true
  taker : takerIn K CT name = some none
  dict : hasDictIn K CT = true
inductive SetI (CT : Addr) (name : Str) (Q : AF → AS → Prop) (a o : AV) (lc : List (Option AV)) (h : HP) : Prop
  | mk (x d : Addr) (fs : List (Str × AV)) (e : o = .ref x) (hx : h x = some (.inst CT d)) (hd : h d = some (.attrs fs)) (n : fs.length ≤ 100) (q : Q .next ⟨lc, upd h d (.attrs (putF name a fs))⟩)
def kSetA2 (CT : Addr) (name : Str) (Q : AF → AS → Prop) (a o : AV) : AS → Prop
  | ⟨lc, h⟩ => SetI CT name Q a o lc h
def kSetA1 (CT : Addr) (name : Str) (fo : PT AV) (Q : AF → AS → Prop) (E : AS → Prop) (a : AV) (σ : AS) : Prop := fo σ (kSetA2 CT name Q a) E
abbrev vSetA (CT : Addr) (name : Str) (fv fo : PT AV) : PT AF := fun σ Q E => fv σ (kSetA1 CT name fo Q E) E
theorem T_setA {CT : Addr} {v o : PySem.Expr} {name : Str} {pos' pos : Pos} {fv fo : PT AV} (X : K.In base) (ha : SetOK K CT name) (hv : TE prog w base C sc vars n v fv) (ho : TE prog w base C sc vars n o fo)
    (hs : ∀ env, swapsWith v (some (.Attribute o name pos')) pos.line env = pure false := by intro _; rfl) : TS prog w base C sc vars n (.Assign [.Attribute o name pos'] v pos) (vSetA CT name fv fo) := by
  intro c σ s Q E ok S q
  refine plainObj_wpAny_Assign_Attribute (wp_then (hv c σ s _ E ok S q) (fun a σ1 s1 st1 S1 q1 => ?_) fun _ _ x => x) (hs _)
  refine wp_then (ho c σ1 s1 _ E ok S1 q1) (fun u σ2 s2 st2 S2 q2 => ?_) fun _ _ x => lx_trans st1 x
  obtain ⟨x, d, fs, e1, hx, hd, hz, q3⟩ := q2
  obtain rfl := ab_ref e1
  obtain ⟨es, k, hd', hr⟩ := S2.cr.hr _ _ hd
  obtain ⟨m, news, F, N, hND, fin⟩ := S2.writeL (y := .attrs (putF name (ab a) fs)) hd hd'
  have I := inst_at (S2.cr.hr _ _ hx) hd'
  refine set_plain (X.keeps S2.cr.bs) I ha.set ?_
  refine osa_dict (s := { s2 with toks := s2.toks + 1 }) (dx := d) F N (X.keeps S2.cr.bs) I rfl ha.over ha.taker ha.dict (ents_isSome hr) (fun _ h => nomatch h) hND (putName_dict ..) rfl ?_ fun h' F' N' => ?_
  · have h1 := ents_len (ents_put (name := name) (hsh := PyData.keyHash w.params name) (t := s2.toks + 1) (v := a) hr)
    have h2 := putF_length name (ab a) fs
    rw [h1]; omega
  · obtain ⟨r1, r2⟩ := fin h' _ (s2.toks + 2) F' N' (fun h e => ⟨_, _, e, ents_put hr⟩)
    exact ⟨_, (st1.trans st2).trans r2, r1, q3⟩

/-! making an object -/
theorem C_make {CT fI : Addr} {κ : CPT} {κ' : CPT} {m : Nat} (X : K.In base) (hm : makesIn K CT = true) (hi : findIn K (.ref CT) "__init__" = some (some (.ref fI))) (hf : isFn K (.ref fI) = true) (hc : CodeS prog w base C m (.ref fI) κ)
    (hκ : ∀ as hp Q E, κ' as hp Q E → ∀ x d, hp x = none → hp d = none → x ≠ d → κ (.ref x :: as) (upd (upd hp d (.attrs [])) x (.inst CT d)) (fun r hp' => r = .none ∧ Q (.ref x) hp') E) : CallS prog w base C (m + 1) (.ref CT) κ' := by
  intro c σ s vs Q E ok S q
  refine wpAny_call ?_
  obtain ⟨hh, g, dd, t, os⟩ := s
  have X' := X.keeps S.cr.bs
  refine make_core (makes_of X' hm) (looks_findIn X' hi) (fun self => bind_fn X' self (beq_iff_eq.mp hf)) (.inl rfl) ?_
  obtain ⟨h1, S1, st1⟩ := S.alloc (o := emptyDict) (x := .attrs []) rfl (fun h e => ⟨[], 0, e, .nil⟩) (t := t)
  obtain ⟨h2, S2, st2⟩ := S1.alloc (o := instObj CT hh.objs.size) (x := .inst CT hh.objs.size) rfl (fun h e => e) (t := t)
  have esz : (hh.push emptyDict).objs.size = hh.objs.size + 1 := Heap.size_push ..
  dsimp only at h1 h2 S1 S2 st1 st2
  rw [esz] at h2 S2 st2
  have hne : hh.objs.size + 1 ≠ hh.objs.size := Nat.succ_ne_self _
  have ok' : FOK m ⟨c.env, c.A.under (.builtin "type.__call__" ⟨.ref CT :: vs, []⟩), c.vars, c.fr⟩ :=
    ⟨ok.handled, by show (c.A.under _).frames = _; exact ok.frames, by have := ok.depth; show c.A.depth + 1 + m < _; omega, by have := ok.units; show c.A.units + 1 + 200 * m < _; omega⟩
  have S2' : SR prog w base ⟨c.env, c.A.under (.builtin "type.__call__" ⟨.ref CT :: vs, []⟩), c.vars, c.fr⟩ _ _ := ⟨S2.loc, S2.priv, S2.prb, S2.plt, S2.cr⟩
  have hxn : σ.hp (hh.objs.size + 1) = none := by rw [upd_other hne] at h2; exact h2
  refine codeAny_mono (hc _ _ _ (.ref (hh.objs.size + 1) :: vs) _ _ ok' S2' (hκ _ _ _ _ q _ _ hxn h1 hne)) fun r s' z => ?_
  rcases r with e | f
  · obtain ⟨σ2, k1, k2, k3, k4, k5⟩ := z
    exact lx_trans (st1.trans st2) ⟨σ2, k1, ⟨k2.loc, k2.priv, k2.prb, k2.plt, k2.cr⟩, k3, k4, k5⟩
  · cases f with
    | ret v =>
      obtain ⟨hp', k1, k2, k3, k4⟩ := z
      exact ⟨ab_none k3, hp', (st1.trans st2).trans k1, ⟨k2.loc, k2.priv, k2.prb, k2.plt, k2.cr⟩, k4⟩
    | next => exact z.elim
    | brk => exact z.elim
    | cont => exact z.elim
end
end Mine

end

section
open PySem PySem.W PyProof.Rows PySem.Calls
set_option Elab.async false
set_option maxRecDepth 100000
set_option linter.unusedVariables false
namespace Mine

theorem ledger0 (h : Heap) (L : Addr) : ∃ news : List (Addr × Obj), News emptyH L h news ∧ ∀ b o, h.get? b = some o → b ≠ L → (b, o) ∈ news := by
  refine ⟨(List.range h.objs.size).filterMap fun b => if b = L then none else (h.get? b).map fun o => (b, o), ?_, ?_⟩
  · intro p hp
    obtain ⟨b, _, hb⟩ := List.mem_filterMap.mp hp
    split at hb
    · cases hb
    · rename_i hn
      obtain ⟨o, ho, rfl⟩ := Option.map_eq_some_iff.mp hb
      exact ⟨ho, hn, emptyH_get _⟩
  · intro b o ho hL
    refine List.mem_filterMap.mpr ⟨b, List.mem_range.mpr (Heap.lt_size ho), ?_⟩
    rw [if_neg hL, ho]; rfl

section
variable {prog : Program} {w : World} {K : Frag} {base : Heap} {mg mb : Str → Option Value} {C : Addr} {sc : Scope} {vars : List Str} {n : Nat}

/-- a heap that grew, by a rule that speaks of ledgers -/
theorem SR.growL {c : Act} {σ : AS} {s : Shared} (S : SR prog w base c σ s) :
    ∃ (m : Str → Option Value) (news : List (Addr × Obj)), Fr emptyH c.env.locals s.heap m ∧ News emptyH c.env.locals s.heap news ∧ (∀ b o, s.heap.get? b = some o → b ≠ c.env.locals → (b, o) ∈ news) ∧
      ∀ (h' : Heap) (t : Nat), Fr emptyH c.env.locals h' m → (∀ p ∈ news, h'.get? p.1 = some p.2) →
        SR prog w base c σ { s with heap := h', toks := t } ∧ Step c.priv (fas c.fr) σ.hp s σ.hp { s with heap := h', toks := t } := by
  obtain ⟨m, hn, hl, hs⟩ := S.loc
  have hLn : σ.hp c.env.locals = none := S.priv _ (.head _)
  obtain ⟨news, N, hall⟩ := ledger0 s.heap c.env.locals
  refine ⟨m, news, ⟨hn, (fun b o e => by rw [emptyH_get] at e; cases e), Nat.zero_le _⟩, N, hall, fun h' t F' N' => ?_⟩
  have k : ∀ b o, s.heap.get? b = some o → b ≠ c.env.locals → h'.get? b = some o := fun b o e h2 => N' (b, o) (hall b o e h2)
  have kn : ∀ b o, σ.hp b = some o → b ≠ c.env.locals := fun b o e q => by rw [q, hLn] at e; cases e
  refine ⟨⟨⟨m, F'.ns, hl, fun i z oa h1 h2 => ?_⟩, S.priv, S.prb, fun b hb => ?_, ⟨fun a o e => ?_, S.cr.frm, fun b o e => ?_, S.cr.nb, ?_⟩⟩, ⟨fun b o e hn' hp => ?_, rfl, rfl, rfl⟩⟩
  · rcases hs i z oa h1 h2 with h | ⟨h3, cc, ov, h4, ⟨o, ho', hd⟩, h6⟩
    · exact .inl h
    · refine .inr ⟨h3, cc, ov, h4, ⟨o, k cc o ho' fun q => ?_, hd⟩, h6⟩
      obtain ⟨o', es, ep, ho'', hd', _⟩ := hn
      rw [q, ho''] at ho'; cases ho'; rw [hd'] at hd; cases hd
  · obtain ⟨o, e⟩ := S.plt b hb
    by_cases q : b = c.env.locals
    · subst q
      obtain ⟨o', es, ep, ho', _⟩ := F'.ns
      exact ⟨o', ho'⟩
    · exact ⟨o, k b o e q⟩
  · exact (S.cr.hr a o e).at fun o' e' => k a o' e' (kn a o e)
  · refine k b o (S.cr.bs b o e) fun q => ?_
    have := S.prb c.env.locals (.head _)
    rw [← q, e] at this; cases this
  · refine ff_keep' (fun b hb o e hnf => ?_) S.cr.frames
    by_cases q : b = c.env.locals
    · subst q
      obtain ⟨o', es, ep, ho', hd', _⟩ := F'.ns
      exact ⟨o', ho', fun vs q => by rw [hd'] at q; cases q⟩
    · exact ⟨o, k b o e q, hnf⟩
  · have h1 : b ≠ c.env.locals := fun q => hp (q ▸ .head _)
    exact ⟨⟨o.slots, k b o e h1⟩, fun _ => k b o e h1, hn'⟩

theorem intsAre_of {vs : List Value} {xs : List Int} (h : vs.map ab = xs.map AV.int) : IntsAre vs xs := by
  induction vs generalizing xs with
  | nil => cases xs with
    | nil => exact .nil
    | cons _ _ => cases h
  | cons v r ih => cases xs with
    | nil => cases h
    | cons x xs =>
      rw [List.map_cons, List.map_cons, List.cons.injEq] at h
      obtain ⟨t, rfl⟩ := ab_int h.1
      exact .cons x t (ih h.2)
theorem of_intsAre {vs : List Value} {xs : List Int} (h : IntsAre vs xs) : vs.map ab = xs.map AV.int := by
  induction h with
  | nil => rfl
  | cons x t _ ih => rw [List.map_cons, List.map_cons, ih]; rfl
theorem of_strsAre {vs : List Value} {xs : List Str} (h : StrsAre vs xs) : vs.map ab = xs.map AV.str := by
  induction h with
  | nil => rfl
  | cons x t _ ih => rw [List.map_cons, List.map_cons, ih]; rfl

theorem sort_done {c : Act} {σ : AS} {s : Shared} (S : SR prog w base c σ s) {D : Addr} {vs : List Value} {k : Nat} {out : Array Value} (hD : s.heap.get? D = some (seqObj "list" vs.toArray k)) (hn : σ.hp D = none) (hp : D ∉ c.priv) (hf : D ∉ fas c.fr) (hb : base.get? D = none) {t : Nat} :
    SR prog w base c ⟨σ.loc, upd σ.hp D (.list (out.toList.map ab))⟩ { s with heap := sortedHeap s.heap D vs out, toks := t } := by
  have k : ∀ b o, s.heap.get? b = some o → b ≠ D → (sortedHeap s.heap D vs out).get? b = some o := fun b o e h => (sortedHeap_old h (Heap.lt_size e)).trans e
  obtain ⟨e, he⟩ := sortedHeap_at (out := out) hD
  obtain ⟨m, hns, hl, hs⟩ := S.loc
  refine ⟨⟨m, hns.at' fun o e => k _ _ e fun q => hp (q ▸ .head _), hl, fun i z oa h1 h2 => ?_⟩, fun b hb => ?_, S.prb, fun b hb => ?_, ⟨fun a o e => ?_, fun b hb => ?_, fun b o e => ?_, fun b hb => ?_, ?_⟩⟩
  · rcases hs i z oa h1 h2 with h | ⟨h3, cc, ov, h4, ⟨o, ho', hd⟩, h6⟩
    · exact .inl h
    · exact .inr ⟨h3, cc, ov, h4, ⟨o, k cc o ho' fun q => hp (q ▸ .tail _ (List.mem_map.mpr ⟨(z, cc), PySem.mem_of_lookup h4, rfl⟩)), hd⟩, h6⟩
  · show upd σ.hp D _ b = none
    rw [upd_other fun q => hp (by rw [← q]; exact hb)]; exact S.priv b hb
  · obtain ⟨o, e⟩ := S.plt b hb
    exact ⟨o, k b o e fun q => hp (by rw [← q]; exact hb)⟩
  · change upd σ.hp D _ a = some o at e
    by_cases q : a = D
    · subst q; rw [upd_self] at e; cases e
      exact ⟨out, ⟨_, he⟩, rfl⟩
    · rw [upd_other q] at e
      exact (S.cr.hr a o e).at fun o' e' => k a o' e' q
  · show upd σ.hp D _ b = none
    rw [upd_other fun q => hf (by rw [← q]; exact hb)]; exact S.cr.frm b hb
  · exact k b o (S.cr.bs b o e) fun q => by rw [q, hb] at e; cases e
  · by_cases q : b = D
    · subst q; assumption
    · refine S.cr.nb b ?_
      rw [← upd_other (hp := σ.hp) (o := .list (out.toList.map ab)) q]; exact hb
  · exact ff_keep (fun b hb o e => k b o e fun q => hf (by rw [← q]; exact hb)) S.cr.frames

/-- sorted(d) -/
abbrev oSorted : OPT := fun as hp Q => ∃ d, as = [.ref d] ∧ ((∃ ep es, hp d = some (.idict ep es) ∧ es.length < 64 ∧ ∀ (D : Addr) (ns : List Int), hp D = none → ns.Perm (es.map (·.1)) → ns.Pairwise (· ≤ ·) → Q (.ref D) (upd hp D (.list (ns.map .int)))) ∨
  (∃ x a, hp d = some (.sdict [(x, a)]) ∧ ∀ D, hp D = none → Q (.ref D) (upd hp D (.list [.str x]))))
theorem O_sorted (low : base.get? sysModules ≠ none) : OpS prog w base (fun vs => call (.builtin "sorted") vs) oSorted := by
  intro c σ s vs Q hh hu hd S ⟨d, e, q⟩
  obtain ⟨u, rfl, e1⟩ := one (P := fun x => x = .ref d) ⟨_, e, rfl⟩
  obtain rfl := ab_ref e1
  obtain ⟨m, news, F, N, hall, fin⟩ := S.growL
  have after : ∀ (D : Addr) (h' : Heap) (tk : Nat) (vs : List Value) (out : Array Value), Fr emptyH c.env.locals h' m → News emptyH c.env.locals h' ((D, listOf vs.toArray 0) :: news) → (∀ q ∈ news, q.1 < D) →
      σ.hp D = none ∧ SR prog w base c ⟨σ.loc, upd σ.hp D (.list (out.toList.map ab))⟩ { s with heap := sortedHeap h' D vs out, toks := tk } ∧ Step c.priv (fas c.fr) σ.hp s (upd σ.hp D (.list (out.toList.map ab))) { s with heap := sortedHeap h' D vs out, toks := tk } := by
    intro D h' tk vs out F' N' hlt
    obtain ⟨S', st'⟩ := fin h' tk F' fun p hp => (N' p (.tail _ hp)).1
    have hDL : D ≠ c.env.locals := (N' _ (.head _)).2.1
    have hDn : s.heap.get? D = none := by
      cases q : s.heap.get? D with
      | none => rfl
      | some o =>
        exact absurd (hlt _ (hall D o q hDL)) (Nat.lt_irrefl _)
    have hDh : σ.hp D = none := by
      cases q : σ.hp D with
      | none => rfl
      | some y => obtain ⟨o', ho'⟩ := (S.cr.hr _ _ q).there; rw [hDn] at ho'; cases ho'
    have hDp : D ∉ c.priv := fun h => by obtain ⟨o, e⟩ := S.plt D h; rw [hDn] at e; cases e
    have hDf : D ∉ fas c.fr := fun h => by obtain ⟨_, o, e, _⟩ := ff_get S.cr.frames D h; rw [hDn] at e; cases e
    have hDb : base.get? D = none := by
      cases q : base.get? D with
      | none => rfl
      | some o => rw [S.cr.bs D o q] at hDn; cases hDn
    refine ⟨hDh, sort_done S' (N' _ (.head _)).1 hDh hDp hDf hDb, ⟨fun b o e hn hp => ?_, rfl, rfl, rfl⟩⟩
    obtain ⟨⟨sl, k1⟩, k2, k3⟩ := st'.keep b o e hn hp
    have hbD : b ≠ D := fun q => by rw [q, hDn] at e; cases e
    refine ⟨⟨sl, (sortedHeap_old hbD (Heap.lt_size k1)).trans k1⟩, fun hf => (sortedHeap_old hbD (Heap.lt_size k1)).trans (k2 hf), ?_⟩
    rw [upd_other hbD]; exact hn
  rcases q with ⟨ep, es, hl, hz, q⟩ | ⟨x, a, hl, q⟩
  · obtain ⟨kvs, hw, rfl⟩ := S.cr.hr _ _ hl
    rw [List.length_map] at hz
    refine kdu_sorted (kdl_dict (not_sys low S hl)) hh F N hw (by have := sizeLine_eq; omega) fun D h' tk vs F' N' hlt hlen hP => ?_
    have hI : IntsAre vs (kvs.map (·.1)) := by
      refine intsAre_of (List.ext_getElem? fun i => ?_)
      rw [List.getElem?_map, List.getElem?_map, List.getElem?_map]
      cases e : vs[i]? with
      | none =>
        have : kvs.length ≤ i := by rw [← hlen]; exact List.getElem?_eq_none_iff.mp e
        rw [List.getElem?_eq_none this]; rfl
      | some v =>
        obtain ⟨k, y, hk, hv⟩ := hP i v e
        obtain ⟨t, rfl⟩ := Value.isInt_shape hv
        rw [hk]; rfl
    refine wpAny_call_entry slot_list_sort ⟨_, (N' _ (.head _)).1, rfl⟩ entry_list_sort (list_sort_tree (N' _ (.head _)).1 hI (by omega) fun out ns' a1 a2 a3 => ⟨_, rfl, ?_⟩) (args_list_sort _)
    obtain ⟨r1, r2, r3⟩ := after D h' tk vs out F' N' hlt
    rw [of_intsAre a1] at r2 r3
    exact ⟨_, r3, r2, q D ns' r1 (by simpa [List.map_map, Function.comp_def] using a2) a3⟩
  · obtain ⟨kvs, hw, e2⟩ := S.cr.hr _ _ hl
    obtain ⟨v, rfl⟩ : ∃ v, kvs = [(x, v)] := by
      rcases kvs with _ | ⟨⟨k, v⟩, _ | ⟨p, r⟩⟩ <;> simp at e2
      exact ⟨v, by rw [e2.1]⟩
    obtain ⟨ep, hw'⟩ := hw.dictAt
    refine kdu_sorted (kdl_dict (not_sys low S hl)) hh F N hw' (by show 1 ≤ sizeLine; decide) fun D h' tk vs F' N' hlt hlen hP => ?_
    have hS : StrsAre vs [x] := by
      rcases vs with _ | ⟨v1, _ | ⟨v2, r⟩⟩ <;> simp at hlen
      obtain ⟨k, y, hk, hv⟩ := hP 0 v1 rfl
      simp at hk
      obtain ⟨rfl, rfl⟩ := hk
      obtain ⟨t, rfl⟩ := Value.isStrOf_shape hv
      exact .cons _ t .nil
    refine wpAny_call_entry slot_list_sort ⟨_, (N' _ (.head _)).1, rfl⟩ entry_list_sort (list_sort_treeK strKind_oneLt (N' _ (.head _)).1 hS.keysOf (fun v₁ v₂ rest e => keyKind_strs (by rw [← e]; exact hS)) (by rw [hlen]; show 1 < 64; decide) fun st' hp hs => ⟨_, rfl, ?_⟩) (args_list_sort _)
    obtain ⟨ss', h1, h2, h3⟩ := sorted_out_str hS hp hs
    obtain rfl : ss' = [x] := by simpa using h2
    obtain ⟨r1, r2, r3⟩ := after D h' tk vs _ F' N' hlt
    rw [of_strsAre h1] at r2 r3
    exact ⟨_, r3, r2, q D r1⟩
end
end Mine

end

section
open PySem PySem.W PyProof.Rows PySem.Calls
set_option Elab.async false
set_option maxRecDepth 100000
set_option linter.unusedVariables false
namespace Mine

section
variable {prog : Program} {w : World} {K : Frag} {base : Heap} {mg mb : Str → Option Value} {C : Addr} {sc : Scope} {vars : List Str} {n : Nat}

/-! values of and, not -/
inductive kAndV (g : PT AV) (Q : AV → AS → Prop) (E : AS → Prop) (a : AV) (σ : AS) : Prop
  | mk (r : Bool) (e : a = .bool r) (t : r = true → g σ Q E) (f : r = false → Q (.bool false) σ)
abbrev vAndV (f g : PT AV) : PT AV := fun σ Q E => f σ (kAndV g Q E) E
theorem T_and1 {e : PySem.Expr} {pos : Pos} {f : PT AV} (hf : TE prog w base C sc vars n e f) : TE prog w base C sc vars n (.BoolOp .And [e] pos) f := fun c σ s Q E ok S q => BoolOp_one (hf c σ s Q E ok S q)
theorem T_and {e e2 : PySem.Expr} {rest : List PySem.Expr} {pos : Pos} {f g : PT AV} (hf : TE prog w base C sc vars n e f) (hg : TE prog w base C sc vars n (.BoolOp .And (e2 :: rest) pos) g) : TE prog w base C sc vars n (.BoolOp .And (e :: e2 :: rest) pos) (vAndV f g) := by
  intro c σ s Q E ok S q
  refine BoolOp_and (wp_then (hf c σ s _ E ok S q) (fun v σ1 s1 st1 S1 q1 => ?_) fun _ _ x => x)
  obtain ⟨r, e1, h1, h2⟩ := q1
  obtain rfl := ab_bool e1
  refine wpAny_truthy_bool ?_
  cases r with
  | true => exact wp_lift st1 (hg c σ1 s1 Q E ok S1 (h1 rfl))
  | false => exact ⟨σ1, st1, S1, h2 rfl⟩
inductive kNotV (Q : AV → AS → Prop) (a : AV) (σ : AS) : Prop
  | mk (r : Bool) (e : a = .bool r) (q : Q (.bool (!r)) σ)
abbrev vNotV (f : PT AV) : PT AV := fun σ Q E => f σ (kNotV Q) E
theorem T_not {e : PySem.Expr} {pos : Pos} {f : PT AV} (hf : TE prog w base C sc vars n e f) : TE prog w base C sc vars n (.UnaryOp .Not e pos) (vNotV f) := by
  intro c σ s Q E ok S q
  show wpAny (model prog w) c.A (eval e c.env >>= fun v => standAt pos >>= fun _ => holding [v] (unaryOp .Not v)) _ _ s
  refine wpAny_bind (wp_then (hf c σ s _ E ok S q) (fun v σ1 s1 st1 S1 q1 => ?_) fun _ _ x => x)
  obtain ⟨r, e1, h1⟩ := q1
  obtain rfl := ab_bool e1
  refine wpAny_bind (wpAny_standAt (wpAny_holding ?_))
  exact PyProof.Rows.not_of (wpAny_truthy_bool ⟨σ1, st1, S1, h1⟩)

/-! dicts of str keys -/
abbrev gSdict : AV → HP → Prop := fun a hp => ∃ l es, a = .ref l ∧ hp l = some (.sdict es)
theorem G_sdict : TypeSat prog w base "dict" gSdict := by
  intro c σ s v S ⟨l, es, e, hl⟩
  obtain rfl := ab_ref e
  obtain ⟨kvs, hd, rfl⟩ := S.cr.hr _ _ hl
  exact ⟨hd.typeIs, hd.mapOf.noDict⟩
abbrev oGet : OPT := fun as hp Q => ∃ l x es, as = [.ref l, .str x] ∧ hp l = some (.sdict es) ∧ Q ((aGet es x).getD .none) hp
theorem O_get (low : base.get? sysModules ≠ none) : OpS prog w base (fun vs => call (.builtin "dict.get") vs) oGet := by
  intro c σ s vs Q hh hu hd S ⟨l, x, es, e, hl, q⟩
  obtain ⟨u, v, rfl, e1, e2⟩ := two (P := fun a b => a = .ref l ∧ b = .str x) ⟨_, _, e, rfl, rfl⟩
  obtain rfl := ab_ref e1
  obtain ⟨t, rfl⟩ := ab_str e2
  obtain ⟨kvs, hw, rfl⟩ := S.cr.hr _ _ hl
  refine call_meetsIn PySem.F.slot_dict_get hw.typeIs PySem.F.entry_dict_get (PySem.F.args_dict_get_2 _ _) (meets_dict_get (strKind prog w) l (strKind_is prog w x t) (not_sys low S hl)) ⟨_, hw.mapOf, ?_⟩
  refine ⟨_, (Step.refl ..).tok, S.tok, ?_⟩
  rw [← valueAt_ab] at q
  cases h : valueAt kvs x with
  | none => rw [h] at q; exact q
  | some v => rw [h] at q; exact q
/-- {k: v}, k a str -/
def kD1b (Q : AV → AS → Prop) (a b : AV) : AS → Prop
  | ⟨lc, h⟩ => ∃ x, a = .str x ∧ ∀ D, h D = none → Q (.ref D) ⟨lc, upd h D (.sdict [(x, b)])⟩
def kD1a (g : PT AV) (Q : AV → AS → Prop) (E : AS → Prop) (a : AV) (σ : AS) : Prop := g σ (kD1b Q a) E
abbrev vDict1 (f g : PT AV) : PT AV := fun σ Q E => f σ (kD1a g Q E) E
theorem T_dict1 {ke ve : PySem.Expr} {pos : Pos} {f g : PT AV} (hf : TE prog w base C sc vars n ke f) (hg : TE prog w base C sc vars n ve g)
    (hs : ∀ env, (evalEachOpt [some ke] env).zip ((evalEach [ve] env).map fun v => do let x ← v; standAt pos; pure x) = [(some (eval ke env), (do let x ← eval ve env; standAt pos; pure x))] := by intro _; rfl) :
    TE prog w base C sc vars n (.Dict [some ke] [ve] pos) (vDict1 f g) := by
  intro c σ s Q E ok S q
  refine wpAny_Dict_pairs (knd := strKind prog w) (pairs := [(eval ke c.env, (do let x ← eval ve c.env; standAt pos; pure x))]) (hs _) (by simp) (by simp) ?_
  obtain ⟨S1, st1⟩ := S.push { cls := .type "dict", data := .dict #[] } (t := s.toks)
  have hD0 : (s.heap.push { cls := .type "dict", data := .dict #[] }).DictOf (strKind prog w) s.heap.objs.size [] := Heap.DictOf.new s.heap
  have hDn : s.heap.get? s.heap.objs.size = none := none_of_le (Nat.le_refl _)
  have hDp : s.heap.objs.size ∉ c.priv := fun h => by obtain ⟨o, e⟩ := S.plt _ h; rw [hDn] at e; cases e
  have hDf : s.heap.objs.size ∉ fas c.fr := fun h => by obtain ⟨_, o, e, _⟩ := ff_get S.cr.frames _ h; rw [hDn] at e; cases e
  have hDh : σ.hp s.heap.objs.size = none := by
    cases q : σ.hp s.heap.objs.size with
    | none => rfl
    | some y => obtain ⟨o', ho'⟩ := (S.cr.hr _ _ q).there; rw [hDn] at ho'; cases ho'
  have hDb : base.get? s.heap.objs.size = none := by
    cases q : base.get? s.heap.objs.size with
    | none => rfl
    | some o => rw [S.cr.bs _ o q] at hDn; cases hDn
  refine evalPairs_cons (wp_then (hf c σ _ _ E ok S1 q) (fun k σ2 s2 st2 S2 q2 => ?_) fun _ _ x => lx_trans st1 x)
  refine wpAny_bind (wp_then (hg c σ2 s2 _ E ok S2 q2) (fun v σ3 s3 st3 S3 q3 => wpAny_bind (wpAny_standAt (wpAny_pure ?_))) fun _ _ x => lx_trans st1 (lx_trans st2 x))
  obtain ⟨x, e1, q4⟩ := q3
  obtain ⟨t, rfl⟩ := ab_str e1
  have st := (st1.trans st2).trans st3
  have stk : Step c.priv (fas c.fr) σ.hp { s with heap := s.heap.push { cls := .type "dict", data := .dict #[] }, toks := s.toks } σ3.hp s3 := st2.trans st3
  obtain ⟨o, hok⟩ : ∃ o, (s.heap.push { cls := .type "dict", data := .dict #[] }).get? s.heap.objs.size = some o := ⟨_, Heap.get?_push_size _ rfl⟩
  obtain ⟨_, k2, k3⟩ := stk.keep _ o hok hDh hDp
  have hD3 : s3.heap.DictOf (strKind prog w) s.heap.objs.size [] := by
    obtain ⟨o', es, ep, ho', r⟩ := hD0
    have : o' = o := by rw [hok] at ho'; exact (Option.some.inj ho').symm
    subst this
    exact ⟨o', es, ep, k2 hDf, r⟩
  refine evalPairs_nil ⟨[(x, v)], ⟨strKind_is prog w x t, rfl, trivial⟩, hD3, fun h' hd hsb => ?_⟩
  have hw : OH prog w h' s.heap.objs.size (.sdict [(x, ab v)]) := ⟨_, hd, rfl⟩
  have k : ∀ b o, s3.heap.get? b = some o → b ≠ s.heap.objs.size → h'.get? b = some o := fun b o e h => (hsb.2 b h).trans e
  obtain ⟨m, hns, hl, hs'⟩ := S3.loc
  have bk : ∀ b, upd σ3.hp s.heap.objs.size (.sdict [(x, ab v)]) b ≠ none → b = s.heap.objs.size ∨ σ3.hp b ≠ none := fun b hb => by
    by_cases q : b = s.heap.objs.size
    · exact .inl q
    · rw [upd_other q] at hb; exact .inr hb
  refine ⟨⟨σ3.loc, upd σ3.hp s.heap.objs.size (.sdict [(x, ab v)])⟩, ⟨fun b o e hn hp => ?_, st.gens, st.drawn, st.os⟩, ⟨⟨m, hns.at' fun o e => k _ _ e fun q => hDp (q ▸ .head _), hl, fun i z oa h1 h2 => ?_⟩, fun b hb => ?_, S3.prb, fun b hb => ?_, ⟨fun a o e => ?_, fun b hb => ?_, fun b o e => ?_, fun b hb => ?_, ?_⟩⟩, q4 _ k3⟩
  · obtain ⟨⟨sl, a1⟩, a2, a3⟩ := st.keep b o e hn hp
    have hb : b ≠ s.heap.objs.size := fun q => by rw [q, hDn] at e; cases e
    exact ⟨⟨sl, k b _ a1 hb⟩, fun hf => k b _ (a2 hf) hb, by show upd σ3.hp _ _ b = none; rw [upd_other hb]; exact a3⟩
  · rcases hs' i z oa h1 h2 with h | ⟨h3, cc, ov, h4, ⟨o, ho', hd⟩, h6⟩
    · exact .inl h
    · exact .inr ⟨h3, cc, ov, h4, ⟨o, k cc o ho' fun q => hDp (q ▸ .tail _ (List.mem_map.mpr ⟨(z, cc), PySem.mem_of_lookup h4, rfl⟩)), hd⟩, h6⟩
  · show upd σ3.hp _ _ b = none
    rw [upd_other fun q => hDp (by rw [← q]; exact hb)]; exact S3.priv b hb
  · obtain ⟨o, e⟩ := S3.plt b hb
    exact ⟨o, k b o e fun q => hDp (by rw [← q]; exact hb)⟩
  · change upd σ3.hp _ _ a = some o at e
    by_cases q : a = s.heap.objs.size
    · subst q; rw [upd_self] at e; cases e; exact hw
    · rw [upd_other q] at e
      exact (S3.cr.hr a o e).at fun o' e' => k a o' e' q
  · show upd σ3.hp _ _ b = none
    rw [upd_other fun q => hDf (by rw [← q]; exact hb)]; exact S3.cr.frm b hb
  · exact k b o (S3.cr.bs b o e) fun q => by rw [q, hDb] at e; cases e
  · rcases bk b hb with q | q
    · subst q; exact hDb
    · exact S3.cr.nb b q
  · exact ff_keep (fun b hb o e => k b o e fun q => hDf (by rw [← q]; exact hb)) S3.cr.frames

/-! taking tuples apart -/
inductive UnpI (i j : Nat) (Q : AF → AS → Prop) (a : AV) (lc : List (Option AV)) (h : HP) : Prop
  | mk (l : Addr) (x y : AV) (e : a = .ref l) (hl : h l = some (.tup [x, y])) (q : Q .next ⟨(lc.set i (some x)).set j (some y), h⟩)
inductive SwpI (i j : Nat) (Q : AF → AS → Prop) (a : AV) (lc : List (Option AV)) (h : HP) : Prop
  | mk (l : Addr) (x y : AV) (e : a = .ref l) (hl : h l = some (.tup [x, y])) (q : Q .next ⟨(lc.set j (some y)).set i (some x), h⟩)
inductive Unp3I (i j k : Nat) (Q : AF → AS → Prop) (a : AV) (lc : List (Option AV)) (h : HP) : Prop
  | mk (l : Addr) (x y z : AV) (e : a = .ref l) (hl : h l = some (.tup [x, y, z])) (q : Q .next ⟨((lc.set i (some x)).set j (some y)).set k (some z), h⟩)
def kUnp2 (i j : Nat) (Q : AF → AS → Prop) (a : AV) : AS → Prop
  | ⟨lc, h⟩ => UnpI i j Q a lc h
def kSwp2 (i j : Nat) (Q : AF → AS → Prop) (a : AV) : AS → Prop
  | ⟨lc, h⟩ => SwpI i j Q a lc h
def kUnp3 (i j k : Nat) (Q : AF → AS → Prop) (a : AV) : AS → Prop
  | ⟨lc, h⟩ => Unp3I i j k Q a lc h
abbrev vUnp2 (i j : Nat) (f : PT AV) : PT AF := fun σ Q E => f σ (kUnp2 i j Q) E
abbrev vUnp3 (i j k : Nat) (f : PT AV) : PT AF := fun σ Q E => f σ (kUnp3 i j k Q) E
theorem tup2 {ws : Array Value} {x y : AV} (e : ws.toList.map ab = [x, y]) : ∃ u v, ws.toList = [u, v] ∧ ws.size = 2 ∧ ab u = x ∧ ab v = y := by
  obtain ⟨l, rfl⟩ : ∃ l : List Value, ws = l.toArray := ⟨ws.toList, by simp⟩
  rcases l with _ | ⟨u, _ | ⟨v, _ | ⟨z, r⟩⟩⟩ <;> simp at e
  exact ⟨u, v, rfl, rfl, e.1, e.2⟩
theorem tup3 {ws : Array Value} {x y z : AV} (e : ws.toList.map ab = [x, y, z]) : ∃ u v t, ws.toList = [u, v, t] ∧ ws.size = 3 ∧ ab u = x ∧ ab v = y ∧ ab t = z := by
  obtain ⟨l, rfl⟩ : ∃ l : List Value, ws = l.toArray := ⟨ws.toList, by simp⟩
  rcases l with _ | ⟨u, _ | ⟨v, _ | ⟨t, _ | ⟨p, r⟩⟩⟩⟩ <;> simp at e
  exact ⟨u, v, t, rfl, rfl, e.1, e.2.1, e.2.2⟩
theorem T_unp2 {x y : Str} {px py tp pos : Pos} {k i j : Nat} {e : PySem.Expr} {f : PT AV} (hx : At vars i x) (hy : At vars j y) (fx : sc.names.lookup x ≠ some .free) (fy : sc.names.lookup y ≠ some .free) (hf : TE prog w base C sc vars n e f)
    (hs : ∀ env, swapsWithSole [.Tuple [.Name x px, .Name y py] k tp] e pos.line env = pure false := by intro _; rfl) (hw : ∀ env, swappedStores [.Tuple [.Name x px, .Name y py] k tp] e env = pure none := by intro _; rfl)
    (ha : ∀ env, assignEach [.Name x px, .Name y py] env = [(false, assign (.Name x px) env), (false, assign (.Name y py) env)] := by intro _; rfl) :
    TS prog w base C sc vars n (.Assign [.Tuple [.Name x px, .Name y py] k tp] e pos) (vUnp2 i j f) := by
  intro c σ s Q E ok S q
  refine Assign_Tuple (wp_then (hf c σ s _ E ok S q) (fun a σ1 s1 st1 S1 q1 => ?_) fun _ _ x => x) (hs _) (hw _)
  obtain ⟨l, u, v, e1, hl, q2⟩ := q1
  obtain rfl := ab_ref e1
  obtain ⟨ws, hws, e2⟩ := S1.cr.hr _ _ hl
  obtain ⟨a, b, e3, hsz, rfl, rfl⟩ := tup2 e2
  refine assign_Tuple_tuple ok.handled hws (by rw [ha, hsz]; rfl) (by rw [ha]; rfl) fun h' he => ?_
  rw [ha, e3]
  obtain ⟨S2, st2⟩ := S1.grown (t := s1.toks) (h' := h') fun b o e => he b o (Nat.ne_of_lt (Heap.lt_size e)) e
  have st := st1.trans st2
  refine wpAny_bind (wpAny_holding (assign_Name (wpAny_mono (wp_store ok S2 hx fx) (fun _ s3 ⟨st3, S3⟩ => ?_) fun _ _ x => x)))
  refine wpAny_bind (wpAny_holding (assign_Name (wpAny_mono (wp_store ok S3 hy fy) (fun _ s4 ⟨st4, S4⟩ => ?_) fun _ _ x => x)))
  exact wpAny_pure ⟨(σ1.set i (ab a)).set j (ab b), (st.trans st3).trans st4, S4, q2⟩
theorem T_unp3 {x y z : Str} {px py pz tp pos : Pos} {k i j m : Nat} {e : PySem.Expr} {f : PT AV} (hx : At vars i x) (hy : At vars j y) (hz : At vars m z) (fx : sc.names.lookup x ≠ some .free) (fy : sc.names.lookup y ≠ some .free) (fz : sc.names.lookup z ≠ some .free) (hf : TE prog w base C sc vars n e f)
    (hs : ∀ env, swapsWithSole [.Tuple [.Name x px, .Name y py, .Name z pz] k tp] e pos.line env = pure false := by intro _; rfl) (hw : ∀ env, swappedStores [.Tuple [.Name x px, .Name y py, .Name z pz] k tp] e env = pure none := by intro _; rfl)
    (ha : ∀ env, assignEach [.Name x px, .Name y py, .Name z pz] env = [(false, assign (.Name x px) env), (false, assign (.Name y py) env), (false, assign (.Name z pz) env)] := by intro _; rfl) :
    TS prog w base C sc vars n (.Assign [.Tuple [.Name x px, .Name y py, .Name z pz] k tp] e pos) (vUnp3 i j m f) := by
  intro c σ s Q E ok S q
  refine Assign_Tuple (wp_then (hf c σ s _ E ok S q) (fun a σ1 s1 st1 S1 q1 => ?_) fun _ _ x => x) (hs _) (hw _)
  obtain ⟨l, u, v, t, e1, hl, q2⟩ := q1
  obtain rfl := ab_ref e1
  obtain ⟨ws, hws, e2⟩ := S1.cr.hr _ _ hl
  obtain ⟨a, b, d, e3, hsz, rfl, rfl, rfl⟩ := tup3 e2
  refine assign_Tuple_tuple ok.handled hws (by rw [ha, hsz]; rfl) (by rw [ha]; rfl) fun h' he => ?_
  rw [ha, e3]
  obtain ⟨S2, st2⟩ := S1.grown (t := s1.toks) (h' := h') fun b o e => he b o (Nat.ne_of_lt (Heap.lt_size e)) e
  have st := st1.trans st2
  refine wpAny_bind (wpAny_holding (assign_Name (wpAny_mono (wp_store ok S2 hx fx) (fun _ s3 ⟨st3, S3⟩ => ?_) fun _ _ x => x)))
  refine wpAny_bind (wpAny_holding (assign_Name (wpAny_mono (wp_store ok S3 hy fy) (fun _ s4 ⟨st4, S4⟩ => ?_) fun _ _ x => x)))
  refine wpAny_bind (wpAny_holding (assign_Name (wpAny_mono (wp_store ok S4 hz fz) (fun _ s5 ⟨st5, S5⟩ => ?_) fun _ _ x => x)))
  exact wpAny_pure ⟨((σ1.set i (ab a)).set j (ab b)).set m (ab d), ((st.trans st3).trans st4).trans st5, S5, q2⟩
/-- a tuple written out, its parts stored from behind -/
theorem T_swp2 {x y : Str} {px py tp pos : Pos} {k i j : Nat} {e : PySem.Expr} {f : PT AV} (hx : At vars i x) (hy : At vars j y) (fx : sc.names.lookup x ≠ some .free) (fy : sc.names.lookup y ≠ some .free) (hf : TE prog w base C sc vars n e f)
    (hw : ∀ env, env.scope = sc → swappedStores [.Tuple [.Name x px, .Name y py] k tp] e env = pure (some [x, y]))
    (hs : ∀ env, swapsWithSole [.Tuple [.Name x px, .Name y py] k tp] e pos.line env = pure false := by intro _; rfl) :
    TS prog w base C sc vars n (.Assign [.Tuple [.Name x px, .Name y py] k tp] e pos) (fun σ Q E => f σ (kSwp2 i j Q) E) := by
  intro c σ s Q E ok S q
  refine Assign_Tuple_swapped (names := [x, y]) (wp_then (hf c σ s _ E ok S q) (fun a σ1 s1 st1 S1 q1 => ?_) fun _ _ x => x) (hs _) (hw _ ok.scE)
  obtain ⟨l, u, v, e1, hl, q2⟩ := q1
  obtain rfl := ab_ref e1
  obtain ⟨ws, hws, e2⟩ := S1.cr.hr _ _ hl
  obtain ⟨a, b, e3, hsz, rfl, rfl⟩ := tup2 e2
  show wpAny _ _ (unpackItems (.ref l) 2 none) _ _ _
  rw [← hsz]
  refine unpackItems_tuple ok.handled hws fun h' he => ?_
  rw [e3]
  obtain ⟨S2, st2⟩ := S1.grown (t := s1.toks) (h' := h') fun b o e => he b o (Nat.ne_of_lt (Heap.lt_size e)) e
  have st := st1.trans st2
  refine wpAny_bind (wpAny_holding (bindName_ (wpAny_mono (wp_store ok S2 hy fy) (fun _ s3 ⟨st3, S3⟩ => ?_) fun _ _ x => x)))
  refine wpAny_bind (wpAny_holding (bindName_ (wpAny_mono (wp_store ok S3 hx fx) (fun _ s4 ⟨st4, S4⟩ => ?_) fun _ _ x => x)))
  exact wpAny_pure ⟨(σ1.set j (ab b)).set i (ab a), (st.trans st3).trans st4, S4, q2⟩
end
end Mine

end

section
open PySem PySem.W PyProof.Rows PySem.Calls
set_option Elab.async false
set_option maxRecDepth 100000
set_option linter.unusedVariables false
namespace Mine

section
variable {prog : Program} {w : World} {K : Frag} {base : Heap} {mg mb : Str → Option Value} {C : Addr} {sc : Scope} {vars : List Str} {n : Nat}

/-- an address that nobody knows -/
structure Loose (base : Heap) (c : Act) (hp : HP) (I : Addr) : Prop where
  unknown : hp I = none
  priv : I ∉ c.priv
  fa : I ∉ fas c.fr
  base : base.get? I = none
theorem SR.loose {c : Act} {σ : AS} {s : Shared} (S : SR prog w base c σ s) {I : Addr} (h : s.heap.get? I = none) : Loose base c σ.hp I := by
  refine ⟨?_, fun hI => ?_, fun hI => ?_, ?_⟩
  · cases q : σ.hp I with
    | none => rfl
    | some y => obtain ⟨o', ho'⟩ := (S.cr.hr _ _ q).there; rw [h] at ho'; cases ho'
  · obtain ⟨o, e⟩ := S.plt _ hI; rw [h] at e; cases e
  · obtain ⟨_, o, e, _⟩ := ff_get S.cr.frames _ hI; rw [h] at e; cases e
  · cases q : base.get? I with
    | none => rfl
    | some o => rw [S.cr.bs _ o q] at h; cases h
theorem SR.but {c : Act} {σ : AS} {s : Shared} (S : SR prog w base c σ s) {I : Addr} (l : Loose base c σ.hp I) {h' : Heap} {t : Nat} (k : ∀ b o, s.heap.get? b = some o → b ≠ I → h'.get? b = some o) : SR prog w base c σ { s with heap := h', toks := t } := by
  obtain ⟨m, hns, hl, hs⟩ := S.loc
  have pk : ∀ b ∈ c.priv, ∀ o, s.heap.get? b = some o → h'.get? b = some o := fun b hb o e => k b o e fun q => l.priv (by rw [← q]; exact hb)
  refine ⟨⟨m, hns.at' (pk _ (.head _)), hl, fun i z oa h1 h2 => ?_⟩, S.priv, S.prb, fun b hb => ?_, ⟨fun a o e => ?_, S.cr.frm, fun b o e => ?_, S.cr.nb, ?_⟩⟩
  · rcases hs i z oa h1 h2 with h | ⟨h3, cc, ov, h4, ⟨o, ho', hd⟩, h6⟩
    · exact .inl h
    · exact .inr ⟨h3, cc, ov, h4, ⟨o, pk cc (.tail _ (List.mem_map.mpr ⟨(z, cc), PySem.mem_of_lookup h4, rfl⟩)) o ho', hd⟩, h6⟩
  · obtain ⟨o, e⟩ := S.plt b hb
    exact ⟨o, pk b hb o e⟩
  · exact (S.cr.hr a o e).at fun o' e' => k a o' e' fun q => by rw [q, l.unknown] at e; cases e
  · exact k b o (S.cr.bs b o e) fun q => by rw [q, l.base] at e; cases e
  · exact ff_keep (fun b hb o e => k b o e fun q => l.fa (by rw [← q]; exact hb)) S.cr.frames
theorem Step.but {pv fa : List Addr} {hp hp' : HP} {s s' : Shared} (st : Step pv fa hp s hp' s') {I : Addr} (hI : s.heap.get? I = none) {h' : Heap} {t : Nat} (k : ∀ b o, s'.heap.get? b = some o → b ≠ I → h'.get? b = some o) : Step pv fa hp s hp' { s' with heap := h', toks := t } := by
  refine ⟨fun b o e hn hp => ?_, st.gens, st.drawn, st.os⟩
  obtain ⟨⟨sl, a1⟩, a2, a3⟩ := st.keep b o e hn hp
  have hb : b ≠ I := fun q => by rw [q, hI] at e; cases e
  exact ⟨⟨sl, k b _ a1 hb⟩, fun hf => k b _ (a2 hf) hb, a3⟩
/-- an unknown object is not touched -/
theorem Step.same {c : Act} {hp hp' : HP} {s s' : Shared} (st : Step c.priv (fas c.fr) hp s hp' s') {I : Addr} (l : Loose base c hp I) {o : Obj} (h : s.heap.get? I = some o) : s'.heap.get? I = some o ∧ Loose base c hp' I := by
  obtain ⟨_, a2, a3⟩ := st.keep I o h l.unknown l.priv
  exact ⟨a2 l.fa, a3, l.priv, l.fa, l.base⟩

/-! what is walked over -/
inductive Src where
  | list (l : Addr) (xs : List AV) | dict (d : Addr) (ep : Nat) (es : List (Int × AV)) | rng (r : Addr) (n : Nat)
def Src.ref : Src → Addr
  | .list l _ => l
  | .dict d _ _ => d
  | .rng r _ => r
def Src.items : Src → List AV
  | .list _ xs => xs
  | .dict _ _ es => es.map fun p => .int p.1
  | .rng _ n => (List.range n).map fun k : Nat => AV.int (k : Int)
def Src.at : Src → HP → Prop
  | .list l xs, hp => hp l = some (.list xs) ∧ xs.length ≤ 1000
  | .dict d ep es, hp => hp d = some (.idict ep es) ∧ es.length ≤ 1000
  | .rng r n, hp => hp r = some (.rng n) ∧ n ≤ 1000
def Src.need : Src → HP → Prop
  | .list l xs, hp => hp l = some (.list xs)
  | .dict d ep es, hp => hp d = some (.idict ep es)
  | .rng r n, _ => True
def Src.st (I : Addr) (h : Heap) (i : Nat) : Src → Prop
  | .list l _ => h.IsListIter I l i
  | .dict d ep es => h.IsKeyIter I d i es.length ep
  | .rng _ n => IsRangeIter h I i ((n : Int) - i) 1
theorem Src.st_at {I : Addr} {h h' : Heap} {i : Nat} (x : Src) (st : x.st I h i) (k : ∀ o, h.get? I = some o → h'.get? I = some o) : x.st I h' i := by
  cases x with
  | list l xs => exact st.at k
  | dict d ep es => obtain ⟨o, ho, r⟩ := st; exact ⟨o, k o ho, r⟩
  | rng r n => exact k _ st
theorem Src.st_there {I : Addr} {h : Heap} {i : Nat} (x : Src) (st : x.st I h i) : ∃ o, h.get? I = some o := by
  cases x with
  | list l xs => obtain ⟨o, ho, _⟩ := st; exact ⟨o, ho⟩
  | dict d ep es => obtain ⟨o, ho, _⟩ := st; exact ⟨o, ho⟩
  | rng r n => exact ⟨_, st⟩

theorem src_iter (low : base.get? sysModules ≠ none) {A : Around} {c : Act} {σ : AS} {s : Shared} (S : SR prog w base c σ s) (x : Src) (h : x.at σ.hp) {E : Value → Shared → Prop} :
    wpAny (model prog w) A (pyIter (.ref x.ref)) (fun v s' => ∃ oI, v = .ref s.heap.objs.size ∧ s' = { s with heap := s.heap.push oI } ∧ x.st s.heap.objs.size s'.heap 0) E s := by
  cases x with
  | list l xs =>
    obtain ⟨ws, hw, rfl⟩ := S.cr.hr _ _ h.1
    exact wpAny_pyIter_list hw.isList ⟨_, rfl, rfl, ⟨_, Heap.get?_push_size _ rfl, rfl, rfl⟩⟩
  | dict d ep es =>
    obtain ⟨kvs, hw, rfl⟩ := S.cr.hr _ _ h.1
    refine wpAny_pyIter_dict (not_sys low S h.1) hw ⟨_, rfl, rfl, ⟨_, Heap.get?_push_size _ rfl, rfl, ?_⟩⟩
    simp [Src.ref]
  | rng r n =>
    obtain ⟨t, u, v, hw⟩ := S.cr.hr _ _ h.1
    have hn := h.2
    refine wpAny_pyIter_range hw ?_ ⟨_, rfl, rfl, ?_⟩
    · have h1 : Builtin.Range.rangeFitsLong (n : Int) = true := by
        unfold Builtin.Range.rangeFitsLong; simp; omega
      have h2 : Builtin.Range.rangeSize 0 n 1 = n := by rw [rangeSize_one]; split <;> omega
      unfold Builtin.Range.small
      rw [h2, h1]
      simp [h1, show Builtin.Range.rangeFitsLong 0 = true by decide, show Builtin.Range.rangeFitsLong 1 = true by decide]
    · have h2 : Builtin.Range.rangeSize 0 n 1 = n := by rw [rangeSize_one]; split <;> omega
      show IsRangeIter _ _ _ _ _
      have := Heap.get?_push_size s.heap (o := { cls := .type "range_iterator", data := .fields #[rawInt 0, rawInt (Builtin.Range.rangeSize 0 n 1), rawInt 1] }) rfl
      rw [h2] at this ⊢
      simpa using this
theorem src_item {A : Around} {c : Act} {σ : AS} {s : Shared} (S : SR prog w base c σ s) (x : Src) (h : x.need σ.hp) {I : Addr} {i : Nat} {a : AV} (st : x.st I s.heap i) (hi : x.items[i]? = some a) {E : Value → Shared → Prop} :
    wpAny (model prog w) A (pyNext (.ref I)) (fun r s' => ∃ v h' tk, r = some v ∧ ab v = a ∧ s' = { s with heap := h', toks := tk } ∧ x.st I h' (i + 1) ∧ ∀ b o, s.heap.get? b = some o → b ≠ I → h'.get? b = some o) E s := by
  cases x with
  | list l xs =>
    obtain ⟨ws, hw, rfl⟩ := S.cr.hr _ _ h
    obtain ⟨v, hv, rfl⟩ := map_get hi
    exact wpAny_pyNext_list_item st hw.isList (by rw [← Array.getElem?_toList]; exact hv) fun h' hit hs => ⟨v, h', s.toks, rfl, rfl, rfl, hit, fun b o e hb => (hs.2 b hb).trans e⟩
  | dict d ep es =>
    obtain ⟨kvs, hw, rfl⟩ := S.cr.hr _ _ h
    have hi' : (kvs.map fun p => (p.1, ab p.2)).map (fun p => AV.int p.1) = kvs.map fun p => AV.int p.1 := by rw [List.map_map]; rfl
    change ((kvs.map fun p => (p.1, ab p.2)).map fun p => AV.int p.1)[i]? = some a at hi
    rw [hi'] at hi
    obtain ⟨⟨k, v⟩, hv, rfl⟩ := map_get hi
    change s.heap.IsKeyIter I d i (kvs.map fun p => (p.1, ab p.2)).length ep at st
    rw [List.length_map] at st
    refine wpAny_pyNext_dict_item st hw hv fun key h' hk hit hs => ⟨key, h', s.toks, rfl, ?_, rfl, ?_, fun b o e hb => (hs.2 b hb).trans e⟩
    · obtain ⟨t, rfl⟩ := Value.isInt_shape hk; rfl
    · show h'.IsKeyIter I d (i + 1) (kvs.map fun p => (p.1, ab p.2)).length ep
      rw [List.length_map]; exact hit
  | rng r n =>
    unfold Src.items at hi
    obtain ⟨k, hk, rfl⟩ := map_get hi
    obtain ⟨hlt, rfl⟩ : i < n ∧ i = k := by
      have := List.getElem?_eq_some_iff.mp hk
      obtain ⟨h1, h2⟩ := this
      simp at h1 h2
      exact ⟨h1, h2⟩
    refine wpAny_pyNext_range_item st (by omega) fun h' hit hs => ⟨_, h', _, rfl, rfl, rfl, ?_, fun b o e hb => (hs.2 b hb).trans e⟩
    show IsRangeIter h' I ((i + 1 : Nat) : Int) ((n : Int) - ((i + 1 : Nat) : Int)) 1
    have e1 : ((i + 1 : Nat) : Int) = (i : Int) + 1 := by omega
    have e2 : (n : Int) - ((i : Int) + 1) = (n : Int) - i - 1 := by omega
    rw [e1, e2]; exact hit
theorem src_end {A : Around} (hh : A.handled = none) {c : Act} {σ : AS} {s : Shared} (S : SR prog w base c σ s) (x : Src) (h : x.need σ.hp) {I : Addr} (st : x.st I s.heap x.items.length) {E : Value → Shared → Prop} :
    wpAny (model prog w) A (pyNext (.ref I)) (fun r s' => ∃ h' tk, r = none ∧ s' = { s with heap := h', toks := tk } ∧ ∀ b o, s.heap.get? b = some o → b ≠ I → h'.get? b = some o) E s := by
  cases x with
  | list l xs =>
    obtain ⟨ws, hw, rfl⟩ := S.cr.hr _ _ h
    exact wpAny_pyNext_list_end hh st hw.isList (by simp [Src.items]) fun h' he => ⟨h', s.toks, rfl, rfl, fun b o e hb => he b o hb e⟩
  | dict d ep es =>
    obtain ⟨kvs, hw, rfl⟩ := S.cr.hr _ _ h
    unfold Src.st Src.items at st
    simp only [List.length_map] at st
    exact wpAny_pyNext_dict_end hh st hw (by simp) fun h' he => ⟨h', s.toks, rfl, rfl, fun b o e hb => he b o hb e⟩
  | rng r n =>
    unfold Src.st Src.items at st
    simp only [List.length_map, List.length_range] at st
    exact wpAny_pyNext_range_end hh st (by omega) fun h' he => ⟨h', s.toks, rfl, rfl, fun b o e hb => he b o hb e⟩

abbrev oRange : OPT := fun as hp Q => ∃ k : Nat, as = [.int k] ∧ ∀ r, hp r = none → Q (.ref r) (upd hp r (.rng k))
theorem O_range : OpS prog w base (fun vs => call (.type "range") vs) oRange := by
  intro c σ s vs Q hh hu hd S ⟨k, e, q⟩
  obtain ⟨u, rfl, e1⟩ := one (P := fun x => x = .int (k : Int)) ⟨_, e, rfl⟩
  obtain ⟨t, rfl⟩ := ab_int e1
  refine call_range_1 ?_
  obtain ⟨h1, h2, h3⟩ := S.alloc (o := { cls := .type "range", data := .fields #[.int 0 s.toks, .int k t, .int 1 (s.toks + 1)] }) (x := .rng k) rfl (fun h e => ⟨_, _, _, e⟩) (t := s.toks + 1 + 1)
  exact ⟨_, h3, h2, q _ h1⟩
/-- a type by its name -/
theorem T_callT {T : String} {id : Str} {p pos : Pos} {e : PySem.Expr} {rest : List PySem.Expr} {κ : CPT} {g : PT (List AV)} {m : Nat} (hf : TE prog w base C sc vars n (.Name id p) (vVal (ab (.type T)))) (hg : TL prog w base C sc vars n (e :: rest) g)
    (hc : CallS prog w base C m (.type T) κ) (hm : m ≤ n) (he : ∀ env, starEach (e :: rest) env = (false, eval e env) :: starEach rest env := by intro _; rfl) (hp : ∀ env, (backTo pos (starEach rest env)).any (·.1) = false := by intro _; rfl) :
    TE prog w base C sc vars n (.Call (.Name id p) (e :: rest) [] pos) (vCall κ g) := by
  intro c σ s Q E ok S q
  refine wpAny_Call_Name_kw (wpAny_mono (hf c σ s (fun a σ' => a = ab (.type T) ∧ σ' = σ) (fun _ => False) ok S ⟨rfl, rfl⟩) (fun v s' ⟨σ', st, S', e1, e2⟩ => ?_) fun _ _ ⟨_, _, _, _, x⟩ => x.elim)
  subst e2
  obtain rfl := told_type T v e1
  show wpAny (model prog w) c.A (callWith pos _ [] (backTo pos (starEach (e :: rest) c.env)) []) _ _ s'
  refine PyProof.Rows.callWith_type1 (wp_then (hg pos c σ' s' _ E ok S' q) (fun vs σ2 s2 st2 S2 q2 => ?_) fun _ _ x => lx_trans st x) (he _) (hp _)
  exact call_use hc hm ok (st.trans st2) S2 q2

/-! loops -/
abbrev loopQ (Q : AF → AS → Prop) (I : AS → Prop) : AF → AS → Prop
  | .next, σ => I σ
  | .cont, σ => I σ
  | .brk, σ => Q .next σ
  | .ret a, σ => Q (.ret a) σ
def kNo (_ : AS) : Prop := False
structure TurnI (i : Nat) (b : PT AF) (Q : AF → AS → Prop) (src : Src) (I : AS → Prop) (x : AV) (lc : List (Option AV)) (h : HP) : Prop where
  n : src.need h
  q : b ⟨lc.set i (some x), h⟩ (loopQ Q I) kNo
structure OutI (Q : AF → AS → Prop) (src : Src) (lc : List (Option AV)) (h : HP) : Prop where
  n : src.need h
  q : Q .next ⟨lc, h⟩
def kTurn (i : Nat) (b : PT AF) (Q : AF → AS → Prop) (src : Src) (I : AS → Prop) (x : AV) : AS → Prop
  | ⟨lc, h⟩ => TurnI i b Q src I x lc h
def kOut (Q : AF → AS → Prop) (src : Src) : AS → Prop
  | ⟨lc, h⟩ => OutI Q src lc h
inductive ForI (i : Nat) (b : PT AF) (Q : AF → AS → Prop) (a : AV) (lc : List (Option AV)) (h : HP) : Prop
  | mk (src : Src) (e : a = .ref src.ref) (ha : src.at h) (I : Nat → AS → Prop) (h0 : I 0 ⟨lc, h⟩) (hs : ∀ k σ' x, src.items[k]? = some x → I k σ' → kTurn i b Q src (I (k + 1)) x σ') (he : ∀ σ', I src.items.length σ' → kOut Q src σ')
def kFor (i : Nat) (b : PT AF) (Q : AF → AS → Prop) (a : AV) : AS → Prop
  | ⟨lc, h⟩ => ForI i b Q a lc h
abbrev vFor (i : Nat) (f : PT AV) (b : PT AF) : PT AF := fun σ Q E => f σ (kFor i b Q) E
inductive FoInv (prog : Program) (w : World) (base : Heap) (c : Act) (hp1 : HP) (s1 : Shared) (src : Src) (I : Nat → AS → Prop) (n0 : Addr) (m : Nat) (s' : Shared) : Prop
  | mk (k : Nat) (σ' : AS) (em : m = src.items.length + 1 - k) (hk : k ≤ src.items.length) (hI : I k σ') (S : SR prog w base c σ' s') (st : Step c.priv (fas c.fr) hp1 s1 σ'.hp s') (l : Loose base c σ'.hp n0) (hst : src.st n0 s'.heap k)
theorem T_for (low : base.get? sysModules ≠ none) {x : Str} {px pos : Pos} {i : Nat} {iter : PySem.Expr} {body : List Stmt} {f : PT AV} {b : PT AF} (hx : At vars i x) (fx : sc.names.lookup x ≠ some .free)
    (hf : TE prog w base C sc vars n iter f) (hb : TB prog w base C sc vars n body b)
    (hs : ∀ env v, foldedSetIterable iter env v = pure v := by intro _ _; rfl) (ht : ∀ it v, letOwnedTupleGo (.Name x px) it v = pure () := by intro _ _; rfl) : TS prog w base C sc vars n (.For (.Name x px) iter body [] pos) (vFor i f b) := by
  intro c σ s Q E ok S q
  refine wpAny_For (wp_then (hf c σ s _ E ok S q) (fun a σ1 s1 st1 S1 q1 => ?_) fun _ _ x => x) (hs _)
  obtain ⟨src, e1, hat, I, h0, hstep, hend⟩ := q1
  obtain rfl := ab_ref e1
  refine wpAny_mono (src_iter low S1 src hat (E := fun _ _ => False)) (fun v s2 h2 => ?_) fun _ _ x => x.elim
  obtain ⟨oI, rfl, rfl, hst⟩ := h2
  have hIn : s1.heap.get? s1.heap.objs.size = none := none_of_le (Nat.le_refl _)
  have hl := S1.loose hIn
  refine codeAny_forLoop (FoInv prog w base c σ1.hp s1 src I s1.heap.objs.size) (fun m s' hI => ?_) (src.items.length + 1)
    ⟨0, σ1, rfl, Nat.zero_le _, h0, (S1.push oI (t := s1.toks)).1, (S1.push oI (t := s1.toks)).2, hl, hst⟩ (ht _)
  obtain ⟨k, σ', rfl, hk, hI, S', st', hl', hst'⟩ := hI
  rcases Nat.lt_or_ge k src.items.length with hlt | hge
  · obtain ⟨x, hx'⟩ : ∃ x, src.items[k]? = some x := ⟨_, List.getElem?_eq_getElem hlt⟩
    obtain ⟨hneed, hb'⟩ := hstep k σ' x hx' hI
    refine wpAny_mono (src_item S' src hneed hst' hx' (E := fun _ _ => False)) (fun r s2 h2 => ?_) fun _ _ x => x.elim
    obtain ⟨v, h', tk, rfl, rfl, rfl, hst2, k2⟩ := h2
    have S2 := S'.but hl' (t := tk) k2
    have st2 := st'.but hIn (t := tk) k2
    refine wpAny_assign_Name (wpAny_mono (wp_store ok S2 hx fx) (fun _ s3 h3 => ?_) fun _ _ x => x)
    obtain ⟨st3, S3⟩ := h3
    obtain ⟨o3, ho3⟩ := src.st_there hst2
    obtain ⟨e3, hl3⟩ := st3.same hl' ho3
    have st13 := st2.trans st3
    refine wpAny_mono (hb c (σ'.set i (ab v)) s3 _ _ ok S3 hb') (fun fl s4 h4 => ?_) fun _ _ ⟨_, _, _, _, x⟩ => x.elim
    obtain ⟨σ4, st4, S4, q4⟩ := h4
    have hl3' : Loose base c (σ'.set i (ab v)).hp s1.heap.objs.size := hl'
    obtain ⟨e4, hl4⟩ := st4.same hl3' e3
    have hst4 : src.st s1.heap.objs.size s4.heap (k + 1) := src.st_at hst2 fun o e => by
      have : o = o3 := by rw [ho3] at e; exact (Option.some.inj e).symm
      rw [this]; exact e4
    have stA := st13.trans st4
    cases fl with
    | next => exact ⟨_, by omega, k + 1, σ4, rfl, hlt, q4, S4, stA, hl4, hst4⟩
    | cont => exact ⟨_, by omega, k + 1, σ4, rfl, hlt, q4, S4, stA, hl4, hst4⟩
    | brk => exact ⟨σ4, st1.trans stA, S4, q4⟩
    | ret v => exact ⟨σ4, st1.trans stA, S4, q4⟩
  · obtain rfl : k = src.items.length := Nat.le_antisymm hk hge
    obtain ⟨hneed, hq⟩ := hend σ' hI
    refine wpAny_mono (src_end ok.handled S' src hneed hst' (E := fun _ _ => False)) (fun r s2 h2 => ?_) fun _ _ x => x.elim
    obtain ⟨h', tk, rfl, rfl, k2⟩ := h2
    exact wpAny_execs_nil ⟨σ', st1.trans (st'.but hIn (t := tk) k2), S'.but hl' (t := tk) k2, hq⟩
inductive kLess (I : Nat → AS → Prop) (k : Nat) (σ : AS) : Prop
  | mk (m : Nat) (h : m < k) (q : I m σ)
structure kWh (b : PT AF) (Q : AF → AS → Prop) (I : Nat → AS → Prop) (k : Nat) (r : Bool) (σ : AS) : Prop where
  t : r = true → b σ (loopQ Q (kLess I k)) kNo
  e : r = false → Q .next σ
inductive WhI (t : PT Bool) (b : PT AF) (σ : AS) (Q : AF → AS → Prop) : Prop
  | mk (I : Nat → AS → Prop) (n0 : Nat) (h0 : I n0 σ) (hs : ∀ k σ', I k σ' → t σ' (kWh b Q I k) kNo)
abbrev vWhile (t : PT Bool) (b : PT AF) : PT AF := fun σ Q _ => WhI t b σ Q
theorem T_while {test : PySem.Expr} {pos : Pos} {body : List Stmt} {t : PT Bool} {b : PT AF} (ht : TT prog w base C sc vars n test t) (hb : TB prog w base C sc vars n body b) : TS prog w base C sc vars n (.While test body [] pos) (vWhile t b) := by
  intro c σ s Q E ok S q
  obtain ⟨I, n0, h0, hstep⟩ := q
  refine wpAny_While (codeAny_whileLoop (fun m s' => ∃ σ', I m σ' ∧ SR prog w base c σ' s' ∧ Step c.priv (fas c.fr) σ.hp s σ'.hp s') (fun m s' hI => ?_) n0 ⟨σ, h0, S, .refl ..⟩)
  obtain ⟨σ', hI, S', st'⟩ := hI
  refine wpAny_mono (ht c σ' s' _ _ ok S' (hstep m σ' hI)) (fun r s2 h2 => ?_) fun _ _ ⟨_, _, _, _, x⟩ => x.elim
  obtain ⟨σ2, st2, S2, q1, q2⟩ := h2
  change (r = true → _) at q1
  change (r = false → _) at q2
  cases r with
  | true =>
    rw [if_pos rfl]
    refine wpAny_mono (hb c σ2 s2 _ _ ok S2 (q1 rfl)) (fun fl s3 h3 => ?_) fun _ _ ⟨_, _, _, _, x⟩ => x.elim
    obtain ⟨σ3, st3, S3, q3⟩ := h3
    have stA := (st'.trans st2).trans st3
    cases fl with
    | next => obtain ⟨m', hm, hI'⟩ := q3; exact ⟨m', hm, σ3, hI', S3, stA⟩
    | cont => obtain ⟨m', hm, hI'⟩ := q3; exact ⟨m', hm, σ3, hI', S3, stA⟩
    | brk => exact ⟨σ3, stA, S3, q3⟩
    | ret v => exact ⟨σ3, stA, S3, q3⟩
  | false =>
    rw [if_neg (by decide)]
    exact wpAny_execs_nil ⟨σ2, st'.trans st2, S2, q2 rfl⟩
end
end Mine

end

section
open PySem PySem.W PyProof.Rows PySem.Calls
set_option Elab.async false
set_option maxRecDepth 100000
set_option linter.unusedVariables false
namespace Mine

def frees (sc' : Scope) : List Str := (sc'.names.filter (·.2 == .free)).map (·.1)
def clOf (env : Env) (sc' : Scope) : List (Str × Addr) := ((frees sc').map fun x => (x, (env.cells.lookup x).getD 0)).reverse
theorem closure_loop {env : Env} : ∀ (names : List (Str × NameKind)) (acc : List (Str × Addr)), (∀ x ∈ (names.filter (·.2 == .free)).map (·.1), (env.cells.lookup x).isSome = true) →
    (forIn names acc fun (p : Str × NameKind) (cs : List (Str × Addr)) => (if p.2 == .free then (do let a ← cellOf env p.1; pure (ForInStep.yield ((p.1, a) :: cs))) else pure (ForInStep.yield cs) : Sem (ForInStep (List (Str × Addr))))) =
      pure ((((names.filter (·.2 == .free)).map (·.1)).map fun x => (x, (env.cells.lookup x).getD 0)).reverse ++ acc)
  | [], acc, _ => by simp
  | (x, k) :: r, acc, h => by
    rw [List.forIn_cons]
    cases hk : (k == NameKind.free) with
    | true =>
      have hx : (env.cells.lookup x).isSome = true := h x (by simp [hk])
      obtain ⟨a, ha⟩ := Option.isSome_iff_exists.mp hx
      have e : cellOf env x = pure a := by unfold cellOf; rw [ha]
      simp only [hk, if_true, e, pure_bind]
      rw [closure_loop r _ fun y hy => h y (by simp only [List.filter_cons, hk, if_true, List.map_cons, List.mem_cons]; exact .inr hy)]
      simp [hk, ha]
    | false =>
      simp only [hk, Bool.false_eq_true, if_false, pure_bind]
      rw [closure_loop r _ fun y hy => h y (by simp only [List.filter_cons, hk, Bool.false_eq_true, if_false]; exact hy)]
      simp [hk]
theorem closure_eq {env : Env} {sc' : Scope} (h : ∀ x ∈ frees sc', (env.cells.lookup x).isSome = true) : closureFor sc' env = pure (clOf env sc') := by
  unfold closureFor
  have := closure_loop sc'.names [] h
  rw [List.append_nil] at this
  unfold clOf frees
  rw [← this]
  simp only [bind_pure]

inductive Ats (vars : List Str) : List Nat → List Str → Prop
  | nil : Ats vars [] []
  | cons {j : Nat} {y : Str} {js : List Nat} {ys : List Str} : At vars j y → Ats vars js ys → Ats vars (j :: js) (y :: ys)
def relabelS (sc' sc : Scope) : Scope := { sc' with names := sc'.names.map fun (n, k) => if (k == .free && sc.kind == .function && sc.names.lookup n == some .cell) then (n, .cell) else (n, k) }
theorem relabel_eq {sc' sc : Scope} {env : Env} (h : env.scope = sc) : relabel sc' env = relabelS sc' sc := by
  subst h; rfl
/-- what a comprehension's scope must be -/
structure CompSc (sc sc' : Scope) (vars : List Str) (x : Str) (capt : List Str) (js : List Nat) : Prop where
  kind : sc'.kind = .function
  ok : (sc'.names.all fun p => p.2 != .cell && (p.2 != .free || capt.contains p.1) && (p.2 != .local || sc'.names.lookup p.1 == some .local)) = true
  free : ((sc'.names.map (·.1)).Nodup)
  loc : sc'.names.lookup x = some .local
  cau : (capt.all fun y => sc'.names.lookup y == some .free && sc.names.lookup y == some .cell) = true
  nd : (x :: capt).Nodup
  ats : Ats vars js capt
  kindS : sc.kind = .function
  few : capt.length ≤ 3
theorem CompSc.names {sc sc' : Scope} {vars : List Str} {x : Str} {capt : List Str} {js : List Nat} (H : CompSc sc sc' vars x capt js) : ∀ p ∈ sc'.names, p.2 ≠ .cell ∧ (p.2 = .free → p.1 ∈ capt) ∧ (p.2 = .local → sc'.names.lookup p.1 = some .local) := by
  intro p hp
  have := List.all_eq_true.mp H.ok p hp
  simp only [Bool.and_eq_true, bne_iff_ne, Bool.or_eq_true, beq_iff_eq, List.contains_iff_mem, ne_eq] at this
  exact ⟨this.1.1, fun h => this.1.2.resolve_left fun q => q h, fun h => this.2.resolve_left fun q => q h⟩
theorem CompSc.caught {sc sc' : Scope} {vars : List Str} {x : Str} {capt : List Str} {js : List Nat} (H : CompSc sc sc' vars x capt js) : ∀ y ∈ capt, sc'.names.lookup y = some .free ∧ sc.names.lookup y = some .cell := by
  intro y hy
  have := List.all_eq_true.mp H.cau y hy
  simpa only [Bool.and_eq_true, beq_iff_eq] using this
theorem CompSc.frees_mem {sc sc' : Scope} {vars : List Str} {x : Str} {capt : List Str} {js : List Nat} (H : CompSc sc sc' vars x capt js) {y : Str} (h : y ∈ frees sc') : y ∈ capt := by
  unfold frees at h
  obtain ⟨p, hp, rfl⟩ := List.mem_map.mp h
  obtain ⟨h1, h2⟩ := List.mem_filter.mp hp
  exact (H.names p h1).2.1 (by simpa using h2)
theorem lookup_filter_free {names : List (Str × NameKind)} {y : Str} (h : names.lookup y = some .free) : y ∈ (names.filter (·.2 == .free)).map (·.1) :=
  List.mem_map.mpr ⟨(y, .free), List.mem_filter.mpr ⟨PySem.mem_of_lookup h, rfl⟩, rfl⟩
theorem lookup_map_relabel {names : List (Str × NameKind)} {g : Str → Bool} {y : Str} {k : NameKind} (h : names.lookup y = some k) :
    (names.map fun (n, k) => if (k == NameKind.free && g n) = true then (n, NameKind.cell) else (n, k)).lookup y = some (if (k == NameKind.free && g y) = true then .cell else k) := by
  induction names with
  | nil => cases h
  | cons p r ih =>
    obtain ⟨m, j⟩ := p
    rw [List.lookup_cons] at h
    rw [List.map_cons, List.lookup_cons]
    by_cases hy : y = m
    · subst hy
      simp only [beq_self_eq_true] at h
      cases h
      by_cases q : (k == NameKind.free && g y) = true <;> simp [q]
    · have hb : (y == m) = false := beq_eq_false_iff_ne.mpr hy
      rw [hb] at h
      simp only at h
      have : (y == (if (j == NameKind.free && g m) = true then (m, NameKind.cell) else (m, j)).1) = false := by split <;> exact hb
      rw [this]
      exact ih h

section
variable {prog : Program} {w : World} {K : Frag} {base : Heap} {mg mb : Str → Option Value} {C : Addr} {sc : Scope} {vars : List Str} {n : Nat}

theorem SR.know {c : Act} {loc : List (Option AV)} {hp : HP} {s : Shared} (S : SR prog w base c ⟨loc, hp⟩ s) {D : Addr} (l : Loose base c hp D) {x : AObj} (hx : OH prog w s.heap D x) : SR prog w base c ⟨loc, upd hp D x⟩ s := by
  refine ⟨S.loc, fun b hb => ?_, S.prb, S.plt, ⟨fun a o e => ?_, fun b hb => ?_, S.cr.bs, fun b hb => ?_, S.cr.frames⟩⟩
  · show upd hp D x b = none
    rw [upd_other fun q => l.priv (by rw [← q]; exact hb)]; exact S.priv b hb
  · change upd hp D x a = some o at e
    by_cases q : a = D
    · subst q; rw [upd_self] at e; cases e; exact hx
    · rw [upd_other q] at e; exact S.cr.hr a o e
  · show upd hp D x b = none
    rw [upd_other fun q => l.fa (by rw [← q]; exact hb)]; exact S.cr.frm b hb
  · by_cases q : b = D
    · subst q; exact l.base
    · refine S.cr.nb b ?_
      change upd hp D x b ≠ none at hb
      rw [upd_other q] at hb; exact hb
theorem Step.know {pv fa : List Addr} {hp hp' : HP} {s s' : Shared} (st : Step pv fa hp s hp' s') {D : Addr} (hD : s.heap.get? D = none) {x : AObj} : Step pv fa hp s (upd hp' D x) s' := by
  refine ⟨fun b o e hn hp => ?_, st.gens, st.drawn, st.os⟩
  obtain ⟨a1, a2, a3⟩ := st.keep b o e hn hp
  exact ⟨a1, a2, by rw [upd_other fun q => by rw [q, hD] at e; cases e]; exact a3⟩

def caps (σ : AS) (js : List Nat) : List (Option AV) := js.map fun j => (σ.loc[j]?).join
theorem src_self (x : Src) {A : Around} {s : Shared} {I : Addr} {i : Nat} (st : x.st I s.heap i) {Q : Value → Shared → Prop} {E : Value → Shared → Prop} (h : Q (.ref I) s) : wpAny (model prog w) A (pyIter (.ref I)) Q E s := by
  cases x with
  | list l xs => exact wpAny_pyIter_listiter st h
  | dict d ep es => exact wpAny_pyIter_keyiter st h
  | rng r n => exact wpAny_pyIter_rangeiter st h
end
end Mine

end

section
open PySem PySem.W PyProof.Rows PySem.Calls
set_option Elab.async false
set_option maxRecDepth 100000
set_option linter.unusedVariables false
namespace Mine

theorem clOf_mem {env : Env} {sc' : Scope} (h : ∀ x ∈ frees sc', (env.cells.lookup x).isSome = true) {y : Str} {a : Addr} (hm : (y, a) ∈ clOf env sc') : y ∈ frees sc' ∧ env.cells.lookup y = some a := by
  unfold clOf at hm
  obtain ⟨x, hx, e⟩ := List.mem_map.mp (List.mem_reverse.mp hm)
  obtain ⟨e1, e2⟩ := Prod.mk.inj e
  subst e1
  obtain ⟨b, hb⟩ := Option.isSome_iff_exists.mp (h x hx)
  rw [hb] at e2
  exact ⟨hx, by rw [hb]; exact congrArg some e2⟩
theorem clOf_names {env : Env} {sc' : Scope} : (clOf env sc').map (·.1) = (frees sc').reverse := by
  unfold clOf
  rw [List.map_reverse, List.map_map]
  congr 1
  simp [Function.comp_def]
theorem nodup_rev {α : Type} {l : List α} (h : l.Nodup) : l.reverse.Nodup := (List.reverse_perm l).nodup_iff.mpr h
theorem frees_nodup {sc' : Scope} (h : (sc'.names.map (·.1)).Nodup) : (frees sc').Nodup := by
  unfold frees
  exact List.Nodup.sublist (List.Sublist.map _ List.filter_sublist) h
theorem clOf_lookup {env : Env} {sc' : Scope} (hn : (sc'.names.map (·.1)).Nodup) {y : Str} {a : Addr} (hy : y ∈ frees sc') (ha : env.cells.lookup y = some a) : (clOf env sc').lookup y = some a := by
  refine lookup_of_mem_nodup (by rw [clOf_names]; exact nodup_rev (frees_nodup hn)) ?_
  unfold clOf
  exact List.mem_reverse.mpr (List.mem_map.mpr ⟨y, hy, by rw [ha]; rfl⟩)
theorem Ats.get {vars : List Str} {js : List Nat} {ys : List Str} (h : Ats vars js ys) : js.length = ys.length ∧ ∀ (i : Nat) (y : Str), ys[i]? = some y → ∃ j : Nat, js[i]? = some j ∧ vars[j]? = some y := by
  induction h with
  | nil => exact ⟨rfl, fun i y h => by simp at h⟩
  | cons ha _ ih =>
    refine ⟨by simp [ih.1], fun i y h => ?_⟩
    cases i with
    | zero => simp at h; subst h; exact ⟨_, rfl, ha.get⟩
    | succ i => simpa using ih.2 i y (by simpa using h)

section
variable {prog : Program} {w : World} {K : Frag} {base : Heap} {mg mb : Str → Option Value} {C : Addr} {sc sc' : Scope} {vars : List Str} {n : Nat} {x : Str} {capt : List Str} {js : List Nat}

/-- the activation of a comprehension -/
def compAct (c : Act) (sc' : Scope) (Cc : Addr) (x : Str) (capt : List Str) : Act := ⟨compEnvC sc' (clOf c.env sc') Cc c.env, c.A, x :: capt, c.fr⟩

theorem comp_cells {c : Act} {σ : AS} {s : Shared} (ok : AOK sc vars n c) (S : SR prog w base c σ s) (H : CompSc sc sc' vars x capt js) : ∀ y ∈ capt, ∃ (j : Nat) (oa : Option AV) (cc : Addr) (ov : Option Value), vars[j]? = some y ∧ σ.loc[j]? = some oa ∧ c.env.cells.lookup y = some cc ∧ s.heap.IsCell cc ov ∧ ov.map ab = oa := by
  intro y hy
  obtain ⟨i, hi⟩ := List.mem_iff_getElem?.mp hy
  obtain ⟨j, _, hj⟩ := H.ats.get.2 i y hi
  obtain ⟨m, hn, hlen, hs⟩ := S.loc
  have hv : c.vars[j]? = some y := by rw [ok.varsE]; exact hj
  have hlt : j < σ.loc.length := by rw [hlen]; exact (List.getElem?_eq_some_iff.mp hv).1
  have hk : c.env.kindOf y = some .cell := by unfold Env.kindOf; rw [ok.scE]; exact (H.caught y hy).2
  rcases hs j y _ hv (List.getElem?_eq_getElem hlt) with ⟨k, _⟩ | ⟨_, cc, ov, h1, h2, h3⟩
  · rw [hk] at k; cases k
  · exact ⟨j, _, cc, ov, hj, List.getElem?_eq_getElem hlt, h1, h2, h3⟩
theorem comp_frees {c : Act} {σ : AS} {s : Shared} (ok : AOK sc vars n c) (S : SR prog w base c σ s) (H : CompSc sc sc' vars x capt js) : ∀ y ∈ frees sc', (c.env.cells.lookup y).isSome = true := by
  intro y hy
  obtain ⟨j, oa, cc, ov, _, _, h, _⟩ := comp_cells ok S H y (H.frees_mem hy)
  rw [h]; rfl
theorem comp_kind {c : Act} (ok : AOK sc vars n c) (H : CompSc sc sc' vars x capt js) {Cc : Addr} : (compAct c sc' Cc x capt).env.kindOf x = some .local ∧ ∀ y ∈ capt, (compAct c sc' Cc x capt).env.kindOf y = some .cell := by
  have e : (compAct c sc' Cc x capt).env.scope = relabelS sc' sc := relabel_eq ok.scE
  refine ⟨?_, fun y hy => ?_⟩
  · unfold Env.kindOf; rw [e]
    have := lookup_map_relabel (g := fun m => sc.kind == .function && sc.names.lookup m == some .cell) H.loc
    unfold relabelS; simp only [Bool.and_assoc]; exact this
  · obtain ⟨h1, h2⟩ := H.caught y hy
    unfold Env.kindOf; rw [e]
    have := lookup_map_relabel (g := fun m => sc.kind == .function && sc.names.lookup m == some .cell) h1
    unfold relabelS; simp only [Bool.and_assoc]
    rw [this, if_pos]
    simp [H.kindS, h2]
theorem comp_priv {c : Act} {σ : AS} {s : Shared} (ok : AOK sc vars n c) (S : SR prog w base c σ s) (H : CompSc sc sc' vars x capt js) {Cc b : Addr} (hb : b ∈ (compAct c sc' Cc x capt).priv) : b = Cc ∨ (b ∈ c.priv ∧ b ≠ c.env.locals ∧ ∃ y ∈ capt, c.env.cells.lookup y = some b) := by
  rcases List.mem_cons.mp hb with rfl | hb
  · exact .inl rfl
  · obtain ⟨⟨y, a⟩, hm, rfl⟩ := List.mem_map.mp hb
    obtain ⟨h1, h2⟩ := clOf_mem (comp_frees ok S H) hm
    have hc : a ∈ c.env.cells.map (·.2) := List.mem_map.mpr ⟨(y, a), PySem.mem_of_lookup h2, rfl⟩
    exact .inr ⟨.tail _ hc, fun q => (List.nodup_cons.mp ok.cnd).1 (q ▸ hc), y, H.frees_mem h1, h2⟩
theorem comp_ok {c : Act} {σ : AS} {s : Shared} (ok : AOK sc vars n c) (S : SR prog w base c σ s) (H : CompSc sc sc' vars x capt js) {Cc : Addr} (hC : s.heap.get? Cc = none) : AOK (relabelS sc' sc) (x :: capt) n (compAct c sc' Cc x capt) := by
  refine ⟨relabel_eq ok.scE, rfl, H.kind, H.nd, ok.glob, ok.bl, ok.handled, ok.frames, ok.depth, ok.units, ?_, ?_, fun h => absurd h (by have := H.few; rw [List.length_cons]; omega)⟩
  · refine List.nodup_cons.mpr ⟨fun hb => ?_, ?_⟩
    · rcases comp_priv ok S H (Cc := Cc) (.tail _ hb) with h | ⟨h, _⟩
      · obtain ⟨⟨y, a⟩, hm, e⟩ := List.mem_map.mp hb
        obtain ⟨_, h2⟩ := clOf_mem (comp_frees ok S H) hm
        have e' : a = Cc := e
        subst e'
        obtain ⟨o, ho⟩ := S.plt a (.tail _ (List.mem_map.mpr ⟨(y, a), PySem.mem_of_lookup h2, rfl⟩))
        rw [hC] at ho; cases ho
      · obtain ⟨o, ho⟩ := S.plt _ h
        have : Cc = Cc := rfl
        rw [show ((compAct c sc' Cc x capt).env.locals) = Cc from rfl] at ho
        rw [hC] at ho; cases ho
    · rw [List.nodup_iff_pairwise_ne, List.pairwise_map]
      have hnd : ((clOf c.env sc').map (·.1)).Nodup := by rw [clOf_names]; exact nodup_rev (frees_nodup H.free)
      rw [List.nodup_iff_pairwise_ne, List.pairwise_map] at hnd
      refine List.Pairwise.imp_of_mem (fun {a b} ha hb hab q => hab ?_) hnd
      have h1 := (clOf_mem (comp_frees ok S H) (y := a.1) (a := a.2) ha).2
      have h2 := (clOf_mem (comp_frees ok S H) (y := b.1) (a := b.2) hb).2
      rw [q] at h1
      exact lookup_inj_cells (List.nodup_cons.mp ok.cnd).2 h1 h2
  · show ((clOf c.env sc').map (·.1)).Nodup
    rw [clOf_names]; exact nodup_rev (frees_nodup H.free)
theorem caps_get {σ : AS} {i : Nat} {oa : Option AV} (H : CompSc sc sc' vars x capt js) (hl : σ.loc.length = vars.length) (h : (caps σ js)[i]? = some oa) {y : Str} (hy : capt[i]? = some y) : ∃ j : Nat, vars[j]? = some y ∧ σ.loc[j]? = some oa := by
  obtain ⟨j, hj, hv⟩ := H.ats.get.2 i y hy
  unfold caps at h
  rw [List.getElem?_map, hj] at h
  have hlt : j < σ.loc.length := by rw [hl]; exact (List.getElem?_eq_some_iff.mp hv).1
  rw [Option.map_some, List.getElem?_eq_getElem hlt] at h
  refine ⟨j, hv, ?_⟩
  rw [List.getElem?_eq_getElem hlt]
  exact h

theorem comp_enter {c : Act} {σ : AS} {s s' : Shared} (ok : AOK sc vars n c) (S : SR prog w base c σ s) (H : CompSc sc sc' vars x capt js) {Cc : Addr} (hC : s.heap.get? Cc = none) {m : Str → Option Value} (hm : s'.heap.Ns Cc m) (hmx : m x = none)
    (k : ∀ b o, s.heap.get? b = some o → s'.heap.get? b = some o) : SR prog w base (compAct c sc' Cc x capt) ⟨none :: caps σ js, σ.hp⟩ s' := by
  have hl : σ.loc.length = vars.length := by obtain ⟨_, _, h, _⟩ := S.loc; rw [h, ok.varsE]
  have lo := S.loose hC
  refine ⟨⟨m, hm, by simp [compAct, caps, H.ats.get.1], fun i y oa h1 h2 => ?_⟩, fun b hb => ?_, fun b hb => ?_, fun b hb => ?_, ⟨fun a o e => (S.cr.hr a o e).at fun o' e' => k a o' e', S.cr.frm, fun b o e => k b o (S.cr.bs b o e), S.cr.nb, ff_keep (fun b _ o e => k b o e) S.cr.frames⟩⟩
  · cases i with
    | zero =>
      have h1' : x = y := by simpa [compAct] using h1
      have h2' : none = oa := by simpa using h2
      subst h1'; subst h2'
      exact .inl ⟨(comp_kind ok H).1, by rw [hmx]; rfl⟩
    | succ i =>
      have h1' : capt[i]? = some y := by simpa [compAct] using h1
      have h2' : (caps σ js)[i]? = some oa := by simpa using h2
      have hy := List.mem_of_getElem? h1'
      obtain ⟨j, hj, hoa⟩ := caps_get H hl h2' h1'
      obtain ⟨j', oa', cc, ov, hj', hoa', hc, hcell, e⟩ := comp_cells ok S H y hy
      have : j' = j := (List.getElem?_inj (List.getElem?_eq_some_iff.mp hj').1 (by have := ok.nd; exact this)).mp (hj'.trans hj.symm)
      subst this
      rw [hoa] at hoa'; cases hoa'
      have hyf : y ∈ frees sc' := lookup_filter_free (H.caught y hy).1
      obtain ⟨o, ho, hd⟩ := hcell
      exact .inr ⟨.inl ((comp_kind ok H).2 y hy), cc, ov, clOf_lookup H.free hyf hc, ⟨o, k cc o ho, hd⟩, e⟩
  · rcases comp_priv ok S H hb with rfl | ⟨h, _⟩
    · exact lo.unknown
    · exact S.priv b h
  · rcases comp_priv ok S H hb with rfl | ⟨h, _⟩
    · exact lo.base
    · exact S.prb b h
  · rcases comp_priv ok S H hb with rfl | ⟨h, _⟩
    · obtain ⟨o, es, ep, ho, _⟩ := hm; exact ⟨o, ho⟩
    · obtain ⟨o, e⟩ := S.plt b h; exact ⟨o, k b o e⟩

theorem comp_back {c : Act} {σ : AS} {s s4 s' : Shared} (ok : AOK sc vars n c) (S : SR prog w base c σ s) (H : CompSc sc sc' vars x capt js) {Cc : Addr} (hC : s.heap.get? Cc = none) (k : ∀ b o, s.heap.get? b = some o → s4.heap.get? b = some o)
    (g1 : s4.gens = s.gens) (g2 : s4.drawn = s.drawn) (g3 : s4.os = s.os) {hp : HP} {oa : Option AV} (st : Step (compAct c sc' Cc x capt).priv (fas c.fr) σ.hp s4 hp s') (S' : SR prog w base (compAct c sc' Cc x capt) ⟨oa :: caps σ js, hp⟩ s') :
    SR prog w base c ⟨σ.loc, hp⟩ s' ∧ Step c.priv (fas c.fr) σ.hp s hp s' := by
  have hl : σ.loc.length = vars.length := by obtain ⟨_, _, h, _⟩ := S.loc; rw [h, ok.varsE]
  have np : ∀ b o, s.heap.get? b = some o → b ∉ c.priv ∨ b = c.env.locals → b ∉ (compAct c sc' Cc x capt).priv := fun b o e h hb => by
    rcases comp_priv ok S H hb with rfl | ⟨h1, h2, _⟩
    · rw [hC] at e; cases e
    · rcases h with h | h
      · exact h h1
      · exact h2 h
  refine ⟨⟨?_, fun b hb => ?_, S.prb, fun b hb => ?_, S'.cr⟩, ⟨fun b o e hn hp => st.keep b o (k b o e) hn (np b o e (.inl hp)), st.gens.trans g1, st.drawn.trans g2, st.os.trans g3⟩⟩
  · obtain ⟨m, hn, hlen, hs⟩ := S.loc
    refine ⟨m, ns_slots hn fun o e => (st.keep _ o (k _ o e) (S.priv _ (.head _)) (np _ o e (.inr rfl))).1, hlen, fun i y ob h1 h2 => ?_⟩
    rcases hs i y ob h1 h2 with h | ⟨h3, cc, ov, h4, h5, h6⟩
    · exact .inl h
    · have hcp : cc ∈ c.priv := .tail _ (List.mem_map.mpr ⟨(y, cc), PySem.mem_of_lookup h4, rfl⟩)
      by_cases hb : cc ∈ (compAct c sc' Cc x capt).priv
      · rcases comp_priv ok S H hb with rfl | ⟨_, _, y', hy', hl'⟩
        · obtain ⟨o, e⟩ := S.plt _ hcp; rw [hC] at e; cases e
        · obtain rfl : y' = y := lookup_inj_cells (List.nodup_cons.mp ok.cnd).2 hl' h4
          obtain ⟨i', hi'⟩ := List.mem_iff_getElem?.mp hy'
          obtain ⟨m', hn', hlen', hs'⟩ := S'.loc
          have hi2 : i' < (caps σ js).length := by
            have := (List.getElem?_eq_some_iff.mp hi').1
            simp only [caps, List.length_map]; rw [H.ats.get.1]; exact this
          have h7 : (caps σ js)[i']? = some (caps σ js)[i'] := List.getElem?_eq_getElem hi2
          obtain ⟨j, hj, hoa⟩ := caps_get H hl h7 hi'
          have hij : i = j := by
            have hv : vars[i]? = some y' := by rw [← ok.varsE]; exact h1
            exact (List.getElem?_inj (List.getElem?_eq_some_iff.mp hv).1 ok.nd).mp (hv.trans hj.symm)
          subst hij
          rw [hoa] at h2
          rcases hs' (i' + 1) y' (caps σ js)[i'] (by simpa [compAct] using hi') (by simpa using h7) with ⟨k1, _⟩ | ⟨k1, cc', ov', k2, k3, k4⟩
          · rw [(comp_kind ok H).2 y' hy'] at k1; cases k1
          · have hyf : y' ∈ frees sc' := lookup_filter_free (H.caught y' hy').1
            have : cc' = cc := by
              have := clOf_lookup (env := c.env) H.free hyf h4
              rw [show (compAct c sc' Cc x capt).env.cells = clOf c.env sc' from rfl, this] at k2
              exact (Option.some.inj k2).symm
            subst this
            exact .inr ⟨h3, cc', ov', h4, k3, by rw [k4]; exact Option.some.inj h2⟩
      · exact .inr ⟨h3, cc, ov, h4, cell_slots h5 fun o e => (st.keep cc o (k _ o e) (S.priv _ hcp) hb).1, h6⟩
  · by_cases h : b ∈ (compAct c sc' Cc x capt).priv
    · exact S'.priv b h
    · obtain ⟨o, e⟩ := S.plt b hb
      exact (st.keep b o (k b o e) (S.priv b hb) h).2.2
  · by_cases h : b ∈ (compAct c sc' Cc x capt).priv
    · exact S'.plt b h
    · obtain ⟨o, e⟩ := S.plt b hb
      obtain ⟨sl, e'⟩ := (st.keep b o (k b o e) (S.priv b hb) h).1
      exact ⟨_, e'⟩
end
end Mine

end

section
open PySem PySem.W PyProof.Rows PySem.Calls
set_option Elab.async false
set_option maxRecDepth 100000
set_option linter.unusedVariables false
namespace Mine

section
variable {prog : Program} {w : World} {K : Frag} {base : Heap} {mg mb : Str → Option Value} {C : Addr} {sc sc' : Scope} {vars : List Str} {n : Nat} {x : Str} {capt : List Str} {js : List Nat}

/-- the tests of a clause -/
abbrev TI (prog : Program) (w : World) (base : Heap) (C : Addr) (sc : Scope) (vars : List Str) (n : Nat) (ifs : List PySem.Expr) (p : PT Bool) : Prop :=
  TM prog w base C sc vars n id (fun env => forIn ifs true fun c r => if r = true then do let ok ← isTrue c env (eval c env); pure (ForInStep.yield ok) else pure (ForInStep.yield r)) p
theorem TI_nil : TI prog w base C sc vars n [] (vB true) := fun c σ s Q E ok S h => wpAny_tests_nil (lf_now S h)
theorem TI_one {e : PySem.Expr} {b : PT Bool} (hb : TT prog w base C sc vars n e b) : TI prog w base C sc vars n [e] b := fun c σ s Q E ok S h => wpAny_tests_one (hb c σ s Q E ok S h)

structure Ci2I (J : List AV → HP → Prop) (outs : List AV) (lc : List (Option AV)) (z : AV) (l : List (Option AV)) (h : HP) : Prop where
  eq : l = lc
  q : J (outs ++ [z]) h
def kCi2 (J : List AV → HP → Prop) (outs : List AV) (lc : List (Option AV)) (z : AV) : AS → Prop
  | ⟨l, h⟩ => Ci2I J outs lc z l h
structure Ci1I (e : PT AV) (J : List AV → HP → Prop) (outs : List AV) (lc : List (Option AV)) (r : Bool) (l : List (Option AV)) (h : HP) : Prop where
  eq : l = lc
  f : r = false → J outs h
  t : r = true → e ⟨l, h⟩ (kCi2 J outs lc) kNo
def kCi1 (e : PT AV) (J : List AV → HP → Prop) (outs : List AV) (lc : List (Option AV)) (r : Bool) : AS → Prop
  | ⟨l, h⟩ => Ci1I e J outs lc r l h
/-- one turn after another -/
structure CiI (L : List (Option AV)) (src : Src) (t : PT Bool) (e : PT AV) (J : List AV → HP → Prop) (outs : List AV) (hp : HP) : Prop where
  n : src.need hp
  q : t ⟨L, hp⟩ (kCi1 e J outs L) kNo
abbrev CompInv (σ : AS) (js : List Nat) (src : Src) (t : PT Bool) (e : PT AV) (I : Nat → List AV → HP → Prop) : Prop :=
  ∀ k outs hp y, src.items[k]? = some y → I k outs hp → CiI (some y :: caps σ js) src t e (I (k + 1)) outs hp

theorem src_len {x : Src} {hp : HP} (h : x.at hp) : x.items.length ≤ 1000 := by
  cases x with
  | list l xs => exact h.2
  | dict d ep es => unfold Src.items; rw [List.length_map]; exact h.2
  | rng r n => unfold Src.items; rw [List.length_map, List.length_range]; exact h.2

inductive CoInv (prog : Program) (w : World) (base : Heap) (c' : Act) (fa : List Addr) (hp0 : HP) (s : Shared) (src : Src) (L : List (Option AV)) (I : Nat → List AV → HP → Prop) (n0 : Addr) (m : Nat) (s' : Shared) : Prop
  | mk (k : Nat) (outs : List AV) (hp : HP) (oa : Option AV) (ys : Array Value) (nn : Nat) (em : m = src.items.length + 1 - k) (hk : k ≤ src.items.length) (hI : I k outs hp) (hol : outs.length ≤ k) (S : SR prog w base c' ⟨oa :: L, hp⟩ s') (st : Step c'.priv fa hp0 s hp s') (lI : Loose base c' hp n0)
    (hst : src.st n0 s'.heap k) (lD : Loose base c' hp (n0 + 1)) (hD : IsL s'.heap (n0 + 1) ys nn) (hys : ys.toList.map ab = outs)
theorem comp_core (low : base.get? sysModules ≠ none) {c : Act} {σ : AS} {s : Shared} (ok : AOK sc vars n c) (S : SR prog w base c σ s) (H : CompSc sc sc' vars x capt js) {src : Src} (hat : src.at σ.hp) {elt iter : PySem.Expr} {ifs : List PySem.Expr} {px pos : Pos}
    {t : PT Bool} {e : PT AV} (ht : TI prog w base C (relabelS sc' sc) (x :: capt) n ifs t) (he : TE prog w base C (relabelS sc' sc) (x :: capt) n elt e) {I : Nat → List AV → HP → Prop} (h0 : I 0 [] σ.hp) (hstep : CompInv σ js src t e I)
    (hneed : ∀ outs hp, I src.items.length outs hp → src.need hp) {use : Option (Value → Sem Unit)} {Q : Value → Shared → Prop} {E : Value → Shared → Prop}
    (hend : ∀ outs hp D Cc s', I src.items.length outs hp → outs.length ≤ 1000 → SR prog w base c ⟨σ.loc, hp⟩ s' → Step c.priv (fas c.fr) σ.hp s hp s' → Loose base c hp D → (∃ ys, PL s'.heap D ys ∧ ys.toList.map ab = outs) → Loose base c hp Cc → D ≠ Cc → s.heap.get? D = none → s.heap.get? Cc = none →
      (∃ m, s'.heap.Ns Cc m) → compPost (model prog w) c.A E use Q (.ref D) Cc (.ok .next) s')
    (hself : ∀ v, letOwnedTupleGo (.Name x px) v = fun _ => pure () := by intro _; rfl) :
    wpAny (model prog w) c.A (pyIter (.ref src.ref)) (fun it s₂ => wpAny (model prog w) c.A (newList []) (fun acc s₃ => wpAny (model prog w) c.A (newFunctionEnv sc' c.env.globals (clOf c.env sc') [] c.env.qual none .none (some c.env)) (fun cenv s₄ =>
      codeAny (model prog w) c.A (.compStart (.ListComp elt [⟨.Name x px, iter, ifs, 0⟩] sc' pos) 0 it acc { cenv with scope := relabel sc' c.env }) (compPost (model prog w) c.A E use Q acc cenv.locals) s₄) E s₃) E s₂) E s := by
  refine wpAny_mono (src_iter low S src hat (E := fun _ _ => False)) (fun v s2 h2 => ?_) fun _ _ x => x.elim
  obtain ⟨oI, rfl, rfl, hst⟩ := h2
  refine wpAny_newList ?_ (by decide)
  refine wpAny_newFunctionEnv (fun p hp => (H.names p hp).1) (fun p hp => nomatch hp) (fun h' hm hsb => ?_) H.kind
  have hIn : s.heap.get? s.heap.objs.size = none := none_of_le (Nat.le_refl _)
  have e1 : (s.heap.push oI).objs.size = s.heap.objs.size + 1 := Heap.size_push ..
  have e2 : ((s.heap.push oI).push { cls := .type "list", data := .seq ([] : List Value).toArray }).objs.size = s.heap.objs.size + 2 := by rw [Heap.size_push, e1]
  dsimp only at hm hsb ⊢
  rw [e2] at hm hsb ⊢
  rw [e1]
  have a01 : s.heap.objs.size ≠ s.heap.objs.size + 1 := Nat.ne_of_lt (Nat.lt_succ_self _)
  have a02 : s.heap.objs.size ≠ s.heap.objs.size + 2 := Nat.ne_of_lt (Nat.lt_succ_of_lt (Nat.lt_succ_self _))
  have a12 : s.heap.objs.size + 1 ≠ s.heap.objs.size + 2 := Nat.ne_of_lt (Nat.lt_succ_self _)
  have hDn : s.heap.get? (s.heap.objs.size + 1) = none := none_of_le (Nat.le_succ _)
  have hCn : s.heap.get? (s.heap.objs.size + 2) = none := none_of_le (Nat.le_succ_of_le (Nat.le_succ _))
  have keep3 : ∀ b o, ((s.heap.push oI).push { cls := .type "list", data := .seq ([] : List Value).toArray }).get? b = some o → b ≠ s.heap.objs.size + 2 → h'.get? b = some o := fun b o e h => (hsb.2 b h).trans (Heap.get?_push_of_some _ e)
  have keep : ∀ b o, s.heap.get? b = some o → h'.get? b = some o := fun b o e => keep3 b o (Heap.get?_push_of_some _ (Heap.get?_push_of_some _ e)) (Nat.ne_of_lt (Nat.lt_succ_of_lt (Nat.lt_succ_of_lt (Heap.lt_size e))))
  have hst4 : src.st s.heap.objs.size h' 0 := src.st_at hst fun o e => keep3 _ o (Heap.get?_push_of_some _ e) a02
  have hD4 : IsL h' (s.heap.objs.size + 1) #[] 0 := keep3 _ _ (by have := Heap.get?_push_size (s.heap.push oI) (o := { cls := .type "list", data := .seq ([] : List Value).toArray }) rfl; rw [e1] at this; exact this) a12
  have ok' := comp_ok ok S H hCn
  have S4 : SR prog w base (compAct c sc' (s.heap.objs.size + 2) x capt) ⟨none :: caps σ js, σ.hp⟩ { s with heap := h', toks := s.toks + ([] : List (Str × Value)).length } :=
    comp_enter ok S H hCn hm rfl keep
  have lI := S.loose hIn
  have lD := S.loose hDn
  have lC := S.loose hCn
  have loose' : ∀ b, s.heap.get? b = none → b ≠ s.heap.objs.size + 2 → Loose base (compAct c sc' (s.heap.objs.size + 2) x capt) σ.hp b := fun b hb hne => by
    have l := S.loose hb
    exact ⟨l.unknown, fun h => (comp_priv ok S H h).elim hne fun z => l.priv z.1, l.fa, l.base⟩
  have back : ∀ (hp : HP) (b : Addr), Loose base (compAct c sc' (s.heap.objs.size + 2) x capt) hp b → s.heap.get? b = none → Loose base c hp b := fun hp b l hb => by
    have l2 := S.loose hb
    exact ⟨l.unknown, l2.priv, l2.fa, l2.base⟩
  show codeAny (model prog w) c.A (.compStart _ 0 _ _ (compAct c sc' (s.heap.objs.size + 2) x capt).env) _ _
  have hx : At (x :: capt) 0 x := .z
  have fx : (relabelS sc' sc).names.lookup x ≠ some .free := by
    have h1 := (comp_kind ok H (Cc := s.heap.objs.size + 2)).1
    unfold Env.kindOf at h1
    rw [ok'.scE] at h1
    rw [h1]; decide
  have loop : codeAny (model prog w) c.A (.compLoop (.ListComp elt [⟨.Name x px, iter, ifs, 0⟩] sc' pos) 0 (.ref s.heap.objs.size) (.ref (s.heap.objs.size + 1)) (compAct c sc' (s.heap.objs.size + 2) x capt).env)
      (compPost (model prog w) c.A E use Q (.ref (s.heap.objs.size + 1)) (s.heap.objs.size + 2)) { s with heap := h', toks := s.toks + ([] : List (Str × Value)).length } := by
    generalize hs4 : ({ s with heap := h', toks := s.toks + ([] : List (Str × Value)).length } : Shared) = s4 at S4
    have h4 : s4.heap = h' := by rw [← hs4]
    have st4 : Step (compAct c sc' (s.heap.objs.size + 2) x capt).priv (fas c.fr) σ.hp s σ.hp s4 := by
      rw [← hs4]
      exact ⟨fun b o e hn _ => ⟨⟨o.slots, keep b o e⟩, fun _ => keep b o e, hn⟩, rfl, rfl, rfl⟩
    refine codeAny_compLoop_tests (CoInv prog w base (compAct c sc' (s.heap.objs.size + 2) x capt) (fas c.fr) σ.hp s src (caps σ js) I s.heap.objs.size) (fun m s' hI => ?_) (src.items.length + 1)
      ⟨0, [], σ.hp, none, #[], 0, rfl, Nat.zero_le _, h0, Nat.le_refl _, S4, st4, loose' _ hIn a02, by rw [h4]; exact hst4, loose' _ hDn a12, by rw [h4]; exact hD4, rfl⟩ (fun v => by rw [hself])
    obtain ⟨k, outs, hp, oa, ys, nn, rfl, hk, hI, hol, S', st', lI', hst', lD', hD', hys⟩ := hI
    have hI4 : s4.heap.get? s.heap.objs.size ≠ none := by obtain ⟨o, e⟩ := src.st_there hst4; rw [h4, e]; simp
    rcases Nat.lt_or_ge k src.items.length with hlt | hge
    · obtain ⟨y, hy⟩ : ∃ y, src.items[k]? = some y := ⟨_, List.getElem?_eq_getElem hlt⟩
      obtain ⟨hnd, hb⟩ := hstep k outs hp y hy hI
      refine wpAny_mono (src_item S' src hnd hst' hy (E := fun _ _ => False)) (fun r s5 h5 => ?_) fun _ _ x => x.elim
      obtain ⟨v, h5', tk, rfl, rfl, rfl, hst5, k5⟩ := h5
      have S5 := S'.but lI' (t := tk) k5
      have hD5 : IsL h5' (s.heap.objs.size + 1) ys nn := k5 _ _ hD' (Ne.symm a01)
      obtain ⟨oI5, hoI5⟩ := src.st_there hst5
      refine wpAny_assign_Name (wpAny_mono (wp_store ok' S5 hx fx) (fun _ s6 h6 => ?_) fun _ _ x => x)
      obtain ⟨st6, S6⟩ := h6
      obtain ⟨eI6, lI6⟩ := st6.same lI' hoI5
      obtain ⟨eD6, lD6⟩ := st6.same lD' hD5
      refine wpAny_mono (ht _ ⟨some (ab v) :: caps σ js, hp⟩ s6 _ _ ok' S6 hb) (fun r s7 h7 => ?_) fun _ _ ⟨_, _, _, _, x⟩ => x.elim
      obtain ⟨σ7, st7, S7, hloc7, hf7, ht7⟩ := h7
      obtain ⟨l7, hp7⟩ := σ7
      cases hloc7
      obtain ⟨eI7, lI7⟩ := st7.same lI6 eI6
      obtain ⟨eD7, lD7⟩ := st7.same lD6 eD6
      have st5 := st'.but hIn (t := tk) k5
      have st57 : Step (compAct c sc' (s.heap.objs.size + 2) x capt).priv (fas c.fr) σ.hp s hp7 s7 := (st5.trans st6).trans st7
      have hst7 : src.st s.heap.objs.size s7.heap (k + 1) := src.st_at hst5 fun o e => by
        have : o = oI5 := by rw [hoI5] at e; exact (Option.some.inj e).symm
        rw [this]; exact eI7
      change (r = false → _) at hf7
      change (r = true → _) at ht7
      cases r with
      | false =>
        rw [if_neg (by decide)]
        exact ⟨_, by omega, k + 1, outs, hp7, some (ab v), ys, nn, rfl, hlt, hf7 rfl, Nat.le_succ_of_le hol, S7, st57, lI7, hst7, lD7, eD7, hys⟩
      | true =>
        rw [if_pos rfl]
        refine wpAny_mono (he _ ⟨some (ab v) :: caps σ js, hp7⟩ s7 _ _ ok' S7 (ht7 rfl)) (fun z s8 h8 => ?_) fun _ _ ⟨_, _, _, _, x⟩ => x.elim
        obtain ⟨σ8, st8, S8, hloc8, hI8⟩ := h8
        obtain ⟨l8, hp8⟩ := σ8
        cases hloc8
        obtain ⟨eI8, lI8⟩ := st8.same lI7 eI7
        obtain ⟨eD8, lD8⟩ := st8.same lD7 eD7
        have hyl : ys.size ≤ sizeLine := by
          have h1 : ys.size = outs.length := by rw [← hys]; simp
          have h2 := src_len hat
          rw [h1]
          exact Nat.le_trans (Nat.le_trans hol (Nat.le_trans hk h2)) (by decide)
        refine call_meets PySem.F.slot_list_append ⟨_, eD8, rfl⟩ PySem.F.entry_list_append (PySem.F.args_list_append_2 _ _) (PySem.list_append _ ys nn z hyl) ⟨eD8, ?_⟩
        have kD : ∀ b o, s8.heap.get? b = some o → b ≠ s.heap.objs.size + 1 → (s8.heap.update (s.heap.objs.size + 1) (Obj.mapSeq fun x_1 => x_1.push z)).get? b = some o := fun b o e h => (Heap.get?_update_other _ _ (Ne.symm h)).trans e
        have st9 := (st57.trans st8).but hDn (t := s8.toks) kD
        obtain ⟨nn', hD9⟩ := isL_upd eD8 (fun x_1 => x_1.push z)
        exact ⟨_, by omega, k + 1, outs ++ [ab z], hp8, some (ab v), _, nn', rfl, hlt, hI8, by simp; omega, S8.but lD8 (t := s8.toks) kD, st9, lI8, src.st_at hst7 fun o e => kD _ o (by
          have : o = oI5 := by rw [eI7] at e; exact (Option.some.inj e).symm
          rw [this]; exact eI8) a01, lD8, hD9, by simp [hys]⟩
    · obtain rfl : k = src.items.length := Nat.le_antisymm hk hge
      refine wpAny_mono (src_end ok'.handled S' src (hneed _ _ hI) hst' (E := fun _ _ => False)) (fun r s2 h2 => ?_) fun _ _ x => x.elim
      obtain ⟨h5', tk, rfl, rfl, k5⟩ := h2
      have S5 := S'.but lI' (t := tk) k5
      have st5 := st'.but hIn (t := tk) k5
      obtain ⟨S6, st6⟩ := comp_back ok S H hCn (fun _ _ e => e) rfl rfl rfl st5 S5
      obtain ⟨m', hm', _⟩ := S5.loc
      refine hend outs hp _ _ _ hI (Nat.le_trans hol (src_len hat)) S6 st6 (back _ _ lD' hDn) ⟨ys, ⟨nn, k5 _ _ hD' (Ne.symm a01)⟩, hys⟩ ?_ a12 hDn hCn ⟨m', hm'⟩
      exact ⟨S5.priv _ (.head _), lC.priv, lC.fa, lC.base⟩
  exact codeAny_compStart_list loop (src_self src (by exact hst4) loop)
end
end Mine

end

section
open PySem PySem.W PyProof.Rows PySem.Calls
set_option Elab.async false
set_option maxRecDepth 100000
set_option linter.unusedVariables false
namespace Mine

section
variable {prog : Program} {w : World} {K : Frag} {base : Heap} {mg mb : Str → Option Value} {C : Addr} {sc sc' : Scope} {vars : List Str} {n : Nat} {x : Str} {capt : List Str} {js : List Nat}

structure CEndI (src : Src) (Q : AV → AS → Prop) (lc : List (Option AV)) (outs : List AV) (hp : HP) : Prop where
  n : src.need hp
  q : ∀ D, hp D = none → Q (.ref D) ⟨lc, upd hp D (.list outs)⟩
inductive CompI (js : List Nat) (t : PT Bool) (e : PT AV) (Q : AV → AS → Prop) (a : AV) (lc : List (Option AV)) (h : HP) : Prop
  | mk (src : Src) (e1 : a = .ref src.ref) (ha : src.at h) (I : Nat → List AV → HP → Prop) (h0 : I 0 [] h) (hs : CompInv ⟨lc, h⟩ js src t e I) (he : ∀ outs hp, I src.items.length outs hp → CEndI src Q lc outs hp)
def kComp (js : List Nat) (t : PT Bool) (e : PT AV) (Q : AV → AS → Prop) (a : AV) : AS → Prop
  | ⟨lc, h⟩ => CompI js t e Q a lc h
abbrev vComp (js : List Nat) (f : PT AV) (t : PT Bool) (e : PT AV) : PT AV := fun σ Q E => f σ (kComp js t e Q) E
theorem T_comp (low : base.get? sysModules ≠ none) {elt iter : PySem.Expr} {ifs : List PySem.Expr} {px pos : Pos} (H : CompSc sc sc' vars x capt js) {f : PT AV} {t : PT Bool} {e : PT AV} (hf : TE prog w base C sc vars n iter f)
    (ht : TI prog w base C (relabelS sc' sc) (x :: capt) n ifs t) (he : TE prog w base C (relabelS sc' sc) (x :: capt) n elt e)
    (hs : ∀ env v, foldedSetIterable iter env v = pure v := by intro _ _; rfl)
    (hself : ∀ v, letOwnedTupleGo (.Name x px) v = fun _ => pure () := by intro _; rfl) : TE prog w base C sc vars n (.ListComp elt [⟨.Name x px, iter, ifs, 0⟩] sc' pos) (vComp js f t e) := by
  intro c σ s Q E ok S q
  dsimp only
  rw [eval_ListComp]
  refine wpAny_comprehension_free (use := none) rfl (hs _) (closure_eq (comp_frees ok S H)) H.kind (fun p hp hl => (H.names p hp).2.2 hl) (wp_then (hf c σ s _ E ok S q) (fun a σ1 s1 st1 S1 q1 => ?_) fun _ _ x => x)
  obtain ⟨src, e1, hat, I, h0, hstep, hend⟩ := q1
  obtain rfl := ab_ref e1
  refine comp_core low ok S1 H hat ht he h0 hstep (fun outs hp h => (hend outs hp h).1) (fun outs hp D Cc s' hI hol S' st' lD hPL lC hDC hDn hCn hm => ?_) hself
  obtain ⟨m, hm⟩ := hm
  refine ⟨m, hm, fun h' hsb => ?_⟩
  obtain ⟨ys, ⟨nn, hys⟩, hout⟩ := hPL
  have k : ∀ b o, s'.heap.get? b = some o → b ≠ Cc → h'.get? b = some o := fun b o e h => (hsb.2 b h).trans e
  have S2 := S'.but lC (t := s'.toks) k
  have st2 := st'.but hCn (t := s'.toks) k
  exact ⟨⟨σ1.loc, upd hp D (.list outs)⟩, st1.trans (st2.know hDn), S2.know lD (x := .list outs) ⟨ys, ⟨nn, k _ _ hys hDC⟩, hout⟩, (hend outs hp hI).2 D lD.unknown⟩

/-- x = [..] where the store comes ahead of the letting go -/
abbrev vCompSet (i : Nat) (js : List Nat) (f : PT AV) (t : PT Bool) (e : PT AV) : PT AF := fun σ Q E => vComp js f t e σ (kSet i Q) E
theorem T_compSet (low : base.get? sysModules ≠ none) {elt iter : PySem.Expr} {ifs : List PySem.Expr} {px pos py spos : Pos} {y : Str} {i : Nat} (H : CompSc sc sc' vars x capt js) (hy : At vars i y) (fy : sc.names.lookup y ≠ some .free) {f : PT AV} {t : PT Bool} {e : PT AV} (hf : TE prog w base C sc vars n iter f)
    (ht : TI prog w base C (relabelS sc' sc) (x :: capt) n ifs t) (he : TE prog w base C (relabelS sc' sc) (x :: capt) n elt e)
    (hw : ∀ env, env.scope = sc → swapsWith (.ListComp elt [⟨.Name x px, iter, ifs, 0⟩] sc' pos) (some (.Name y py)) spos.line env = pure true)
    (hs : ∀ env v, foldedSetIterable iter env v = pure v := by intro _ _; rfl)
    (hself : ∀ v, letOwnedTupleGo (.Name x px) v = fun _ => pure () := by intro _; rfl) : TS prog w base C sc vars n (.Assign [.Name y py] (.ListComp elt [⟨.Name x px, iter, ifs, 0⟩] sc' pos) spos) (vCompSet i js f t e) := by
  intro c σ s Q E ok S q
  dsimp only
  rw [exec_Assign_Name_used _ _ _ _ (hw _ ok.scE)]
  refine wpAny_bind (wpAny_standAt (wpAny_bind ?_))
  show wpAny _ c.A (do let _ ← comprehension (.ListComp elt [⟨.Name x px, iter, ifs, 0⟩] sc' pos) sc' c.env _ (newList []) false (eval iter c.env) (some (assign (.Name y py) c.env))) _ _ s
  refine wpAny_bind (wpAny_mono (wpAny_comprehension_free (use := some (assign (.Name y py) c.env)) (Q := fun _ s' => Lf prog w base c σ s (fun v σ' => Q (abF v) σ') .next s') rfl (hs _) (closure_eq (comp_frees ok S H)) H.kind (fun p hp hl => (H.names p hp).2.2 hl)
    (wp_then (hf c σ s _ E ok S q) (fun a σ1 s1 st1 S1 q1 => ?_) fun _ _ x => x)) (fun _ s' hq => wpAny_pure (wpAny_pure hq)) fun _ _ x => x)
  obtain ⟨src, e1, hat, I, h0, hstep, hend⟩ := q1
  obtain rfl := ab_ref e1
  refine comp_core low ok S1 H hat ht he h0 hstep (fun outs hp h => (hend outs hp h).1) (fun outs hp D Cc s' hI hol S' st' lD hPL lC hDC hDn hCn hm => ?_) hself
  obtain ⟨m, hm⟩ := hm
  obtain ⟨ys, ⟨nn, hys⟩, hout⟩ := hPL
  obtain ⟨oC, hoC⟩ : ∃ o, s'.heap.get? Cc = some o := by obtain ⟨o, _, _, ho, _⟩ := hm; exact ⟨o, ho⟩
  have SK := S'.know lD (x := .list outs) ⟨ys, ⟨nn, hys⟩, hout⟩
  have stK := st'.know hDn (x := .list outs)
  have lC' : Loose base c (upd hp D (.list outs)) Cc := ⟨by rw [upd_other (Ne.symm hDC)]; exact lC.unknown, lC.priv, lC.fa, lC.base⟩
  show wpAny _ c.A (assign (.Name y py) c.env (.ref D)) _ _ s'
  refine wpAny_assign_Name (wpAny_mono (wp_store ok SK hy fy) (fun _ s2 h2 => ?_) fun _ _ x => x)
  obtain ⟨st2, S2⟩ := h2
  obtain ⟨eC, lC2⟩ := st2.same lC' hoC
  refine ⟨m, ?_, fun h' hsb => ?_⟩
  · obtain ⟨o, es, ep, ho, r⟩ := hm
    rw [hoC] at ho; cases ho
    exact ⟨_, es, ep, eC, r⟩
  · have k : ∀ b o, s2.heap.get? b = some o → b ≠ Cc → h'.get? b = some o := fun b o e h => (hsb.2 b h).trans e
    have lC3 : Loose base c ((⟨σ1.loc, upd hp D (.list outs)⟩ : AS).set i (ab (.ref D))).hp Cc := lC'
    exact ⟨(⟨σ1.loc, upd hp D (.list outs)⟩ : AS).set i (ab (.ref D)), st1.trans ((stK.trans st2).but hCn (t := s2.toks) k), S2.but lC3 (t := s2.toks) k, (hend outs hp hI).2 D lD.unknown⟩
end
end Mine

end

section
open PySem PySem.W PyProof.Rows PySem.Calls
set_option Elab.async false
set_option maxRecDepth 100000
set_option linter.unusedVariables false
namespace Mine

section
variable {prog : Program} {w : World} {K : Frag} {base : Heap} {mg mb : Str → Option Value} {C : Addr} {sc sc' : Scope} {vars : List Str} {n : Nat} {x : Str} {capt : List Str} {js : List Nat}

def kDi3 (J : List (Int × AV) → HP → Prop) (outs : List (Int × AV)) (lc : List (Option AV)) (kk : Int) (u : AV) : AS → Prop
  | ⟨l, h⟩ => l = lc ∧ J (aPut outs kk u) h
def kDi2 (ev : PT AV) (J : List (Int × AV) → HP → Prop) (outs : List (Int × AV)) (lc : List (Option AV)) (z : AV) : AS → Prop
  | ⟨l, h⟩ => l = lc ∧ ∃ kk, z = .int kk ∧ ev ⟨l, h⟩ (kDi3 J outs lc kk) kNo
def kDi1 (ek ev : PT AV) (J : List (Int × AV) → HP → Prop) (outs : List (Int × AV)) (lc : List (Option AV)) (r : Bool) : AS → Prop
  | ⟨l, h⟩ => l = lc ∧ (r = false → J outs h) ∧ (r = true → ek ⟨l, h⟩ (kDi2 ev J outs lc) kNo)
abbrev CompInvD (σ : AS) (js : List Nat) (src : Src) (t : PT Bool) (ek ev : PT AV) (I : Nat → List (Int × AV) → HP → Prop) : Prop :=
  ∀ k outs hp y, src.items[k]? = some y → I k outs hp → src.need hp ∧ t ⟨some y :: caps σ js, hp⟩ (kDi1 ek ev (I (k + 1)) outs (some y :: caps σ js)) kNo

inductive CdInv (prog : Program) (w : World) (base : Heap) (c' : Act) (fa : List Addr) (hp0 : HP) (s : Shared) (src : Src) (L : List (Option AV)) (I : Nat → List (Int × AV) → HP → Prop) (n0 : Addr) (m : Nat) (s' : Shared) : Prop
  | mk (k : Nat) (outs : List (Int × AV)) (hp : HP) (oa : Option AV) (kvs : List (Int × Value)) (em : m = src.items.length + 1 - k) (hk : k ≤ src.items.length) (hI : I k outs hp) (hol : outs.length ≤ k) (S : SR prog w base c' ⟨oa :: L, hp⟩ s') (st : Step c'.priv fa hp0 s hp s') (lI : Loose base c' hp n0)
    (hst : src.st n0 s'.heap k) (lD : Loose base c' hp (n0 + 1)) (hD : s'.heap.DictOf (intKind prog w) (n0 + 1) kvs) (hys : kvs.map (fun p => (p.1, ab p.2)) = outs)
theorem comp_coreD (low : base.get? sysModules ≠ none) {c : Act} {σ : AS} {s : Shared} (ok : AOK sc vars n c) (S : SR prog w base c σ s) (H : CompSc sc sc' vars x capt js) {src : Src} (hat : src.at σ.hp) {kx vx iter : PySem.Expr} {ifs : List PySem.Expr} {px pos : Pos}
    {t : PT Bool} {ek ev : PT AV} (ht : TI prog w base C (relabelS sc' sc) (x :: capt) n ifs t) (hek : TE prog w base C (relabelS sc' sc) (x :: capt) n kx ek) (hev : TE prog w base C (relabelS sc' sc) (x :: capt) n vx ev) {I : Nat → List (Int × AV) → HP → Prop} (h0 : I 0 [] σ.hp) (hstep : CompInvD σ js src t ek ev I)
    (hneed : ∀ outs hp, I src.items.length outs hp → src.need hp) {use : Option (Value → Sem Unit)} {Q : Value → Shared → Prop} {E : Value → Shared → Prop}
    (hend : ∀ outs hp D Cc s', I src.items.length outs hp → outs.length ≤ 1000 → SR prog w base c ⟨σ.loc, hp⟩ s' → Step c.priv (fas c.fr) σ.hp s hp s' → Loose base c hp D → (∃ kvs, s'.heap.DictOf (intKind prog w) D kvs ∧ kvs.map (fun p => (p.1, ab p.2)) = outs) → Loose base c hp Cc → D ≠ Cc → s.heap.get? D = none → s.heap.get? Cc = none →
      (∃ m, s'.heap.Ns Cc m) → compPost (model prog w) c.A E use Q (.ref D) Cc (.ok .next) s')
    (hself : ∀ v, letOwnedTupleGo (.Name x px) v = fun _ => pure () := by intro _; rfl) :
    wpAny (model prog w) c.A (pyIter (.ref src.ref)) (fun it s₂ => wpAny (model prog w) c.A newDict (fun acc s₃ => wpAny (model prog w) c.A (newFunctionEnv sc' c.env.globals (clOf c.env sc') [] c.env.qual none .none (some c.env)) (fun cenv s₄ =>
      codeAny (model prog w) c.A (.compStart (.DictComp kx vx [⟨.Name x px, iter, ifs, 0⟩] sc' pos) 0 it acc { cenv with scope := relabel sc' c.env }) (compPost (model prog w) c.A E use Q acc cenv.locals) s₄) E s₃) E s₂) E s := by
  refine wpAny_mono (src_iter low S src hat (E := fun _ _ => False)) (fun v s2 h2 => ?_) fun _ _ x => x.elim
  obtain ⟨oI, rfl, rfl, hst⟩ := h2
  unfold newDict
  refine wpAny_newObj_type ?_
  refine wpAny_newFunctionEnv (fun p hp => (H.names p hp).1) (fun p hp => nomatch hp) (fun h' hm hsb => ?_) H.kind
  have hIn : s.heap.get? s.heap.objs.size = none := none_of_le (Nat.le_refl _)
  have e1 : (s.heap.push oI).objs.size = s.heap.objs.size + 1 := Heap.size_push ..
  have e2 : ((s.heap.push oI).push { cls := .type "dict", data := .dict #[] }).objs.size = s.heap.objs.size + 2 := by rw [Heap.size_push, e1]
  dsimp only at hm hsb ⊢
  rw [e2] at hm hsb ⊢
  rw [e1]
  have a01 : s.heap.objs.size ≠ s.heap.objs.size + 1 := Nat.ne_of_lt (Nat.lt_succ_self _)
  have a02 : s.heap.objs.size ≠ s.heap.objs.size + 2 := Nat.ne_of_lt (Nat.lt_succ_of_lt (Nat.lt_succ_self _))
  have a12 : s.heap.objs.size + 1 ≠ s.heap.objs.size + 2 := Nat.ne_of_lt (Nat.lt_succ_self _)
  have hDn : s.heap.get? (s.heap.objs.size + 1) = none := none_of_le (Nat.le_succ _)
  have hCn : s.heap.get? (s.heap.objs.size + 2) = none := none_of_le (Nat.le_succ_of_le (Nat.le_succ _))
  have keep3 : ∀ b o, ((s.heap.push oI).push { cls := .type "dict", data := .dict #[] }).get? b = some o → b ≠ s.heap.objs.size + 2 → h'.get? b = some o := fun b o e h => (hsb.2 b h).trans (Heap.get?_push_of_some _ e)
  have keep : ∀ b o, s.heap.get? b = some o → h'.get? b = some o := fun b o e => keep3 b o (Heap.get?_push_of_some _ (Heap.get?_push_of_some _ e)) (Nat.ne_of_lt (Nat.lt_succ_of_lt (Nat.lt_succ_of_lt (Heap.lt_size e))))
  have hst4 : src.st s.heap.objs.size h' 0 := src.st_at hst fun o e => keep3 _ o (Heap.get?_push_of_some _ e) a02
  have hD4 : h'.DictOf (intKind prog w) (s.heap.objs.size + 1) [] := by
    have h1 := Heap.DictOf.new (knd := intKind prog w) (s.heap.push oI)
    rw [e1] at h1
    exact h1.at fun o e => keep3 _ o e a12
  have ok' := comp_ok ok S H hCn
  have S4 : SR prog w base (compAct c sc' (s.heap.objs.size + 2) x capt) ⟨none :: caps σ js, σ.hp⟩ { s with heap := h', toks := s.toks + ([] : List (Str × Value)).length } :=
    comp_enter ok S H hCn hm rfl keep
  have lI := S.loose hIn
  have lD := S.loose hDn
  have lC := S.loose hCn
  have loose' : ∀ b, s.heap.get? b = none → b ≠ s.heap.objs.size + 2 → Loose base (compAct c sc' (s.heap.objs.size + 2) x capt) σ.hp b := fun b hb hne => by
    have l := S.loose hb
    exact ⟨l.unknown, fun h => (comp_priv ok S H h).elim hne fun z => l.priv z.1, l.fa, l.base⟩
  have back : ∀ (hp : HP) (b : Addr), Loose base (compAct c sc' (s.heap.objs.size + 2) x capt) hp b → s.heap.get? b = none → Loose base c hp b := fun hp b l hb => by
    have l2 := S.loose hb
    exact ⟨l.unknown, l2.priv, l2.fa, l2.base⟩
  show codeAny (model prog w) c.A (.compStart _ 0 _ _ (compAct c sc' (s.heap.objs.size + 2) x capt).env) _ _
  have hx : At (x :: capt) 0 x := .z
  have fx : (relabelS sc' sc).names.lookup x ≠ some .free := by
    have h1 := (comp_kind ok H (Cc := s.heap.objs.size + 2)).1
    unfold Env.kindOf at h1
    rw [ok'.scE] at h1
    rw [h1]; decide
  have loop : codeAny (model prog w) c.A (.compLoop (.DictComp kx vx [⟨.Name x px, iter, ifs, 0⟩] sc' pos) 0 (.ref s.heap.objs.size) (.ref (s.heap.objs.size + 1)) (compAct c sc' (s.heap.objs.size + 2) x capt).env)
      (compPost (model prog w) c.A E use Q (.ref (s.heap.objs.size + 1)) (s.heap.objs.size + 2)) { s with heap := h', toks := s.toks + ([] : List (Str × Value)).length } := by
    generalize hs4 : ({ s with heap := h', toks := s.toks + ([] : List (Str × Value)).length } : Shared) = s4 at S4
    have h4 : s4.heap = h' := by rw [← hs4]
    have st4 : Step (compAct c sc' (s.heap.objs.size + 2) x capt).priv (fas c.fr) σ.hp s σ.hp s4 := by
      rw [← hs4]
      exact ⟨fun b o e hn _ => ⟨⟨o.slots, keep b o e⟩, fun _ => keep b o e, hn⟩, rfl, rfl, rfl⟩
    refine codeAny_compLoop_testsD (CdInv prog w base (compAct c sc' (s.heap.objs.size + 2) x capt) (fas c.fr) σ.hp s src (caps σ js) I s.heap.objs.size) (fun m s' hI => ?_) (src.items.length + 1)
      ⟨0, [], σ.hp, none, [], rfl, Nat.zero_le _, h0, Nat.le_refl _, S4, st4, loose' _ hIn a02, by rw [h4]; exact hst4, loose' _ hDn a12, by rw [h4]; exact hD4, rfl⟩ (fun v => by rw [hself])
    obtain ⟨k, outs, hp, oa, kvs, rfl, hk, hI, hol, S', st', lI', hst', lD', hD', hys⟩ := hI
    have hI4 : s4.heap.get? s.heap.objs.size ≠ none := by obtain ⟨o, e⟩ := src.st_there hst4; rw [h4, e]; simp
    rcases Nat.lt_or_ge k src.items.length with hlt | hge
    · obtain ⟨y, hy⟩ : ∃ y, src.items[k]? = some y := ⟨_, List.getElem?_eq_getElem hlt⟩
      obtain ⟨hnd, hb⟩ := hstep k outs hp y hy hI
      refine wpAny_mono (src_item S' src hnd hst' hy (E := fun _ _ => False)) (fun r s5 h5 => ?_) fun _ _ x => x.elim
      obtain ⟨v, h5', tk, rfl, rfl, rfl, hst5, k5⟩ := h5
      have S5 := S'.but lI' (t := tk) k5
      have hD5 : h5'.DictOf (intKind prog w) (s.heap.objs.size + 1) kvs := hD'.at fun o e => k5 _ o e (Ne.symm a01)
      obtain ⟨oD5, hoD5⟩ : ∃ o, h5'.get? (s.heap.objs.size + 1) = some o := by obtain ⟨o, es, ep, ho, _⟩ := hD5; exact ⟨o, ho⟩
      obtain ⟨oI5, hoI5⟩ := src.st_there hst5
      refine wpAny_assign_Name (wpAny_mono (wp_store ok' S5 hx fx) (fun _ s6 h6 => ?_) fun _ _ x => x)
      obtain ⟨st6, S6⟩ := h6
      obtain ⟨eI6, lI6⟩ := st6.same lI' hoI5
      obtain ⟨eD6, lD6⟩ := st6.same lD' hoD5
      refine wpAny_mono (ht _ ⟨some (ab v) :: caps σ js, hp⟩ s6 _ _ ok' S6 hb) (fun r s7 h7 => ?_) fun _ _ ⟨_, _, _, _, x⟩ => x.elim
      obtain ⟨σ7, st7, S7, hloc7, hf7, ht7⟩ := h7
      obtain ⟨l7, hp7⟩ := σ7
      cases hloc7
      obtain ⟨eI7, lI7⟩ := st7.same lI6 eI6
      obtain ⟨eD7, lD7⟩ := st7.same lD6 eD6
      have st5 := st'.but hIn (t := tk) k5
      have st57 : Step (compAct c sc' (s.heap.objs.size + 2) x capt).priv (fas c.fr) σ.hp s hp7 s7 := (st5.trans st6).trans st7
      have hst7 : src.st s.heap.objs.size s7.heap (k + 1) := src.st_at hst5 fun o e => by
        have : o = oI5 := by rw [hoI5] at e; exact (Option.some.inj e).symm
        rw [this]; exact eI7
      change (r = false → _) at hf7
      change (r = true → _) at ht7
      cases r with
      | false =>
        rw [if_neg (by decide)]
        exact ⟨_, by omega, k + 1, outs, hp7, some (ab v), kvs, rfl, hlt, hf7 rfl, Nat.le_succ_of_le hol, S7, st57, lI7, hst7, lD7, hD5.at fun o e => (by have : o = oD5 := (Option.some.inj (hoD5.symm.trans e)).symm
                                                                                                                                                          rw [this]; exact eD7), hys⟩
      | true =>
        rw [if_pos rfl]
        refine wpAny_mono (hek _ ⟨some (ab v) :: caps σ js, hp7⟩ s7 _ _ ok' S7 (ht7 rfl)) (fun z s8 h8 => ?_) fun _ _ ⟨_, _, _, _, x⟩ => x.elim
        obtain ⟨σ8, st8, S8, hloc8, kk, hkk, hI8⟩ := h8
        obtain ⟨l8, hp8⟩ := σ8
        cases hloc8
        obtain ⟨kt, rfl⟩ := ab_int hkk
        obtain ⟨eI8, lI8⟩ := st8.same lI7 eI7
        obtain ⟨eD8, lD8⟩ := st8.same lD7 eD7
        refine wpAny_mono (hev _ ⟨some (ab v) :: caps σ js, hp8⟩ s8 _ _ ok' S8 hI8) (fun z s9 h9 => ?_) fun _ _ ⟨_, _, _, _, x⟩ => x.elim
        obtain ⟨σ9, st9, S9, hloc9, hI9⟩ := h9
        obtain ⟨l9, hp9⟩ := σ9
        cases hloc9
        obtain ⟨eI9, lI9⟩ := st9.same lI8 eI8
        obtain ⟨eD9, lD9⟩ := st9.same lD8 eD8
        have hD9 : s9.heap.DictOf (intKind prog w) (s.heap.objs.size + 1) kvs := hD5.at fun o e => by
          have : o = oD5 := (Option.some.inj (hoD5.symm.trans e)).symm
          rw [this]; exact eD9
        have hkl : kvs.length = outs.length := by rw [← hys]; simp
        refine wpAny_dictSet_pairs (intKind_is prog w kk kt) hD9 (fun h10 hd10 hsb10 => ?_) (by rw [hkl]; exact Nat.le_trans (Nat.le_trans hol (Nat.le_trans hk (src_len hat))) (by decide))
        have kD : ∀ b o, s9.heap.get? b = some o → b ≠ s.heap.objs.size + 1 → h10.get? b = some o := fun b o e h => (hsb10.2 b h).trans e
        have st10 := ((st57.trans st8).trans st9).but hDn (t := s9.toks + 1) kD
        have hln := stored_length_le kvs kk z
        exact ⟨_, by omega, k + 1, aPut outs kk (ab z), hp9, some (ab v), _, rfl, hlt, hI9, by rw [← hys, ← stored_ab, List.length_map]; omega, S9.but lD9 (t := s9.toks + 1) kD, st10, lI9, src.st_at hst7 fun o e => kD _ o (by
          have : o = oI5 := by rw [eI7] at e; exact (Option.some.inj e).symm
          rw [this]; exact eI9) a01, lD9, hd10, by rw [stored_ab, hys]⟩
    · obtain rfl : k = src.items.length := Nat.le_antisymm hk hge
      refine wpAny_mono (src_end ok'.handled S' src (hneed _ _ hI) hst' (E := fun _ _ => False)) (fun r s2 h2 => ?_) fun _ _ x => x.elim
      obtain ⟨h5', tk, rfl, rfl, k5⟩ := h2
      have S5 := S'.but lI' (t := tk) k5
      have st5 := st'.but hIn (t := tk) k5
      obtain ⟨S6, st6⟩ := comp_back ok S H hCn (fun _ _ e => e) rfl rfl rfl st5 S5
      obtain ⟨m', hm', _⟩ := S5.loc
      refine hend outs hp _ _ _ hI (Nat.le_trans hol (src_len hat)) S6 st6 (back _ _ lD' hDn) ⟨kvs, hD'.at fun o e => k5 _ o e (Ne.symm a01), hys⟩ ?_ a12 hDn hCn ⟨m', hm'⟩
      exact ⟨S5.priv _ (.head _), lC.priv, lC.fa, lC.base⟩
  exact codeAny_compStart_dict loop (src_self src (by exact hst4) loop)

structure DEndI (src : Src) (i : Nat) (Q : AF → AS → Prop) (lc : List (Option AV)) (outs : List (Int × AV)) (hp : HP) : Prop where
  n : src.need hp
  q : ∀ D ep, hp D = none → Q .next ⟨lc.set i (some (.ref D)), upd hp D (.idict ep outs)⟩
inductive DCompI (i : Nat) (js : List Nat) (t : PT Bool) (ek ev : PT AV) (Q : AF → AS → Prop) (a : AV) (lc : List (Option AV)) (h : HP) : Prop
  | mk (src : Src) (e1 : a = .ref src.ref) (ha : src.at h) (I : Nat → List (Int × AV) → HP → Prop) (h0 : I 0 [] h) (hs : CompInvD ⟨lc, h⟩ js src t ek ev I) (he : ∀ outs hp, I src.items.length outs hp → DEndI src i Q lc outs hp)
def kDComp (i : Nat) (js : List Nat) (t : PT Bool) (ek ev : PT AV) (Q : AF → AS → Prop) (a : AV) : AS → Prop
  | ⟨lc, h⟩ => DCompI i js t ek ev Q a lc h
abbrev vDCompSet (i : Nat) (js : List Nat) (f : PT AV) (t : PT Bool) (ek ev : PT AV) : PT AF := fun σ Q E => f σ (kDComp i js t ek ev Q) E
theorem T_dcompSet (low : base.get? sysModules ≠ none) {kx vx iter : PySem.Expr} {ifs : List PySem.Expr} {px pos py spos : Pos} {y : Str} {i : Nat} (H : CompSc sc sc' vars x capt js) (hy : At vars i y) (fy : sc.names.lookup y ≠ some .free) {f : PT AV} {t : PT Bool} {ek ev : PT AV} (hf : TE prog w base C sc vars n iter f)
    (ht : TI prog w base C (relabelS sc' sc) (x :: capt) n ifs t) (hek : TE prog w base C (relabelS sc' sc) (x :: capt) n kx ek) (hev : TE prog w base C (relabelS sc' sc) (x :: capt) n vx ev)
    (hw : ∀ env, env.scope = sc → swapsWith (.DictComp kx vx [⟨.Name x px, iter, ifs, 0⟩] sc' pos) (some (.Name y py)) spos.line env = pure true)
    (hs : ∀ env v, foldedSetIterable iter env v = pure v := by intro _ _; rfl)
    (hself : ∀ v, letOwnedTupleGo (.Name x px) v = fun _ => pure () := by intro _; rfl) : TS prog w base C sc vars n (.Assign [.Name y py] (.DictComp kx vx [⟨.Name x px, iter, ifs, 0⟩] sc' pos) spos) (vDCompSet i js f t ek ev) := by
  intro c σ s Q E ok S q
  dsimp only
  rw [exec_Assign_Name_used _ _ _ _ (hw _ ok.scE)]
  refine wpAny_bind (wpAny_standAt (wpAny_bind ?_))
  show wpAny _ c.A (do let _ ← comprehension (.DictComp kx vx [⟨.Name x px, iter, ifs, 0⟩] sc' pos) sc' c.env _ newDict false (eval iter c.env) (some (assign (.Name y py) c.env))) _ _ s
  refine wpAny_bind (wpAny_mono (wpAny_comprehension_free (use := some (assign (.Name y py) c.env)) (Q := fun _ s' => Lf prog w base c σ s (fun v σ' => Q (abF v) σ') .next s') rfl (hs _) (closure_eq (comp_frees ok S H)) H.kind (fun p hp hl => (H.names p hp).2.2 hl)
    (wp_then (hf c σ s _ E ok S q) (fun a σ1 s1 st1 S1 q1 => ?_) fun _ _ x => x)) (fun _ s' hq => wpAny_pure (wpAny_pure hq)) fun _ _ x => x)
  obtain ⟨src, e1, hat, I, h0, hstep, hend⟩ := q1
  obtain rfl := ab_ref e1
  refine comp_coreD low ok S1 H hat ht hek hev h0 hstep (fun outs hp h => (hend outs hp h).1) (fun outs hp D Cc s' hI hol S' st' lD hPL lC hDC hDn hCn hm => ?_) hself
  obtain ⟨m, hm⟩ := hm
  obtain ⟨kvs, hd, hout⟩ := hPL
  obtain ⟨ep, hd⟩ := hd.dictAt
  obtain ⟨oC, hoC⟩ : ∃ o, s'.heap.get? Cc = some o := by obtain ⟨o, _, _, ho, _⟩ := hm; exact ⟨o, ho⟩
  have SK := S'.know lD (x := .idict ep outs) ⟨kvs, hd, hout⟩
  have stK := st'.know hDn (x := .idict ep outs)
  have lC' : Loose base c (upd hp D (.idict ep outs)) Cc := ⟨by rw [upd_other (Ne.symm hDC)]; exact lC.unknown, lC.priv, lC.fa, lC.base⟩
  show wpAny _ c.A (assign (.Name y py) c.env (.ref D)) _ _ s'
  refine wpAny_assign_Name (wpAny_mono (wp_store ok SK hy fy) (fun _ s2 h2 => ?_) fun _ _ x => x)
  obtain ⟨st2, S2⟩ := h2
  obtain ⟨eC, lC2⟩ := st2.same lC' hoC
  refine ⟨m, ?_, fun h' hsb => ?_⟩
  · obtain ⟨o, es, ep, ho, r⟩ := hm
    rw [hoC] at ho; cases ho
    exact ⟨_, es, ep, eC, r⟩
  · have k : ∀ b o, s2.heap.get? b = some o → b ≠ Cc → h'.get? b = some o := fun b o e h => (hsb.2 b h).trans e
    have lC3 : Loose base c ((⟨σ1.loc, upd hp D (.idict ep outs)⟩ : AS).set i (ab (.ref D))).hp Cc := lC'
    exact ⟨(⟨σ1.loc, upd hp D (.idict ep outs)⟩ : AS).set i (ab (.ref D)), st1.trans ((stK.trans st2).but hCn (t := s2.toks) k), S2.but lC3 (t := s2.toks) k, (hend outs hp hI).2 D ep lD.unknown⟩
end
end Mine

end

section
open PySem PySem.W PyProof.Rows PySem.Calls Builtin Builtin.ObjectAttr
set_option Elab.async false
set_option maxRecDepth 100000
set_option linter.unusedVariables false
namespace Mine

/-- an own exception class as it stands in the fragment -/
structure ExcK (K : Frag) (C fI : Addr) : Prop where
  obj : ∃ (nm q : Str) (N : Addr) (bs bm : List Value) (sn : List Str) (sub : List Value) (ab : Bool) (col : Option Bool) (dd : Option Addr) (k0 k1 k2 k3 k5 : Option Value),
    K.lookup C = some (excClassObj nm q C N bs bm true sn sub ab col dd k0 k1 k2 k3 k5 "Exception.__new__") ∧
    bm.contains (.type "Exception") = true ∧ bm.contains (.type "BaseException") = true ∧ bm.contains (.type "AttributeError") = false ∧ bm.contains (.type "NameError") = false ∧
    ∀ self, refuseLoop self "__setattr__" (.ref C :: bm) = pure ()
  init : findIn K (.ref C) "__init__" = some (some (.ref fI))
  fn : typeIn K (.ref fI) = some (.type "function")
  set : findIn K (.ref C) "__setattr__" = some (some (.builtin "object.__setattr__"))
  taker : takerIn K C "message" = some none
  sub : subIn K (.ref C) (.type "object") = some true

section
variable {prog : Program} {w : World} {A : Around} {E : Value → Shared → Prop} {R : Result → Shared → Prop} {h : Heap} {g : Array GenState} {d : Drawn} {t : Nat} {os : OsState} {K : Frag} {C fI : Addr}
variable {nm q : Str} {N : Addr} {bs bm : List Value} {sn : List Str} {sub : List Value} {ab : Bool} {col : Option Bool} {dd : Option Addr} {k0 k1 k2 k3 k5 : Option Value}

theorem exc_new {rest : List Value} (hC : h.get? C = some (excClassObj nm q C N bs bm true sn sub ab col dd k0 k1 k2 k3 k5 "Exception.__new__")) (hE : bm.contains (.type "Exception") = true)
    (hA : bm.contains (.type "AttributeError") = false) (hN : bm.contains (.type "NameError") = false)
    (hq : R (.ok (.ret (.ref (h.objs.size + 1)))) ⟨(h.push { cls := .type "tuple", data := .seq rest.toArray }).push
      { cls := .ref C, data := .fields #[.ref h.objs.size, .none, .none, .none, .bool false, .none] }, g, d, t, os⟩) (hrest : rest.length ≤ sizeLine) :
    codeAny (model prog w) A (.builtin "Exception.__new__" ⟨.ref C :: rest, []⟩) R ⟨h, g, d, t, os⟩ := by
  have FB := PySem.F.excBase_Exception
  have hends := FB.ends
  have hcB : (Value.ref C :: bm).contains (.type "Exception") = true := by rw [List.contains_cons, hE, Bool.or_true]
  have hcA : (Value.ref C :: bm).contains (.type "AttributeError") = false := by rw [List.contains_cons, hA]; rfl
  have hcN : (Value.ref C :: bm).contains (.type "NameError") = false := by rw [List.contains_cons, hN]; rfl
  refine PySem.codeAny_builtinAt FB.entry ?_
  unfold Builtin.«BaseException.__new__»
  refine PySem.wpAt_bind ?_
  show PySem.wpAt _ _ _ (stack >>= _) _ _ _
  refine PySem.wpAt_bind (PySem.wpAt_stack fun p below => PySem.wpAt_of_wpAny ?_)
  wp_walk
  refine PySem.wpAt_of_wpAny ?_
  rw [FB.owner]
  repeat (first | with_reducible refine wpAny_madeHere_exc FB.canon hC ?_ | with_reducible refine wpAny_loadPart_at hC ?_ | (with_reducible refine wpAny_isSubtype_exc hC ?_; first | rw [hcB] | rw [hcA] | rw [hcN]) | wp_step)
  show R _ _
  rw [Heap.size_push]
  exact hq
theorem exc_new_check {M : Model} {rest : List Value} {Q : Unit → Shared → Prop} (hC : h.get? C = some (excClassObj nm q C N bs bm true sn sub ab col dd k0 k1 k2 k3 k5 "Exception.__new__")) (hE : bm.contains (.type "Exception") = true)
    (hq : Q () ⟨h, g, d, t, os⟩) : wpAny M A (checkBuiltinCall "Exception.__new__" ⟨.ref C :: rest, []⟩) Q E ⟨h, g, d, t, os⟩ := by
  have FB := PySem.F.excBase_Exception
  have hcont : (Value.ref C :: bm).contains (.type "Exception") = true := by rw [List.contains_cons, hE, Bool.or_true]
  have hstar := FB.noStar
  simp only [checkBuiltinCall, FB.newKind, FB.newSplit, FB.newRow]
  repeat (first | refine wpAny_loadPart_at hC ?_ | (refine wpAny_isSubtype_exc hC ?_; rw [hcont]) | refine wpAny_staticBase_exc hC ?_ | refine wpAny_madeBy_exc hC ?_ | simp only [bne_self_eq_false, Bool.false_eq_true, if_false] | wp_step)
  exact hq
theorem exc_make0 (X : K.In h) (F : ExcK K C fI) {rest : List Value} {Q : PySem.Fin → Shared → Prop}
    (hq : ∀ h' e, Heap.MadeExcOf h h' e (.ref C) rest →
      wpAny (model prog w) A (call (.ref fI) (.ref e :: rest)) (fun r s' => r = .none ∧ Q (.done (.ret (.ref e))) s') E ⟨h', g, d, t, os⟩) (hrest : rest.length ≤ sizeLine) :
    wpAny (model prog w) A (Builtin.«type.__call__» ⟨.ref C :: rest, []⟩) Q E ⟨h, g, d, t, os⟩ := by
  obtain ⟨nm, q, N, bs, bm, sn, sub, ab, col, dd, k0, k1, k2, k3, k5, hK, hE, hB, hA, hN, hP⟩ := F.obj
  have hC := X _ _ hK
  repeat (first | with_reducible refine wpAny_loadPart_at hC ?_ | with_reducible refine wpAny_madeBy_exc hC ?_ | wp_step)
  refine codeAny_call_builtin_code (Code.quiet_builtin _ PySem.F.excBase_Exception.quiet) (exc_new_check hC hE ?_)
  refine exc_new hC hE hA hN ?_ hrest
  show wpAny _ _ _ _ _ _
  have keep : ∀ b o, h.get? b = some o → ((h.push { cls := .type "tuple", data := .seq rest.toArray }).push { cls := .ref C, data := .fields #[.ref h.objs.size, .none, .none, .none, .bool false, .none] }).get? b = some o :=
    fun b o e => Heap.get?_push_of_some _ (Heap.get?_push_of_some _ e)
  have hC₁ := keep _ _ hC
  have hget : ((h.push { cls := .type "tuple", data := .seq rest.toArray }).push
      { cls := .ref C, data := .fields #[.ref h.objs.size, .none, .none, .none, .bool false, .none] }).get? (h.objs.size + 1) = some
      { cls := .ref C, data := .fields #[.ref h.objs.size, .none, .none, .none, .bool false, .none] } := by heap_get
  have hcC : (Value.ref C :: bm).contains (.ref C) = true := by simp
  have X₁ := X.keeps keep
  unfold isInstance
  repeat (first | with_reducible refine wpAny_loadPart_at hget ?_ | (with_reducible refine wpAny_isSubtype_exc hC₁ ?_; rw [hcC]) | wp_step)
  show wpAny _ _ (typeLookup (.ref C) _) _ _ _
  refine (looks_findIn X₁ F.init).here ?_
  refine wpAny_holding (wpAny_bind ((bind_fn X₁ _ F.fn).here ?_))
  refine wpAny_bind (wpAny_mono (hq _ (h.objs.size + 1) ⟨keep, Heap.get?_none_of_le (Nat.le_succ _), h.objs.size, hget, Heap.get?_none_of_le (Nat.le_refl _), ?_⟩) (fun r s' hr => ?_) fun _ _ x => x)
  · exact Heap.get?_push_of_some _ (Heap.get?_push_at rfl rfl)
  · obtain ⟨rfl, hQ⟩ := hr
    wp_walk
    exact hQ
theorem exc_make (X : K.In h) (F : ExcK K C fI) {rest : List Value} {Q : Value → Shared → Prop}
    (hq : ∀ h' e, Heap.MadeExcOf h h' e (.ref C) rest →
      wpAny (model prog w) (A.under (.builtin "type.__call__" ⟨.ref C :: rest, []⟩)) (call (.ref fI) (.ref e :: rest)) (fun r s' => r = .none ∧ Q (.ref e) s') E ⟨h', g, d, t, os⟩) (hrest : rest.length ≤ sizeLine) :
    wpAny (model prog w) A (call (.ref C) rest) Q E ⟨h, g, d, t, os⟩ := by
  obtain ⟨nm, q, N, bs, bm, sn, sub, ab, col, dd, k0, k1, k2, k3, k5, hK, hE, hB, hA, hN, hP⟩ := F.obj
  have hC := X _ _ hK
  have f1 := tc_lookup
  have f2 := tc_bind (.ref C)
  have hT : (⟨h, g, d, t, os⟩ : Shared).TypeIs (.ref C) "type" := ⟨_, hC, rfl⟩
  refine wpAny_call (codeAny_of_tree ?_)
  show wpAny _ _ (callAny (.ref C) _) _ _ _
  repeat (any_goals (first | assumption | with_reducible refine wpAny_loadPart_at hC ?_ | wp_step))
  refine ⟨rfl, ?_⟩
  refine codeAny_call_builtin_at (Code.quiet_builtin _ (by decide +kernel)) entry_typeCall (wpAny_check_type_call_sub hC (exc_make0 X F (fun h' e hm => ?_) hrest))
  exact hq h' e hm

end
end Mine

end

section
open PySem PySem.W PyProof.Rows PySem.Calls Builtin Builtin.ObjectAttr
set_option Elab.async false
set_option maxRecDepth 100000
set_option linter.unusedVariables false
namespace Mine
section
variable {prog : Program} {w : World} {A : Around} {E : Value → Shared → Prop} {R : Result → Shared → Prop} {h : Heap} {g : Array GenState} {d : Drawn} {t : Nat} {os : OsState} {K : Frag} {C fI : Addr}

/-- Exception.__init__ of what was just made -/
theorem exc_init {e : Addr} {oe : Obj} {vs : Array Value} {rest : List Value} {Q : Value → Shared → Prop} (X : K.In h) (F : ExcK K C fI) (he : h.get? e = some oe) (hcls : oe.cls = .ref C) (hd : oe.data = .fields vs) {t0 : Addr} (h0 : vs[0]? = some (.ref t0)) (hlen : rest.length ≤ sizeLine)
    (hq : ∀ T, h.get? T = none → Q .none ⟨(h.push { cls := .type "tuple", data := .seq rest.toArray }).update e (Obj.mapFields (·.setIfInBounds 0 (.ref T))), g, d, t, os⟩) :
    wpAny (model prog w) A (call (.builtin "Exception.__init__") (.ref e :: rest)) Q E ⟨h, g, d, t, os⟩ := by
  obtain ⟨nm, q, N, bs, bm, sn, sub, ab, col, dd, k0, k1, k2, k3, k5, hK, hE, hB, hA, hN, hP⟩ := F.obj
  have hC := X _ _ hK
  have FB := PySem.F.excBase_Exception
  have hcB : (Value.ref C :: bm).contains (.type "Exception") = true := by rw [List.contains_cons, hE, Bool.or_true]
  have hshort := FB.noStar
  refine wpAny_call (codeAny_call_builtin FB.init.plain FB.initEntry ?_)
  simp only [checkBuiltinCall, FB.initKind, FB.initSplit, FB.initRow]
  repeat (first | (with_reducible refine wpAny_loadPart_at he ?_; rw [hcls]) | with_reducible refine wpAny_loadPart_at hC ?_ | (with_reducible refine wpAny_isSubtype_exc hC ?_; rw [hcB]) | wp_step)
  refine wpAny_onRaise ?_
  rw [show ∀ (a b : String) (n : Nat), Bind.check ⟨.positional, "*", "Exception", .self, [⟨"args", .varPos, false⟩]⟩ a b n (List.map (fun x => x.fst) ({ pos := Value.ref e :: rest } : Args).kw) = pure () from
    fun a b n => check_star_args _ _ _ _ _ _]
  refine wpAny_pure ?_
  wp_walk
  rw [hd]
  refine wpAny_pure ?_
  wp_walk
  rw [h0]
  refine wpAny_pure ?_
  wp_walk
  rw [hd]
  dsimp only
  rw [if_pos (Array.getElem?_eq_some_iff.mp h0).1]
  refine wpAny_update' (Heap.get?_push_of_some _ he) ?_
  wp_walk
  exact hq _ (Heap.get?_none_of_le (Nat.le_refl _))
end
end Mine

end

section
open PySem PySem.W PyProof.Rows PySem.Calls Builtin Builtin.ObjectAttr
set_option Elab.async false
set_option maxRecDepth 100000
set_option linter.unusedVariables false
namespace Mine
section
variable {prog : Program} {w : World} {A : Around} {E : Value → Shared → Prop} {R : Result → Shared → Prop} {h : Heap} {g : Array GenState} {d : Drawn} {t : Nat} {os : OsState} {K : Frag} {C fI : Addr}

/-- an attribute set on an exception that has none yet -/
theorem exc_set {e : Addr} {oe : Obj} {vs : Array Value} {v : Value} {Q : Unit → Shared → Prop} (X : K.In h) (F : ExcK K C fI) (he : h.get? e = some oe) (hcls : oe.cls = .ref C) (hd : oe.data = .fields vs) (hdn : oe.dict = none)
    (hq : ∀ h' tk dx, (∀ b o, b ≠ e → h.get? b = some o → h'.get? b = some o) → h'.get? e = some { oe with dict := some dx } → Q () ⟨h', g, d, tk, os⟩) :
    wpAny (model prog w) A (setAttr (.ref e) "message" v) Q E ⟨h, g, d, t, os⟩ := by
  obtain ⟨nm, q, N, bs, bm, sn, sub, ab, col, dd, k0, k1, k2, k3, k5, hK, hE, hB, hA, hN, hP⟩ := F.obj
  have hC := X _ _ hK
  have SF := PySem.F.store_object
  have I : PySem.W.InstAt h e oe C none := ⟨he, hcls, by unfold notCls; rw [hd], by rw [hdn]; trivial⟩
  have isub : Looks (model prog w) h (isInstance (.ref e) (.type "object")) true := I.type.andThen (looks_subIn X F.sub)
  obtain ⟨attr, ha, hr⟩ := Option.bind_eq_some_iff.mp F.taker
  have L3 : Looks (model prog w) h (storeTaker? attr) none := by
    cases attr with
    | none => exact .now
    | some a =>
      obtain ⟨b, hb, e⟩ := Option.map_eq_some_iff.mp hr
      refine (looks_takesIn X hb).andThen ?_
      cases b
      · exact .now
      · cases e
  refine set_plain X I F.set ?_
  refine codeAny_call_builtin SF.slot.plain SF.entry (@check_slot (model prog w) _ _ ⟨h, g, d, t + 1, os⟩ "object.__setattr__" "object" "__setattr__" (.ref e) [.str "message" t, v] [] _ SF.kind SF.split isub (SF.args (.ref e) (.str "message" t) v) ?_)
  have hm : Looks (model prog w) h (mroOf (.ref C)) (.ref C :: bm) := fun A Q E s k q => by obtain ⟨hp, g, d, tk, os⟩ := s; exact wpAny_mroOf_exc (k _ _ hC) q
  rw [osa_eq, refuse_eq]
  refine wpAny_bind (wpAny_bind (I.type.at (wpAny_bind (hm.at ?_))))
  rw [hP]
  refine wpAny_pure (wpAny_bind (I.type.at (wpAny_bind ((looks_findIn X ha).at (wpAny_bind (L3.at ?_))))))
  dsimp only
  unfold storeInOwnDict
  have hx := he
  obtain ⟨oc, odi, oda, osl⟩ := oe
  dsimp only at hcls hd hdn
  subst hcls hd hdn
  repeat (first | (with_reducible refine wpAny_loadPart_at he ?_) | with_reducible refine wpAny_loadPart_at hC ?_ | wp_step)
  have hx₁ : (h.push { cls := .type "dict", data := .dict #[] }).get? e = some { cls := .ref C, data := .fields vs, slots := osl } := Heap.get?_push_of_some _ he
  have hxs : e ≠ h.objs.size := Nat.ne_of_lt (Heap.lt_size he)
  refine wpAny_askSetting (wpAny_pure (wpAny_bind (wpAny_mkText (wpAny_bind (wpAny_loadPart (o := { cls := .type "dict", data := .dict #[] }) ?_ ?_)))))
  · exact (Heap.get?_update_ne _ _ _ _ hxs.symm).trans (Heap.get?_push_at rfl rfl)
  have hD : ∀ f : Obj → Obj, ((h.push { cls := .type "dict", data := .dict #[] }).update e f).get? h.objs.size = some { cls := .type "dict", data := .dict #[] } := fun f => (Heap.get?_update_ne _ _ _ _ hxs.symm).trans (Heap.get?_push_at rfl rfl)
  dsimp only
  rw [if_neg (by decide)]
  refine wpAny_updatePart (hD _) ?_
  refine wpAny_bind (wpAny_lookBehind (o := Obj.putName "message" (PyData.keyHash w.params "message") (.str "message" (t + 1)) v { cls := .type "dict", data := .dict #[] }) (Heap.get?_update_self _ (hD _) rfl) ?_ ?_)
  · exact pastItsLine_dict (Nat.succ_le_succ (Nat.zero_le _))
  refine wpAny_pure ?_
  refine hq _ _ h.objs.size (fun b o hb e' => ?_) ?_
  · have hbs : b ≠ h.objs.size := Nat.ne_of_lt (Heap.lt_size e')
    rw [Heap.get?_update_ne _ _ _ _ hbs, Heap.get?_update_ne _ _ _ _ hb]
    exact Heap.get?_push_of_some _ e'
  · rw [Heap.get?_update_ne _ _ _ _ hxs]
    exact Heap.get?_update_self _ hx₁ rfl
end
end Mine

end

section
open PySem PySem.W PyProof.Rows PySem.Calls Builtin Builtin.ObjectAttr
set_option Elab.async false
set_option maxRecDepth 100000
set_option linter.unusedVariables false
namespace Mine
section
variable {prog : Program} {w : World} {K : Frag} {base : Heap} {mg mb : Str → Option Value} {C fI : Addr} {sc : Scope} {vars : List Str} {n : Nat}

theorem exc_type : typeOf (.type "Exception") = pure (.type "type") := by kernel_rfl
theorem exc_find : findCls [] (.type "Exception") (.type "type") "__init__" = some (.val (.builtin "Exception.__init__")) := by kernel_rfl

theorem T_excInit {o : PySem.Expr} {apos pos : Pos} {e : PySem.Expr} {rest : List PySem.Expr} {g : PT (List AV)} (X : K.In base) (F : ExcK K C fI) (ho : TE prog w base C sc vars n o (vVal (ab (.type "Exception")))) (hg : TL prog w base C sc vars n (e :: rest) g)
    (he : ∀ env, starEach (e :: rest) env = (false, eval e env) :: starEach rest env := by intro _; rfl) (hpl : ∀ env, (backTo pos (starEach (e :: rest) env)).any (·.1) = false := by intro _; rfl)
    (hev : ∀ env, eval (.Call (.Attribute o "__init__" apos) (e :: rest) [] pos) env = (do
      let ov ← eval o env
      standAt apos.atName
      let (f, first) ← holding [ov] (getMethod ov "__init__" (plOf o env))
      callWith pos f first (backTo pos (starEach (e :: rest) env)) (backToKw pos (keywordEach [] env))) := by intro _; rfl) :
    TE prog w base C sc vars n (.Call (.Attribute o "__init__" apos) (e :: rest) [] pos) (fun σ Q E => g σ (fun as σ' => ∃ x b, as = [.ref x, b] ∧ σ'.hp x = some (.exc C false) ∧ Q .none σ') E) := by
  intro c σ s Q E ok S q
  refine methodCall_KW (wpAny_mono (ho c σ s (fun a σ' => a = ab (.type "Exception") ∧ σ' = σ) (fun _ => False) ok S ⟨rfl, rfl⟩) (fun v s1 h1 => ?_) fun _ _ ⟨_, _, _, _, x⟩ => x.elim) (hev _)
  obtain ⟨σ1, st1, S1, e1, e2⟩ := h1
  subst e2
  obtain rfl := told_type "Exception" v e1
  obtain ⟨m, hn, hl, hs⟩ := S1.loc
  have Fm : Fr emptyH c.env.locals s1.heap m := ⟨hn, (fun b o e => by rw [emptyH_get] at e; cases e), Nat.zero_le _⟩
  refine method_type (K := []) Fm (fun b o e => by cases e) exc_type (by decide +kernel) exc_find rfl ?_
  have S2 := S1.tok (t := s1.toks + 1)
  have st2 := st1.tok (t := s1.toks + 1)
  show wpAny (model prog w) c.A (callWith pos (.builtin "Exception.__init__") [] (backTo pos (starEach (e :: rest) c.env)) []) _ _ _
  refine callWith_builtin (hpl _) ?_
  have hg' : wpAny (model prog w) c.A (spliced (backTo pos (starEach (e :: rest) c.env))) _ _ _ := hg pos c σ1 _ _ E ok S2 q
  rw [he] at hg' ⊢
  refine evalArgs_plain (wp_then hg' (fun vs σ3 s3 st3 S3 q3 => ?_) fun _ _ x => lx_trans st2 x)
  obtain ⟨x, b, e3, hx, q4⟩ := q3
  obtain ⟨u, v, rfl, e4, e5⟩ := two (P := fun a b' => a = .ref x ∧ b' = b) ⟨_, _, e3, rfl, rfl⟩
  obtain rfl := ab_ref e4
  obtain ⟨oe, ws, t, hoe, hcls, hd, h0, h1, hdn⟩ := S3.cr.hr _ _ hx
  obtain ⟨hh, gg, dd, tt, oo⟩ := s3
  refine exc_init (X.keeps S3.cr.bs) F hoe hcls hd h0 (show 1 ≤ sizeLine by decide) fun T hT => ?_
  have kk : ∀ b o, hh.get? b = some o → b ∉ [x] → ((hh.push { cls := .type "tuple", data := .seq [v].toArray }).update x (Obj.mapFields (·.setIfInBounds 0 (.ref T)))).get? b = some o := fun b o eb hb => by
    rw [Heap.get?_update_ne _ _ _ _ (by simpa using hb)]
    exact Heap.get?_push_of_some _ eb
  have hx' : ((hh.push { cls := .type "tuple", data := .seq [v].toArray }).update x (Obj.mapFields (·.setIfInBounds 0 (.ref T)))).get? x = some (oe.mapFields (·.setIfInBounds 0 (.ref T))) :=
    Heap.get?_update_self _ (Heap.get?_push_of_some _ hoe) (Obj.isFreed_of_fields (Obj.data_mapFields hd _))
  obtain ⟨S4, st4⟩ := S3.move (h' := (hh.push { cls := .type "tuple", data := .seq [v].toArray }).update x (Obj.mapFields (·.setIfInBounds 0 (.ref T)))) (hp' := σ3.hp) (t := tt) [x] (fun b hb => by rw [List.mem_singleton.mp hb, hx]; simp) kk (fun a o ea => by
      by_cases qa : a = x
      · subst qa
        rw [hx] at ea; cases ea
        refine .inr ⟨_, _, T, hx', (Obj.cls_mapFields _ _).trans hcls, Obj.data_mapFields hd _, ?_, ?_, fun e => ?_⟩
        · rw [Array.getElem?_setIfInBounds_self_of_lt (Array.getElem?_eq_some_iff.mp h0).1]
        · rw [Array.getElem?_setIfInBounds_ne (by decide)]; exact h1
        · obtain ⟨oc, odi, oda, osl⟩ := oe
          dsimp only at hd; subst hd
          exact hdn e
      · exact .inl ⟨ea, by simpa using qa⟩) fun b hb => .inl hb
  exact ⟨σ3, (st2.trans st3).trans st4, S4, q4⟩

theorem T_excSet {v o : PySem.Expr} {pos' pos : Pos} {fv fo : PT AV} (X : K.In base) (F : ExcK K C fI) (hv : TE prog w base C sc vars n v fv) (ho : TE prog w base C sc vars n o fo)
    (hs : ∀ env, swapsWith v (some (.Attribute o "message" pos')) pos.line env = pure false := by intro _; rfl) : TS prog w base C sc vars n (.Assign [.Attribute o "message" pos'] v pos)
    (fun σ Q E => fv σ (fun a σ1 => fo σ1 (fun r σ2 => ∃ x, r = .ref x ∧ σ2.hp x = some (.exc C false) ∧ Q .next ⟨σ2.loc, upd σ2.hp x (.exc C true)⟩) E) E) := by
  intro c σ s Q E ok S q
  refine plainObj_wpAny_Assign_Attribute (wp_then (hv c σ s _ E ok S q) (fun a σ1 s1 st1 S1 q1 => ?_) fun _ _ x => x) (hs _)
  refine wp_then (ho c σ1 s1 _ E ok S1 q1) (fun u σ2 s2 st2 S2 q2 => ?_) fun _ _ x => lx_trans st1 x
  obtain ⟨x, e1, hx, q3⟩ := q2
  obtain rfl := ab_ref e1
  obtain ⟨oe, ws, t, hoe, hcls, hd, h0, h1, hdn⟩ := S2.cr.hr _ _ hx
  obtain ⟨hh, gg, dd, tt, oo⟩ := s2
  refine exc_set (X.keeps S2.cr.bs) F hoe hcls hd (hdn rfl) fun h' tk dx kk hx' => ?_
  obtain ⟨S4, st4⟩ := S2.move (h' := h') (hp' := upd σ2.hp x (.exc C true)) (t := tk) [x] (fun b hb => by rw [List.mem_singleton.mp hb, hx]; simp) (fun b o eb hb => kk b o (by simpa using hb) eb) (fun a o ea => by
      by_cases qa : a = x
      · subst qa
        rw [upd_self] at ea; cases ea
        exact .inr ⟨_, ws, t, hx', hcls, hd, h0, h1, fun e => nomatch e⟩
      · rw [upd_other qa] at ea
        exact .inl ⟨ea, by simpa using qa⟩) fun b hb => by
      by_cases qa : b = x
      · subst qa; rw [hx]; exact .inl (by simp)
      · rw [upd_other qa] at hb; exact .inl hb
  exact ⟨_, (st1.trans st2).trans st4, S4, q3⟩

theorem SR.forget {c : Act} {loc : List (Option AV)} {hp hp' : HP} {s : Shared} (S : SR prog w base c ⟨loc, hp⟩ s) (h : ∀ a o, hp' a = some o → hp a = some o) : SR prog w base c ⟨loc, hp'⟩ s := by
  have hn : ∀ b, hp b = none → hp' b = none := fun b e => by
    cases q : hp' b with
    | none => rfl
    | some o => rw [h b o q] at e; cases e
  exact ⟨S.loc, fun b hb => hn b (S.priv b hb), S.prb, S.plt, ⟨fun a o e => S.cr.hr a o (h a o e), fun b hb => hn b (S.cr.frm b hb), S.cr.bs, fun b hb => S.cr.nb b fun q => hb (hn b q), S.cr.frames⟩⟩
end
end Mine

end

section
open PySem PySem.W PyProof.Rows PySem.Calls Builtin Builtin.ObjectAttr
set_option Elab.async false
set_option maxRecDepth 100000
set_option linter.unusedVariables false
namespace Mine
section
variable {prog : Program} {w : World} {K : Frag} {base : Heap} {mg mb : Str → Option Value} {C fI : Addr} {sc : Scope} {vars : List Str} {n : Nat}

/-- the contract of the class's __init__ -/
def cExcInit (C : Addr) : CPT := fun as hp Q _ => ∃ x m, as = [.ref x, .str m] ∧ hp x = some (.exc C false) ∧ Q .none (upd hp x (.exc C true))

theorem raise_stmt {M : Model} {A : Around} {E : Value → Shared → Prop} {s : Shared} {env : Env} {x : Sem Value} {Q : Flow → Shared → Prop} (X : K.In base) (F : ExcK K C fI) (hh : A.handled = none)
    (h : wpAny M A x (fun v s₁ => ∃ e oe, v = .ref e ∧ (∀ b o, base.get? b = some o → s₁.heap.get? b = some o) ∧ s₁.heap.get? e = some oe ∧ oe.cls = .ref C ∧ (∃ vs, oe.data = .fields vs ∧ vs[1]? = some .none) ∧ E (.ref e) s₁) E s) :
    wpAny M A (raiseStmt env (some x) none) Q E s := by
  obtain ⟨nm, q, N, bs, bm, sn, sub, ab, col, dd, k0, k1, k2, k3, k5, hK, hEx, hB, hA, hN, hP⟩ := F.obj
  have hcB : (Value.ref C :: bm).contains (.type "BaseException") = true := by rw [List.contains_cons, hB, Bool.or_true]
  unfold raiseStmt
  refine wpAny_bind (wpAny_mono h (fun v s₁ h₁ => ?_) fun _ _ x => x)
  obtain ⟨e, oe, rfl, kb, he, hcls, ⟨vs, hd, hv1⟩, hE⟩ := h₁
  have hC := kb _ _ (X _ _ hK)
  obtain ⟨oc, odi, oda, osl⟩ := oe
  dsimp only at hcls hd
  subst hcls hd
  obtain ⟨hp, g, d, tk, os⟩ := s₁
  repeat (first | with_reducible refine wpAny_loadPart_at he ?_ | with_reducible refine wpAny_loadPart_at hC ?_ | (with_reducible refine wpAny_isSubtype_exc hC ?_; rw [hcB]) | wp_step)
  rw [hv1]
  refine wpAny_pure ?_
  rw [if_neg (by decide)]
  refine wpAny_pure ?_
  exact wpAny_raiseNew_none hh hE

abbrev vRaise : PT AF := fun σ _ E => E σ
theorem T_raise {m : Nat} {x : Str} {ms : Str} {k : Nat} {np cpos p pos : Pos} (X : K.In base) (F : ExcK K C fI) (hx : TE prog w base C sc vars n (.Name x np) (vVal (.ref C)))
    (hI : CodeS prog w base C m (.ref fI) (cExcInit C)) (hm : m + 1 ≤ n) :
    TS prog w base C sc vars n (.Raise (some (.Call (.Name x np) [.Constant (.str ms) k p] [] cpos)) none pos) vRaise := by
  intro c σ s Q E ok S q
  obtain ⟨nm, qn, N, bs, bm, sn, sub, ab0, col, dd, k0, k1, k2, k3, k5, hK, hEx, hB, hA, hN, hP⟩ := F.obj
  dsimp only
  rw [arm_exec_Raise]
  refine wpAny_bind (wpAny_standAt (raise_stmt X F ok.handled (wpAny_bind (wpAny_mono (wpAny_Call_ofName (wpAny_mono (hx c σ s (fun a σ' => a = .ref C ∧ σ' = σ) (fun _ => False) ok S ⟨rfl, rfl⟩) (fun f s1 h1 => ?_) fun _ _ ⟨_, _, _, _, x⟩ => x.elim)) (fun v s₃ h₃ => wpAny_bind (wpAny_standAt (wpAny_pure h₃))) fun _ _ x => x))))
  obtain ⟨σ1, st1, S1, e1, e2⟩ := h1
  subst e2
  obtain rfl := ab_ref e1
  have hplain : (backTo cpos (starEach [.Constant (.str ms) k p] c.env)).any (·.1) = false := rfl
  show wpAny _ c.A (callWith cpos (.ref C) [] (backTo cpos (starEach [.Constant (.str ms) k p] c.env)) []) _ _ _
  unfold callWith
  have hev : wpAny (model prog w) c.A (evalArgs (.ref C) true (backTo cpos (starEach [.Constant (.str ms) k p] c.env)) []) (fun a s2 => a = ⟨[.str ms s1.toks], []⟩ ∧ s2 = { s1 with toks := s1.toks + 1 }) (Lx prog w base C c σ1 s E) s1 :=
    evalArgs_plain (spliced_cons (wpAny_mkText (spliced_nil ⟨rfl, rfl⟩)))
  refine wpAny_bind (wpAny_holding (wpAny_mono hev (fun a s2 h2 => wpAny_bind (wpAny_standAt ?_)) fun _ _ x => x))
  obtain ⟨rfl, rfl⟩ := h2
  simp only [hplain]
  have S2 := S1.tok (t := s1.toks + 1)
  have st2 := st1.tok (t := s1.toks + 1)
  generalize hs2 : ({ s1 with toks := s1.toks + 1 } : Shared) = s2 at S2 st2 ⊢
  have hC := S2.cr.bs _ _ (X _ _ hK)
  obtain ⟨hh, gg, dd', tt, oo⟩ := s2
  refine wpAny_bind (wpAny_keeperOf_exc hC ?_)
  refine wpAny_bind (wpAny_mono (exc_make (Q := fun v s3 => ∃ e oe, v = .ref e ∧ (∀ b o, base.get? b = some o → s3.heap.get? b = some o) ∧ s3.heap.get? e = some oe ∧ oe.cls = .ref C ∧ (∃ vs, oe.data = .fields vs ∧ vs[1]? = some .none) ∧ Lx prog w base C c σ1 s E (.ref e) s3) (X.keeps S2.cr.bs) F (fun h' e hm' => ?_) (show 1 ≤ sizeLine by decide)) (fun v s3 h3 => wpAny_bind (wpAny_holding (wpAny_point (wpAny_pure h3)))) fun _ _ x => x)
  obtain ⟨t, ht, htn, htt⟩ := hm'.there
  obtain ⟨hen, S3, st3⟩ := S2.allocAt (h' := h') (t := tt) (D := e) (x := .exc C false) hm'.keeps hm'.new ⟨_, _, t, ht, rfl, rfl, rfl, rfl, fun _ => rfl⟩
  have ok' : FOK m ⟨c.env, c.A.under (.builtin "type.__call__" ⟨[.ref C, .str ms s1.toks], []⟩), c.vars, c.fr⟩ :=
    ⟨ok.handled, by show (c.A.under _).frames = _; exact ok.frames, by have := ok.depth; show c.A.depth + 1 + m < _; omega, by have := ok.units; show c.A.units + 1 + 200 * m < _; omega⟩
  have S3' : SR prog w base ⟨c.env, c.A.under (.builtin "type.__call__" ⟨[.ref C, .str ms s1.toks], []⟩), c.vars, c.fr⟩ _ _ := ⟨S3.loc, S3.priv, S3.prb, S3.plt, S3.cr⟩
  refine wpAny_mono (hI.call _ _ _ [.ref e, .str ms s1.toks] (fun a hp' => a = .none ∧ hp' = upd (upd σ1.hp e (.exc C false)) e (.exc C true)) (fun _ => False) ok' S3' ⟨e, ms, rfl, upd_self _ _ _, rfl, rfl⟩) (fun r s4 h4 => ?_) fun _ _ ⟨_, _, _, _, _, x⟩ => x.elim
  obtain ⟨hp4, st4, S4, e4, rfl⟩ := h4
  obtain ⟨oe, vs, t', hoe, hcls, hd, h0, h1, _⟩ := S4.cr.hr e _ (upd_self _ _ _)
  have S5 : SR prog w base c ⟨σ1.loc, σ1.hp⟩ s4 := SR.forget ⟨S4.loc, S4.priv, S4.prb, S4.plt, S4.cr⟩ fun a o ea => by
    have qa : a ≠ e := fun q => by rw [q, hen] at ea; cases ea
    show upd (upd σ1.hp e (.exc C false)) e (.exc C true) a = some o
    rw [upd_other qa, upd_other qa]; exact ea
  have st5 : Step c.priv (fas c.fr) σ1.hp s σ1.hp s4 := by
    have st6 := (st2.trans st3).trans st4
    exact ⟨fun b o eb hb hp => ⟨(st6.keep b o eb hb hp).1, (st6.keep b o eb hb hp).2.1, hb⟩, st6.gens, st6.drawn, st6.os⟩
  have hes : s.heap.get? e = none := by
    cases qe : s.heap.get? e with
    | none => rfl
    | some o =>
      have npr : e ∉ c.priv := fun hp => by
        obtain ⟨o', ho'⟩ := S2.plt e hp
        have := hm'.new
        rw [show hh.get? e = some o' from ho'] at this; cases this
      obtain ⟨⟨sl, k1⟩, _⟩ := st2.keep e o qe hen npr
      have := hm'.new
      rw [show hh.get? e = _ from k1] at this; cases this
  exact ⟨ab_none e4, e, oe, rfl, S5.cr.bs, hoe, hcls, ⟨vs, hd, h1⟩, σ1, st5, S5, ⟨e, t', oe, vs, rfl, (fun o eo _ => by rw [hes] at eo; cases eo), hen, hoe, hcls, hd, h0, .inl h1⟩, q⟩
end
end Mine

end

section
open PySem PySem.W PyProof.Rows PySem.Calls Builtin Builtin.ObjectAttr
set_option Elab.async false
set_option maxRecDepth 100000
set_option linter.unusedVariables false
namespace Mine
section
variable {prog : Program} {w : World} {K : Frag} {base : Heap} {mg mb : Str → Option Value} {C fI : Addr} {sc : Scope} {vars : List Str} {n : Nat}

/-- what stays where the records Z alone are written -/
def KeepZ (Z fa : List Addr) (h h' : Heap) : Prop := ∀ b o, b ∉ Z → h.get? b = some o → (∃ sl, h'.get? b = some { o with slots := sl }) ∧ (b ∉ fa → h'.get? b = some o)

theorem exc_noted {M : Model} {A : Around} {env : Env} {outer : List Env} {L : Addr} {pv : List Addr} {hp hp' : HP} {s s' : Shared} {e : Value} {E : Value → Shared → Prop} {Q : Unit → Shared → Prop}
    (hfr : A.frames = some (env :: outer)) (hl : s'.heap.FunFrames base (env :: outer)) (hf : env.frame = some L) (X : ExcR C pv hp s hp' s' e)
    (hq : ∀ (x t : Addr) (Z : List Addr) (h'' : Heap), e = .ref x → (∀ y ∈ Z, Nu pv hp s y ∧ hp' y = none ∧ ∀ o, s'.heap.get? y = some o → ∃ vs, o.data = .fields vs) →
      Heap.HeldW (hideAll s'.heap (Z ++ fas (env :: outer))) (env :: outer) x (.ref C) (.ref t) L h'' → s'.heap.UpToSlots h'' → Q () { s' with heap := h'' }) :
    wpAny M A (noteFrame e env) Q E s' := by
  obtain ⟨x, t, oe, vs, rfl, hNx, hpx, hx, hcl, hd, h0, h1⟩ := X
  have ffh : ∀ Z : List Addr, s'.heap.FunFrames (hideAll s'.heap (Z ++ fas (env :: outer))) (env :: outer) := fun Z =>
    funFrames_hide hl fun env' he a ha => List.mem_append.mpr (.inr (fas_mem he ha))
  have hxf : ∀ o, s'.heap.get? x = some o → ∃ vs, o.data = .fields vs := fun o ho => by rw [hx] at ho; cases ho; exact ⟨vs, hd⟩
  rcases h1 with h1 | ⟨T, oT, ts, h1, hNT, hpT, hTx, hT, hdT, h3⟩
  · unfold noteFrame
    simp only [hf]
    refine wpAny_bind (wpAny_field hx hd h1 ?_)
    rw [if_neg (by decide)]
    refine wpAny_entryW (base := hideAll s'.heap ([x] ++ fas (env :: outer))) hfr (ffh [x]) hf hx (fun b o e => of_hideAll _ e) (hideAll_none _ (by simp)) hd (Array.getElem?_eq_some_iff.mp h1).1 h0 fun h' hN => ?_
    obtain ⟨k1, k2, k3, k4⟩ := hN
    rw [hcl] at k3
    exact hq x t [x] h' rfl (fun y hy => by rw [List.mem_singleton.mp hy]; exact ⟨hNx, hpx, hxf⟩) ⟨k1, hideAll_none _ (by simp), k2, k3⟩ k4
  · refine wpAny_noteFrame_onW (base := hideAll s'.heap ([x, T] ++ fas (env :: outer))) (cls := oe.cls) (a0 := .ref t) hfr (ffh [x, T]) hf ⟨oe, vs, T, oT, ts, hx, ⟨rfl, h0⟩, hd, h1, hideAll_none _ (by simp), hTx, hT, hdT, h3⟩ (fun b o e => of_hideAll _ e) (hideAll_none _ (by simp)) fun h' hN => ?_
    obtain ⟨k1, k2, k3, k4⟩ := hN
    rw [hcl] at k3
    refine hq x t [x, T] h' rfl (fun y hy => ?_) ⟨k1, hideAll_none _ (by simp), k2, k3⟩ k4
    rcases List.mem_cons.mp hy with rfl | hy
    · exact ⟨hNx, hpx, hxf⟩
    · rw [List.mem_singleton.mp hy]
      exact ⟨hNT, hpT, fun o ho => by rw [hT] at ho; cases ho; exact ⟨ts, hdT⟩⟩

theorem keepZ_of {env : Env} {outer : List Env} {h h' : Heap} {Z : List Addr} (hl : h.FunFrames base (env :: outer)) (hs : (hideAll h (Z ++ fas (env :: outer))).StaysIn h') (hu : h.UpToSlots h') : KeepZ Z (fas (env :: outer)) h h' := by
  intro b o hb ho
  by_cases hbf : b ∈ fas (env :: outer)
  · obtain ⟨_, o', ho', hnf⟩ := ff_get hl b hbf
    rw [ho] at ho'; cases ho'
    exact ⟨hu b o ho hnf, fun q => absurd hbf q⟩
  · have := hs b o (hideAll_get _ ho (by rw [List.mem_append]; exact fun q => q.elim hb hbf))
    exact ⟨⟨o.slots, this⟩, fun _ => this⟩

/-- the state behind a handler's taking -/
theorem SR.taken {c : Act} {σ0 σ : AS} {s0 s : Shared} {h' : Heap} {Z : List Addr} (S0 : SR prog w base c σ0 s0) (S : SR prog w base c σ s) (st : Step c.priv (fas c.fr) σ0.hp s0 σ.hp s) (hZ : ∀ y ∈ Z, Nu c.priv σ0.hp s0 y ∧ σ.hp y = none ∧ ∀ o, s.heap.get? y = some o → ∃ vs, o.data = .fields vs) (k : KeepZ Z (fas c.fr) s.heap h') (hcc : c.env.cells = []) :
    SR prog w base c σ { s with heap := h' } ∧ Step c.priv (fas c.fr) σ0.hp s0 σ.hp { s with heap := h' } := by
  obtain ⟨m, hn, hl, hs⟩ := S.loc
  have nZn : ∀ {a : Addr} {m : Str → Option Value}, s.heap.Ns a m → a ∉ Z := fun hn h => by
    obtain ⟨o, es, ep, ho, hd, _⟩ := hn
    obtain ⟨vs, q⟩ := (hZ _ h).2.2 o ho
    rw [hd] at q; cases q
  have nZc : ∀ {a : Addr} {v : Option Value}, s.heap.IsCell a v → a ∉ Z := fun hn h => by
    obtain ⟨o, ho, hd⟩ := hn
    obtain ⟨vs, q⟩ := (hZ _ h).2.2 o ho
    rw [hd] at q; cases q
  have nZb : ∀ b o, base.get? b = some o → b ∉ Z := fun b o e h => by
    have h1 := S0.cr.bs b o e
    have h2 : σ0.hp b = none := by
      cases q : σ0.hp b with
      | none => rfl
      | some y => have := S0.cr.nb b (by rw [q]; simp); rw [e] at this; cases this
    have := S0.prb b ((hZ b h).1 o h1 h2)
    rw [e] at this; cases this
  refine ⟨⟨⟨m, ns_slots hn fun o e => (k _ o (nZn hn) e).1, hl, fun i x oa h1 h2 => ?_⟩, S.priv, S.prb, fun b hb => ?_, ⟨fun a o e => ?_, S.cr.frm, fun b o e => ?_, S.cr.nb, ?_⟩⟩, ⟨fun b o e hn' hp => ?_, st.gens, st.drawn, st.os⟩⟩
  · rcases hs i x oa h1 h2 with h | ⟨h3, cc, ov, h4, h5, h6⟩
    · exact .inl h
    · exact .inr ⟨h3, cc, ov, h4, cell_slots h5 fun o e => (k _ o (nZc h5) e).1, h6⟩
  · obtain ⟨o, e⟩ := S.plt b hb
    by_cases q : b ∈ Z
    · rcases List.mem_cons.mp hb with rfl | hc
      · exact absurd q (nZn hn)
      · rw [hcc] at hc; cases hc
    · obtain ⟨⟨sl, e'⟩, _⟩ := k b o q e
      exact ⟨_, e'⟩
  · refine (S.cr.hr a o e).at fun o' e' => (k a o' (fun h => ?_) e').2 fun h => ?_
    · rw [(hZ a h).2.1] at e; cases e
    · rw [S.cr.frm a h] at e; cases e
  · refine (k b o (nZb b o e) (S.cr.bs b o e)).2 fun hf => ?_
    rw [(ff_get S.cr.frames b hf).1] at e; cases e
  · refine S.cr.frames.of_keeps fun b o hb hnf => ?_
    obtain ⟨sl, e⟩ := (k b o (fun h => by obtain ⟨vs, q⟩ := (hZ b h).2.2 o hb; exact hnf vs q) hb).1
    exact ⟨_, e, rfl⟩
  · obtain ⟨⟨sl, a1⟩, a2, a3⟩ := st.keep b o e hn' hp
    have nb : b ∉ Z := fun h => hp ((hZ b h).1 o e hn')
    obtain ⟨⟨sl', b1⟩, b2⟩ := k b _ nb a1
    exact ⟨⟨sl', b1⟩, fun hf => (k b o nb (a2 hf)).2 hf, a3⟩

def kCaught (Q : AF → AS → Prop) (σ : AS) : Prop := Q (.ret (.bool false)) σ
abbrev vTry (b : PT AF) : PT AF := fun σ Q E => b σ Q (kCaught Q)
theorem T_try {body : List Stmt} {b : PT AF} {x : Str} {np p1 p2 p3 pos : Pos} {k : Nat} (G : GC prog w K base mg mb) (F : ExcK K C fI) (e : nsIn K mainGlobals x = some (some (.ref C))) (hx : sc.names.lookup x = some .globalImplicit) (hd : (x == ("__debug__" : Str)) = false)
    (h5 : 5 ≤ vars.length) (hcells : (cellsFrom 0 sc.names []).map (·.1) = []) (hb : TB prog w base C sc vars n body b) :
    TS prog w base C sc vars n (.Try body [.ExceptHandler (some (.Name x np)) none [.Return (some (.Constant (.bool false) k p1)) p2] p3] [] [] pos) (vTry b) := by
  intro c σ s Q E ok S q
  refine wpAny_Try_except (wpAny_mono (hb c σ s _ _ ok S q) (fun fl s1 h1 => ?_) fun ev s1 h1 => ?_)
  · obtain ⟨σ1, st1, S1, q1⟩ := h1
    cases fl with
    | next => exact wpAny_execs_nil ⟨σ1, st1, S1, q1⟩
    | brk => exact ⟨σ1, st1, S1, q1⟩
    | cont => exact ⟨σ1, st1, S1, q1⟩
    | ret v => exact ⟨σ1, st1, S1, q1⟩
  · obtain ⟨σ1, st1, S1, X1, q1⟩ := h1
    obtain ⟨outer, L, hfr, hfL, hcc⟩ := ok.hd h5
    have hl : s1.heap.FunFrames base (c.env :: outer) := hfr ▸ S1.cr.frames
    refine exc_noted (ok.frames.trans (congrArg some hfr)) hl hfL X1 fun x1 t1 Z h2 ee hZ hheld hu => ?_
    subst ee
    refine wpAny_landsW hheld fun h3 hfl hu2 => ?_
    have hu3 := hu.trans hu2
    obtain ⟨nm, q', N, bs, bm, sn, sub, ab, col, dd, k0, k1, k2, k3, k5, hK, hEx, hB, hA, hN, hP⟩ := F.obj
    have kz3 := keepZ_of hl hfl.1 hu3
    rw [← hfr] at kz3
    obtain ⟨S3, st3⟩ := S.taken S1 st1 hZ kz3 (hcc hcells)
    have hkk : c.env.scope.kind = .function := by rw [ok.scE]; exact ok.kind
    refine wpAny_handleBy_cons (codeAny_handlers_test (Name_function_global hkk (by unfold Env.kindOf; rw [ok.scE]; exact hx) (loadGlobal_global (by rw [ok.glob]; exact G.g.keeps S3.cr.bs) (mg_of G.X G.g e) ?_) hd)) (by intro q; cases q)
    have hC := S3.cr.bs _ _ (G.X _ _ hK)
    obtain ⟨ob, hob, hobc⟩ := hfl.there
    refine wpAny_excMatches_sub_self hC hob hobc hB (codeAny_handlers_suite ?_)
    refine lands_againW hfl fun h6 hfl6 hu6 => ?_
    have kz6 := keepZ_of hl hfl6.1 (hu3.trans hu6)
    rw [← hfr] at kz6
    obtain ⟨S6, st6⟩ := S.taken S1 st1 hZ kz6 (hcc hcells)
    exact wpAny_execs_cons (wpAny_Return_some (wpAny_pure ⟨σ1, st6, S6, q1⟩))
end
end Mine

end

section
open PySem PySem.W PyProof.Rows PySem.Calls
set_option Elab.async false
set_option maxRecDepth 100000
set_option linter.unusedVariables false
namespace Mine

section
variable {prog : Program} {w : World} {K : Frag} {base : Heap} {mg mb : Str → Option Value} {C : Addr} {sc sc' : Scope} {vars : List Str} {n : Nat} {x y : Str}

theorem SR.butL {c : Act} {σ : AS} {s : Shared} {W : List Addr} (S : SR prog w base c σ s) (l : ∀ I ∈ W, Loose base c σ.hp I) {h' : Heap} {t : Nat} (k : ∀ b o, b ∉ W → s.heap.get? b = some o → h'.get? b = some o) : SR prog w base c σ { s with heap := h', toks := t } := by
  obtain ⟨m, hns, hl, hs⟩ := S.loc
  have pk : ∀ b ∈ c.priv, ∀ o, s.heap.get? b = some o → h'.get? b = some o := fun b hb o e => k b o (fun q => (l b q).priv hb) e
  refine ⟨⟨m, hns.at' (pk _ (.head _)), hl, fun i z oa h1 h2 => ?_⟩, S.priv, S.prb, fun b hb => ?_, ⟨fun a o e => ?_, S.cr.frm, fun b o e => ?_, S.cr.nb, ?_⟩⟩
  · rcases hs i z oa h1 h2 with h | ⟨h3, cc, ov, h4, ⟨o, ho', hd⟩, h6⟩
    · exact .inl h
    · exact .inr ⟨h3, cc, ov, h4, ⟨o, pk cc (.tail _ (List.mem_map.mpr ⟨(z, cc), PySem.mem_of_lookup h4, rfl⟩)) o ho', hd⟩, h6⟩
  · obtain ⟨o, e⟩ := S.plt b hb
    exact ⟨o, pk b hb o e⟩
  · exact (S.cr.hr a o e).at fun o' e' => k a o' (fun q => by rw [(l a q).unknown] at e; cases e) e'
  · exact k b o (fun q => by rw [(l b q).base] at e; cases e) (S.cr.bs b o e)
  · exact ff_keep (fun b hb o e => k b o (fun q => (l b q).fa hb) e) S.cr.frames
theorem Step.butL {pv fa : List Addr} {hp hp' : HP} {s s' : Shared} {W : List Addr} (st : Step pv fa hp s hp' s') (hI : ∀ I ∈ W, s.heap.get? I = none) {h' : Heap} {t : Nat} (k : ∀ b o, b ∉ W → s'.heap.get? b = some o → h'.get? b = some o) : Step pv fa hp s hp' { s' with heap := h', toks := t } := by
  refine ⟨fun b o e hn hp => ?_, st.gens, st.drawn, st.os⟩
  obtain ⟨⟨sl, a1⟩, a2, a3⟩ := st.keep b o e hn hp
  have hb : b ∉ W := fun q => by rw [hI b q] at e; cases e
  exact ⟨⟨sl, k b _ hb a1⟩, fun hf => k b _ hb (a2 hf), a3⟩
/-- what is known anew, nothing changed -/
theorem SR.knowAll {c : Act} {loc : List (Option AV)} {hp hp' : HP} {s s₀ : Shared} {l₀ : List (Option AV)} (S : SR prog w base c ⟨loc, hp⟩ s) (S₀ : SR prog w base c ⟨l₀, hp'⟩ s₀) (h : ∀ a o, hp' a = some o → hp a = some o ∨ OH prog w s.heap a o) : SR prog w base c ⟨loc, hp'⟩ s :=
  ⟨S.loc, S₀.priv, S.prb, S.plt, ⟨fun a o e => (h a o e).elim (S.cr.hr a o) id, S₀.cr.frm, S.cr.bs, S₀.cr.nb, S.cr.frames⟩⟩

structure ZipSc (sc sc' : Scope) (x y : Str) : Prop where
  H : CompSc sc sc' [] x [] []
  locY : sc'.names.lookup y = some .local
  xy : x ≠ y
/-- the activation of a comprehension over pairs -/
def zipAct (c : Act) (sc' : Scope) (Cc : Addr) (x y : Str) : Act := ⟨compEnvC sc' (clOf c.env sc') Cc c.env, c.A, [x, y], c.fr⟩

theorem CompSc.anyVars {capt : List Str} (H : CompSc sc sc' [] x [] []) : CompSc sc sc' vars x [] [] := ⟨H.kind, H.ok, H.free, H.loc, H.cau, H.nd, .nil, H.kindS, H.few⟩

theorem zip_ok {c : Act} {σ : AS} {s : Shared} (ok : AOK sc vars n c) (S : SR prog w base c σ s) (Z : ZipSc sc sc' x y) {Cc : Addr} (hC : s.heap.get? Cc = none) : AOK (relabelS sc' sc) [x, y] n (zipAct c sc' Cc x y) := by
  have o := comp_ok ok S (Z.H.anyVars (capt := [])) hC
  exact ⟨o.scE, rfl, o.kind, by simp [Z.xy], o.glob, o.bl, o.handled, o.frames, o.depth, o.units, o.cnd, o.cn, fun h => absurd h (by simp)⟩
theorem zip_kindY {c : Act} (ok : AOK sc vars n c) (Z : ZipSc sc sc' x y) {Cc : Addr} : (zipAct c sc' Cc x y).env.kindOf y = some .local := by
  have e : (zipAct c sc' Cc x y).env.scope = relabelS sc' sc := relabel_eq ok.scE
  unfold Env.kindOf; rw [e]
  have := lookup_map_relabel (g := fun m => sc.kind == .function && sc.names.lookup m == some .cell) Z.locY
  unfold relabelS; simp only [Bool.and_assoc]; exact this
theorem zip_kindX {c : Act} (ok : AOK sc vars n c) (Z : ZipSc sc sc' x y) {Cc : Addr} : (zipAct c sc' Cc x y).env.kindOf x = some .local := (comp_kind ok (Z.H.anyVars (capt := []))).1
theorem zip_enter {c : Act} {σ : AS} {s s' : Shared} (ok : AOK sc vars n c) (S : SR prog w base c σ s) (Z : ZipSc sc sc' x y) {Cc : Addr} (hC : s.heap.get? Cc = none) {m : Str → Option Value} (hm : s'.heap.Ns Cc m) (hmx : m x = none) (hmy : m y = none)
    (k : ∀ b o, s.heap.get? b = some o → s'.heap.get? b = some o) : SR prog w base (zipAct c sc' Cc x y) ⟨[none, none], σ.hp⟩ s' := by
  have S4 := comp_enter ok S (Z.H.anyVars (capt := [])) hC hm hmx k
  refine ⟨⟨m, hm, rfl, fun i z oa h1 h2 => ?_⟩, S4.priv, S4.prb, S4.plt, S4.cr⟩
  rcases i with _ | _ | i
  · have h1' : x = z := by simpa [zipAct] using h1
    have h2' : none = oa := by simpa using h2
    subst h1'; subst h2'
    exact .inl ⟨zip_kindX ok Z, by rw [hmx]; rfl⟩
  · have h1' : y = z := by simpa [zipAct] using h1
    have h2' : none = oa := by simpa using h2
    subst h1'; subst h2'
    exact .inl ⟨zip_kindY ok Z, by rw [hmy]; rfl⟩
  · simp at h2
theorem zip_back {c : Act} {σ : AS} {s s' : Shared} (ok : AOK sc vars n c) (S : SR prog w base c σ s) (Z : ZipSc sc sc' x y) {Cc : Addr} (hC : s.heap.get? Cc = none) {hp : HP} {oa ob : Option AV} (st : Step (zipAct c sc' Cc x y).priv (fas c.fr) σ.hp s hp s') (S' : SR prog w base (zipAct c sc' Cc x y) ⟨[oa, ob], hp⟩ s') :
    SR prog w base c ⟨σ.loc, hp⟩ s' ∧ Step c.priv (fas c.fr) σ.hp s hp s' := by
  have S1 : SR prog w base (compAct c sc' Cc x []) ⟨oa :: caps σ [], hp⟩ s' := by
    obtain ⟨m, hm, hl, hs⟩ := S'.loc
    refine ⟨⟨m, hm, rfl, fun i z o h1 h2 => ?_⟩, S'.priv, S'.prb, S'.plt, S'.cr⟩
    rcases i with _ | i
    · have h1' : x = z := by simpa [compAct] using h1
      have h2' : oa = o := by simpa using h2
      subst h1'; subst h2'
      exact hs 0 x oa rfl rfl
    · simp [compAct] at h1
  exact comp_back ok S (Z.H.anyVars (capt := [])) hC (fun _ _ e => e) rfl rfl rfl st S1

theorem pair_loop {prog : Program} {w : World} {A : Around} {s : Shared} {env : Env} {elt iter : PySem.Expr} {elts : List PySem.Expr} {x1 : Nat} {tp : Pos} {ifs : List PySem.Expr} {scope : Scope} {pos : Pos} {it acc : Value} {R : Result → Shared → Prop} (I : Nat → Shared → Prop)
    (turn : ∀ n s, I n s → wpAny (model prog w) A (pyNext it) (fun r s₁ => match r with
      | none => R (.ok .next) s₁
      | some v => wpAny (model prog w) A (letOwnedTupleGo (.Tuple elts x1 tp) it v) (fun _ s₁' => wpAny (model prog w) A (assign (.Tuple elts x1 tp) env v) (fun _ s₂ =>
          wpAny (model prog w) A (forIn ifs true fun c r => if r = true then do let ok ← isTrue c env (eval c env); pure (ForInStep.yield ok) else pure (ForInStep.yield r)) (fun ok s₃ =>
            if ok = true then wpAny (model prog w) A (eval elt env) (fun x s₄ =>
              wpAny (model prog w) A (call (.builtin "list.append") [acc, x]) (fun _ s₅ => ∃ m, m < n ∧ I m s₅) (notedBy (model prog w) A env fun e s' => R (.error e) s') s₄) (notedBy (model prog w) A env fun e s' => R (.error e) s') s₃
            else ∃ m, m < n ∧ I m s₃) (notedBy (model prog w) A env fun e s' => R (.error e) s') s₂)
          (notedBy (model prog w) A env fun e s' => R (.error e) s') s₁') (notedBy (model prog w) A env fun e s' => R (.error e) s') s₁) (notedBy (model prog w) A env fun e s' => R (.error e) s') s)
    (n : Nat) (h : I n s) : codeAny (model prog w) A (.compLoop (.ListComp elt [⟨.Tuple elts x1 tp, iter, ifs, 0⟩] scope pos) 0 it acc env) R s := by
  refine codeAny_loop rfl I (fun n s hI => ?_) n h
  show wpAny _ A ((compTurn (.ListComp elt [⟨.Tuple elts x1 tp, iter, ifs, 0⟩] scope pos) 0 it acc env).onRaise (fun x => do noteFrame x env; theTreesLotGoes x)) _ _ s
  refine wpAny_noted ?_
  rw [compTurn_list]
  refine wpAny_bind (wpAny_standAt (wpAny_bind (wpAny_mono (turn n s hI) (fun r s₁ h₁ => ?_) fun _ _ h' => h')))
  cases r with
  | none => exact wpAny_pure h₁
  | some v =>
    refine wpAny_bind (wpAny_mono h₁ (fun _ s₁' h₁' => ?_) fun _ _ h' => h')
    refine wpAny_bind (wpAny_mono h₁' (fun _ s₂ h₂ => wpAny_bind (wpAny_mono h₂ (fun ok s₃ h₃ => ?_) fun _ _ h' => h')) fun _ _ h' => h')
    cases ok with
    | false => exact wpAny_pure ⟨rfl, h₃⟩
    | true =>
      exact wpAny_bind (wpAny_bind (wpAny_mono h₃ (fun x s₄ h₄ => wpAny_bind (wpAny_mono h₄ (fun _ s₅ h₅ => wpAny_pure (wpAny_pure ⟨rfl, h₅⟩)) fun _ _ h' => h')) fun _ _ h' => h'))
end
end Mine

end

section
open PySem PySem.W PyProof.Rows PySem.Calls
set_option Elab.async false
set_option maxRecDepth 100000
set_option linter.unusedVariables false
namespace Mine

theorem zip_step {xs ys : List AV} {k : Nat} {a b : AV} (ha : xs[k]? = some a) (hb : ys[k]? = some b) (p : AV → AV → Bool) (f : AV × AV → AV) :
    (((xs.zip ys).take (k + 1)).filter fun q => p q.1 q.2).map f = (((xs.zip ys).take k).filter fun q => p q.1 q.2).map f ++ (if p a b = true then [f (a, b)] else []) := by
  have h : (xs.zip ys)[k]? = some (a, b) := List.getElem?_zip_eq_some.mpr ⟨ha, hb⟩
  rw [List.take_add_one, h, List.filter_append, List.map_append]
  by_cases q : p a b = true <;> simp [q]

section
variable {prog : Program} {w : World} {K : Frag} {base : Heap} {mg mb : Str → Option Value} {C : Addr} {sc sc' : Scope} {vars : List Str} {n : Nat} {x y : Str}

def kCompZ (t : PT Bool) (e : PT AV) (Q : AV → AS → Prop) (as : List AV) : AS → Prop
  | ⟨lc, h⟩ => ∃ (l1 l2 : Addr) (xs ys : List AV) (p : AV → AV → Bool), as = [.ref l1, .ref l2] ∧ h l1 = some (.list xs) ∧ h l2 = some (.list ys) ∧ xs.length ≤ 1000 ∧
    (∀ u v hp, (u, v) ∈ xs.zip ys → t ⟨[some u, some v], hp⟩ (fun r σ' => σ' = ⟨[some u, some v], hp⟩ ∧ r = p u v) fun _ => False) ∧ (∀ u v hp, e ⟨[some u, some v], hp⟩ (fun z σ' => σ' = ⟨[some u, some v], hp⟩ ∧ z = .int 1) fun _ => False) ∧
    ∀ D, h D = none → Q (.ref D) ⟨lc, upd h D (.list (((xs.zip ys).filter fun q => p q.1 q.2).map fun _ => .int 1))⟩
abbrev vCompZ (g : PT (List AV)) (t : PT Bool) (e : PT AV) : PT AV := fun σ Q E => g σ (kCompZ t e Q) E

def ZPt (xs ys : Array Value) (i : Nat) (vals : Array Value) : Prop := ∃ x y, xs[i]? = some x ∧ ys[i]? = some y ∧ vals = #[x, y]
def ZSt (n0 l1 l2 : Addr) (xs ys : Array Value) (i : Nat) (h : Heap) : Prop := IsZip h (n0 + 4) (n0 + 2) (n0 + 3) .none ∧ IsPair h (n0 + 2) (.ref n0) (.ref (n0 + 1)) ∧ (∃ a b, IsPair h (n0 + 3) a b) ∧ h.IsListIter n0 l1 i ∧ h.IsListIter (n0 + 1) l2 i ∧ h.IsList l1 xs ∧ h.IsList l2 ys
def ZMid (n0 l1 l2 : Addr) (xs ys : Array Value) (i : Nat) (T : Addr) (h : Heap) : Prop := IsZip h (n0 + 4) (n0 + 2) (n0 + 3) (rawInt T) ∧ IsPair h (n0 + 2) (.ref n0) (.ref (n0 + 1)) ∧ (∃ a b, IsPair h (n0 + 3) a b) ∧ h.IsListIter n0 l1 (i + 1) ∧ h.IsListIter (n0 + 1) l2 (i + 1) ∧ h.IsList l1 xs ∧ h.IsList l2 ys ∧
  T ≠ n0 + 4 ∧ T ≠ n0 + 3 ∧ T ≠ n0 ∧ T ≠ n0 + 1
def zFp (n0 l1 l2 : Addr) : List Addr := [n0 + 4, n0 + 2, n0 + 3, n0, n0 + 1, l1, l2]
def zWr (n0 : Addr) : List Addr := [n0 + 4, n0 + 3, n0, n0 + 1]
theorem z_walk {A : Around} (hh : A.handled = none) (n0 l1 l2 : Addr) (D : ZipApart (n0 + 4) (n0 + 2) (n0 + 3) n0 (n0 + 1) l1 l2) (xs ys : Array Value) :
    WalksT prog w A (n0 + 4) (zFp n0 l1 l2) (zWr n0) (min xs.size ys.size) (ZPt xs ys) (ZSt n0 l1 l2 xs ys) (ZMid n0 l1 l2 xs ys) := WalksT.zip2 hh _ _ _ _ _ _ _ D xs ys
inductive ZInv (prog : Program) (w : World) (base : Heap) (c' : Act) (fa : List Addr) (hp0 : HP) (s1 : Shared) (n0 l1 l2 : Addr) (ws1 ws2 : Array Value) (p : AV → AV → Bool) (m : Nat) (s' : Shared) : Prop
  | mk (k : Nat) (oa ob : Option AV) (zs : Array Value) (nn : Nat) (em : m = min ws1.size ws2.size + 1 - k) (hk : k ≤ min ws1.size ws2.size) (S : SR prog w base c' ⟨[oa, ob], hp0⟩ s') (st : Step c'.priv fa hp0 s1 hp0 s') (hst : ZSt n0 l1 l2 ws1 ws2 k s'.heap)
    (hD : IsL s'.heap (n0 + 5) zs nn) (hz : zs.size ≤ k) (hzs : zs.toList.map ab = ((((ws1.toList.map ab).zip (ws2.toList.map ab)).take k).filter fun q => p q.1 q.2).map fun _ => .int 1)

theorem T_compZ {elt e1 e2 : PySem.Expr} {ifs : List PySem.Expr} {zid : Str} {px py tp zp cpos pos : Pos} {kt : Nat} (Z : ZipSc sc sc' x y) {g : PT (List AV)} {t : PT Bool} {e : PT AV} (hz : TE prog w base C sc vars n (.Name zid zp) (vVal (ab (.type "zip")))) (hg : TL prog w base C sc vars n [e1, e2] g)
    (ht : TI prog w base C (relabelS sc' sc) [x, y] n ifs t) (he : TE prog w base C (relabelS sc' sc) [x, y] n elt e)
    (hs1 : ∀ env, starEach [e1, e2] env = (false, eval e1 env) :: starEach [e2] env := by intro _; rfl) (hp1 : ∀ env, (backTo cpos (starEach [e2] env)).any (·.1) = false := by intro _; rfl)
    (hs : ∀ env v, foldedSetIterable (.Call (.Name zid zp) [e1, e2] [] cpos) env v = pure v := by intro _ _; rfl)
    (ha : ∀ env, assignEach [.Name x px, .Name y py] env = [(false, assign (.Name x px) env), (false, assign (.Name y py) env)] := by intro _; rfl) :
    TE prog w base C sc vars n (.ListComp elt [⟨.Tuple [.Name x px, .Name y py] kt tp, .Call (.Name zid zp) [e1, e2] [] cpos, ifs, 0⟩] sc' pos) (vCompZ g t e) := by
  intro c σ s Q E ok S q
  have H := Z.H.anyVars (vars := vars) (capt := [])
  dsimp only
  rw [eval_ListComp]
  refine wpAny_comprehension_free (use := none) rfl (hs _) (closure_eq (comp_frees ok S H)) H.kind (fun p hp hl => (H.names p hp).2.2 hl) ?_
  refine wpAny_Call_Name_kw (wpAny_mono (hz c σ s (fun a σ' => a = ab (.type "zip") ∧ σ' = σ) (fun _ => False) ok S ⟨rfl, rfl⟩) (fun v s0 h0 => ?_) fun _ _ ⟨_, _, _, _, x⟩ => x.elim)
  obtain ⟨σ0, st0, S0, e0, e0'⟩ := h0
  subst e0'
  obtain rfl := told_type "zip" v e0
  show wpAny (model prog w) c.A (callWith cpos _ [] (backTo cpos (starEach [e1, e2] c.env)) []) _ _ s0
  refine PyProof.Rows.callWith_type1 (wp_then (hg cpos c σ0 s0 _ E ok S0 q) (fun vs σ1 s1 st1 S1 q1 => ?_) fun _ _ x => lx_trans st0 x) (hs1 _) (hp1 _)
  obtain ⟨l1, l2, xs, ys, p, ev, hl1, hl2, hlen, hp, hel, hq⟩ := q1
  obtain ⟨u1, u2, rfl, ea, eb⟩ := two (P := fun a b => a = .ref l1 ∧ b = .ref l2) ⟨_, _, ev, rfl, rfl⟩
  obtain rfl := ab_ref ea
  obtain rfl := ab_ref eb
  have st01 := st0.trans st1
  obtain ⟨ws1, hw1, rfl⟩ := S1.cr.hr _ _ hl1
  obtain ⟨ws2, hw2, rfl⟩ := S1.cr.hr _ _ hl2
  -- the two lists are not looked at meanwhile
  obtain ⟨hp0, hhp0⟩ : ∃ hp0 : HP, hp0 = fun a => if a = l1 ∨ a = l2 then none else σ1.hp a := ⟨_, rfl⟩
  have hp0s : ∀ a o, hp0 a = some o → σ1.hp a = some o := fun a o ea => by
    rw [hhp0] at ea; dsimp only at ea
    split at ea
    · cases ea
    · exact ea
  have hp0n : ∀ a, σ1.hp a = none → hp0 a = none := fun a ea => by
    rw [hhp0]; dsimp only
    split
    · rfl
    · exact ea
  have F0 : SR prog w base c ⟨σ1.loc, hp0⟩ s1 := SR.forget (hp := σ1.hp) S1.eta hp0s
  refine call_zip_2 hw1.isList hw2.isList fun h5 hz5 hTI5 hTO5 hi15 hi25 hsz5 hk5 => ?_
  refine wpAny_pyIter_zip hz5 ?_
  refine wpAny_newList ?_ (by decide)
  refine wpAny_newFunctionEnv (fun p hp => (H.names p hp).1) (fun p hp => nomatch hp) (fun h' hm hsb => ?_) H.kind
  dsimp only at hm hsb ⊢
  obtain ⟨n0, hn0⟩ : ∃ n0, n0 = s1.heap.objs.size := ⟨_, rfl⟩
  rw [← hn0] at hz5 hTI5 hTO5 hi15 hi25 hsz5 ⊢
  have e2' : (h5.push { cls := .type "list", data := .seq ([] : List Value).toArray }).objs.size = n0 + 6 := by rw [Heap.size_push, hsz5]
  rw [e2'] at hm hsb ⊢
  rw [hsz5]
  have lt1 : ∀ {b o}, s1.heap.get? b = some o → b < n0 := fun e => hn0 ▸ Heap.lt_size e
  have fr : ∀ k, s1.heap.get? (n0 + k) = none := fun k => none_of_le (hn0 ▸ Nat.le_add_right _ _)
  have hl1n : l1 < n0 := by obtain ⟨_, ho⟩ := hw1; exact lt1 ho
  have hl2n : l2 < n0 := by obtain ⟨_, ho⟩ := hw2; exact lt1 ho
  have hCn := fr 6
  have keep6 : ∀ b o, h5.get? b = some o → b ≠ n0 + 6 → h'.get? b = some o := fun b o e hb => (hsb.2 b hb).trans (Heap.get?_push_of_some _ (Heap.get?_push_of_some _ e))
  have keep : ∀ b o, s1.heap.get? b = some o → h'.get? b = some o := fun b o e => keep6 b o (hk5 b o e) (Nat.ne_of_lt (Nat.lt_of_lt_of_le (lt1 e) (Nat.le_add_right _ _)))
  have ne6 : ∀ k, k < 6 → n0 + k ≠ n0 + 6 := fun k hk => Nat.ne_of_lt (Nat.add_lt_add_left hk n0)
  have D : ZipApart (n0 + 4) (n0 + 2) (n0 + 3) n0 (n0 + 1) l1 l2 := zipApart_new hl1n hl2n
  have W := z_walk (prog := prog) (w := w) ok.handled n0 l1 l2 D ws1 ws2
  have hst4 : ZSt n0 l1 l2 ws1 ws2 0 h' :=
    ⟨keep6 _ _ hz5 (ne6 4 (by decide)), keep6 _ _ hTI5 (ne6 2 (by decide)), ⟨_, _, keep6 _ _ hTO5 (ne6 3 (by decide))⟩, hi15.at fun o e => keep6 _ o e (ne6 0 (by decide)), hi25.at fun o e => keep6 _ o e (ne6 1 (by decide)), Heap.IsList.at hw1.isList fun o e => keep _ o e, Heap.IsList.at hw2.isList fun o e => keep _ o e⟩
  have hD4 : IsL h' (n0 + 5) #[] 0 := by
    refine (hsb.2 (n0 + 5) (ne6 5 (by decide))).trans ?_
    have := Heap.get?_push_size h5 (o := { cls := .type "list", data := .seq ([] : List Value).toArray }) rfl
    rw [hsz5] at this; exact Heap.get?_push_of_some _ this
  have ok' := zip_ok ok F0 Z hCn
  have S4 : SR prog w base (zipAct c sc' (n0 + 6) x y) ⟨[none, none], hp0⟩ { s1 with heap := h', toks := s1.toks + ([] : List (Str × Value)).length } := zip_enter ok F0 Z hCn hm rfl rfl keep
  have st4 : Step (zipAct c sc' (n0 + 6) x y).priv (fas c.fr) hp0 s1 hp0 { s1 with heap := h', toks := s1.toks + ([] : List (Str × Value)).length } :=
    ⟨fun b o e hn _ => ⟨⟨o.slots, keep b o e⟩, fun _ => keep b o e, hn⟩, rfl, rfl, rfl⟩
  have loose : ∀ k, k < 6 → Loose base (zipAct c sc' (n0 + 6) x y) hp0 (n0 + k) := fun k hk => by
    have l := F0.loose (fr k)
    exact ⟨l.unknown, fun h => (comp_priv ok F0 H h).elim (ne6 k hk) fun z => l.priv z.1, l.fa, l.base⟩
  have wrL : ∀ b ∈ zWr n0, Loose base (zipAct c sc' (n0 + 6) x y) hp0 b ∧ s1.heap.get? b = none := fun b hb => by
    unfold zWr at hb
    simp only [List.mem_cons, List.not_mem_nil, or_false] at hb
    rcases hb with rfl | rfl | rfl | rfl
    · exact ⟨loose 4 (by decide), fr 4⟩
    · exact ⟨loose 3 (by decide), fr 3⟩
    · exact ⟨loose 0 (by decide), fr 0⟩
    · exact ⟨loose 1 (by decide), fr 1⟩
  have lu : ∀ a, σ1.hp a ≠ none → (a = l1 ∨ a = l2) → hp0 a = none ∧ a ∉ (zipAct c sc' (n0 + 6) x y).priv ∧ a ∉ fas c.fr := fun a ha hal => by
    refine ⟨by rw [hhp0]; dsimp only; rw [if_pos hal], fun h => ?_, fun h => ha (S1.cr.frm a h)⟩
    rcases comp_priv ok F0 H h with h | ⟨h, _⟩
    · rcases hal with rfl | rfl
      · exact absurd h (Nat.ne_of_lt (Nat.lt_of_lt_of_le hl1n (Nat.le_add_right _ _)))
      · exact absurd h (Nat.ne_of_lt (Nat.lt_of_lt_of_le hl2n (Nat.le_add_right _ _)))
    · exact ha (S1.priv a h)
  have fpL : ∀ b ∈ zFp n0 l1 l2, hp0 b = none ∧ b ∉ (zipAct c sc' (n0 + 6) x y).priv ∧ b ∉ fas c.fr := fun b hb => by
    unfold zFp at hb
    simp only [List.mem_cons, List.not_mem_nil, or_false] at hb
    have lo : ∀ k, k < 6 → hp0 (n0 + k) = none ∧ (n0 + k) ∉ (zipAct c sc' (n0 + 6) x y).priv ∧ (n0 + k) ∉ fas c.fr := fun k hk => ⟨(loose k hk).unknown, (loose k hk).priv, (loose k hk).fa⟩
    rcases hb with rfl | rfl | rfl | rfl | rfl | rfl | rfl
    · exact lo 4 (by decide)
    · exact lo 2 (by decide)
    · exact lo 3 (by decide)
    · exact lo 0 (by decide)
    · exact lo 1 (by decide)
    · exact lu _ (by rw [hl1]; simp) (.inl rfl)
    · exact lu _ (by rw [hl2]; simp) (.inr rfl)
  have fpk : ∀ {sa sb : Shared}, Step (zipAct c sc' (n0 + 6) x y).priv (fas c.fr) hp0 sa hp0 sb → ∀ b ∈ zFp n0 l1 l2, ∀ o, sa.heap.get? b = some o → sb.heap.get? b = some o := fun st b hb o e =>
    (st.keep b o e (fpL b hb).1 (fpL b hb).2.1).2.1 (fpL b hb).2.2
  have hx : At [x, y] 0 x := .z
  have hy : At [x, y] 1 y := .s .z
  have fx : (relabelS sc' sc).names.lookup x ≠ some .free := by
    have h1 := zip_kindX ok Z (Cc := n0 + 6)
    unfold Env.kindOf at h1; rw [ok'.scE] at h1; rw [h1]; decide
  have fy : (relabelS sc' sc).names.lookup y ≠ some .free := by
    have h1 := zip_kindY ok Z (Cc := n0 + 6)
    unfold Env.kindOf at h1; rw [ok'.scE] at h1; rw [h1]; decide
  have nD : (n0 + 5) ∉ zWr n0 := by unfold zWr; simp
  show codeAny (model prog w) c.A (.compStart _ 0 _ _ (zipAct c sc' (n0 + 6) x y).env) _ _
  have loop : codeAny (model prog w) c.A (.compLoop (.ListComp elt [⟨.Tuple [.Name x px, .Name y py] kt tp, .Call (.Name zid zp) [e1, e2] [] cpos, ifs, 0⟩] sc' pos) 0 (.ref (n0 + 4)) (.ref (n0 + 5)) (zipAct c sc' (n0 + 6) x y).env)
      (compPost (model prog w) c.A (Lx prog w base C c σ0 s E) none (fun v s' => Lf prog w base c σ0 s (fun v σ' => Q (ab v) σ') v s') (.ref (n0 + 5)) (n0 + 6)) { s1 with heap := h', toks := s1.toks + ([] : List (Str × Value)).length } := by
    refine pair_loop (ZInv prog w base (zipAct c sc' (n0 + 6) x y) (fas c.fr) hp0 s1 n0 l1 l2 ws1 ws2 p) (fun m s' hI => ?_) (min ws1.size ws2.size + 1)
      ⟨0, none, none, #[], 0, rfl, Nat.zero_le _, S4, st4, hst4, hD4, Nat.le_refl _, by simp⟩
    obtain ⟨k, oa, ob, zs, nn, rfl, hk, S', st', hst, hD, hzk, hzs⟩ := hI
    rcases Nat.lt_or_ge k (min ws1.size ws2.size) with hlt | hge
    · refine W.item k s' _ _ hlt hst fun T vals h1 tk hPt hTn hT hMid hk1 => ?_
      have S1' := S'.butL (W := zWr n0) (fun b hb => (wrL b hb).1) (h' := h1) (t := tk) fun b o hb e => hk1 b o hb e
      have st1' := st'.butL (W := zWr n0) (fun b hb => (wrL b hb).2) (h' := h1) (t := tk) fun b o hb e => hk1 b o hb e
      have hD1 : IsL h1 (n0 + 5) zs nn := hk1 _ _ nD hD
      refine W.go _ _ _ k T _ _ _ hMid fun h2 hst2 hk2 => ?_
      have S2' := S1'.butL (W := zWr n0) (fun b hb => (wrL b hb).1) (h' := h2) (t := tk) fun b o hb e => hk2 b o hb e
      have st2' := st1'.butL (W := zWr n0) (fun b hb => (wrL b hb).2) (h' := h2) (t := tk) fun b o hb e => hk2 b o hb e
      have hD2 : IsL h2 (n0 + 5) zs nn := hk2 _ _ nD hD1
      obtain ⟨va, vb, hva, hvb, rfl⟩ := hPt
      obtain ⟨oT, hoT, rT⟩ := hT
      have hT2 : IsTup h2 T #[va, vb] := ⟨oT, hk2 _ _ (W.apart _ _ _ hMid) hoT, rT⟩
      refine assign_Tuple_tuple ok'.handled hT2 (by rw [ha]; rfl) (by rw [ha]; rfl) fun h3 he3 => ?_
      rw [ha]
      have he3' : ∀ b o, h2.get? b = some o → h3.get? b = some o := fun b o e => he3 b o (Nat.ne_of_lt (Heap.lt_size e)) e
      obtain ⟨S3', st3'⟩ := S2'.grown (t := tk) (h' := h3) he3'
      refine assignInOrder_cons (wpAny_assign_Name (wpAny_mono (wp_store ok' S3' hx fx) (fun _ s4 h4 => ?_) fun _ _ x => x))
      obtain ⟨st4', S4'⟩ := h4
      refine assignInOrder_cons (wpAny_assign_Name (wpAny_mono (wp_store ok' S4' hy fy) (fun _ s5 h5' => ?_) fun _ _ x => x))
      obtain ⟨st5', S5'⟩ := h5'
      refine assignInOrder_nil ?_
      have S5 : SR prog w base (zipAct c sc' (n0 + 6) x y) ⟨[some (ab va), some (ab vb)], hp0⟩ s5 := S5'
      have st35 := (st3'.trans st4').trans st5'
      have st5 := (st2'.trans st3').trans (st4'.trans st5')
      have hst5 := W.frame _ _ _ hst2 (fpk (sa := { s' with heap := h2, toks := tk }) st35)
      have hD5 : IsL s5.heap (n0 + 5) zs nn := (st35.same (c := zipAct c sc' (n0 + 6) x y) (loose 5 (by decide)) hD2).1
      have ha1 : (ws1.toList.map ab)[k]? = some (ab va) := by rw [List.getElem?_map, Array.getElem?_toList, hva]; rfl
      have hb1 : (ws2.toList.map ab)[k]? = some (ab vb) := by rw [List.getElem?_map, Array.getElem?_toList, hvb]; rfl
      have hmem : (ab va, ab vb) ∈ (ws1.toList.map ab).zip (ws2.toList.map ab) := List.mem_of_getElem? (List.getElem?_zip_eq_some.mpr ⟨ha1, hb1⟩)
      refine wpAny_mono (ht _ ⟨[some (ab va), some (ab vb)], hp0⟩ s5 _ _ ok' S5 (hp _ _ hp0 hmem)) (fun r s6 h6 => ?_) fun _ _ ⟨_, _, _, _, x⟩ => x.elim
      obtain ⟨σ6, st6, S6, rfl, hr⟩ := h6
      change r = p (ab va) (ab vb) at hr
      have hst6 := W.frame _ _ _ hst5 (fpk st6)
      have hD6 : IsL s6.heap (n0 + 5) zs nn := (st6.same (c := zipAct c sc' (n0 + 6) x y) (loose 5 (by decide)) hD5).1
      have z1 := zip_step ha1 hb1 p (fun _ => AV.int 1)
      rw [← hr, ← hzs] at z1
      cases r with
      | false =>
        rw [if_neg (by decide)]
        rw [if_neg (by decide), List.append_nil] at z1
        exact ⟨_, by omega, k + 1, some (ab va), some (ab vb), zs, nn, rfl, hlt, S6, st5.trans st6, hst6, hD6, Nat.le_succ_of_le hzk, z1.symm⟩
      | true =>
        rw [if_pos rfl]
        rw [if_pos rfl] at z1
        refine wpAny_mono (he _ ⟨[some (ab va), some (ab vb)], hp0⟩ s6 _ _ ok' S6 (hel _ _ hp0)) (fun z s7 h7 => ?_) fun _ _ ⟨_, _, _, _, x⟩ => x.elim
        obtain ⟨σ7, st7, S7, rfl, hz7⟩ := h7
        have hst7 := W.frame _ _ _ hst6 (fpk st7)
        have hD7 : IsL s7.heap (n0 + 5) zs nn := (st7.same (c := zipAct c sc' (n0 + 6) x y) (loose 5 (by decide)) hD6).1
        have hzl : zs.size ≤ sizeLine := by
          have : ws1.size ≤ 1000 := by simpa using hlen
          exact Nat.le_trans (Nat.le_trans hzk (Nat.le_trans hk (Nat.le_trans (Nat.min_le_left _ _) this))) (by decide)
        refine call_meets PySem.F.slot_list_append ⟨_, hD7, rfl⟩ PySem.F.entry_list_append (PySem.F.args_list_append_2 _ _) (PySem.list_append _ zs nn z hzl) ⟨hD7, ?_⟩
        have kD : ∀ b o, s7.heap.get? b = some o → b ≠ n0 + 5 → (s7.heap.update (n0 + 5) (Obj.mapSeq fun x_1 => x_1.push z)).get? b = some o := fun b o e h => (Heap.get?_update_other _ _ (Ne.symm h)).trans e
        obtain ⟨nn', hD9⟩ := isL_upd hD7 (fun x_1 => x_1.push z)
        refine ⟨_, by omega, k + 1, some (ab va), some (ab vb), _, nn', rfl, hlt, S7.but (loose 5 (by decide)) (t := s7.toks) kD, ((st5.trans st6).trans st7).but (fr 5) (t := s7.toks) kD, W.frame _ _ _ hst7 (fun b hb o e => kD b o e ?_), hD9, by rw [Array.size_push]; omega, ?_⟩
        · unfold zFp at hb
          simp only [List.mem_cons, List.not_mem_nil, or_false] at hb
          rcases hb with rfl | rfl | rfl | rfl | rfl | rfl | rfl
          · exact Nat.ne_of_lt (Nat.add_lt_add_left (by decide) n0)
          · exact Nat.ne_of_lt (Nat.add_lt_add_left (by decide) n0)
          · exact Nat.ne_of_lt (Nat.add_lt_add_left (by decide) n0)
          · exact Nat.ne_of_lt (Nat.lt_add_of_pos_right (by decide))
          · exact Nat.ne_of_lt (Nat.add_lt_add_left (by decide) n0)
          · exact Nat.ne_of_lt (Nat.lt_of_lt_of_le hl1n (Nat.le_add_right _ _))
          · exact Nat.ne_of_lt (Nat.lt_of_lt_of_le hl2n (Nat.le_add_right _ _))
        · rw [z1, ← hz7, Array.toList_push, List.map_append]; rfl
    · obtain rfl : k = min ws1.size ws2.size := Nat.le_antisymm hk hge
      refine W.done s' _ _ hst fun h2 tk hk2 => ?_
      have S5 := S'.butL (W := zWr n0) (fun b hb => (wrL b hb).1) (h' := h2) (t := tk) fun b o hb e => hk2 b o hb e
      have st5 := st'.butL (W := zWr n0) (fun b hb => (wrL b hb).2) (h' := h2) (t := tk) fun b o hb e => hk2 b o hb e
      have hD2 : IsL h2 (n0 + 5) zs nn := hk2 _ _ nD hD
      obtain ⟨S6, st6⟩ := zip_back ok F0 Z hCn st5 S5
      have kl : ∀ a, (a = l1 ∨ a = l2) → ∀ o, s1.heap.get? a = some o → h2.get? a = some o := fun a hal o e =>
        fpk (sa := s1) st5 a (by unfold zFp; rcases hal with rfl | rfl <;> simp) o e
      have S7 : SR prog w base c ⟨σ1.loc, σ1.hp⟩ { s' with heap := h2, toks := tk } := S6.knowAll S1.eta fun a o ea => by
        by_cases qa : a = l1 ∨ a = l2
        · exact .inr ((S1.cr.hr a o ea).at (kl a qa))
        · exact .inl (by rw [hhp0]; dsimp only; rw [if_neg qa]; exact ea)
      have st7 : Step c.priv (fas c.fr) σ1.hp s1 σ1.hp { s' with heap := h2, toks := tk } := ⟨fun b o e hn hp => ⟨(st6.keep b o e (hp0n b hn) hp).1, (st6.keep b o e (hp0n b hn) hp).2.1, hn⟩, st6.gens, st6.drawn, st6.os⟩
      obtain ⟨mC, hmC, _⟩ := S5.loc
      have lC := S1.loose hCn
      have lD := S1.loose (fr 5)
      refine ⟨mC, hmC, fun h9 hsb9 => ?_⟩
      have k9 : ∀ b o, h2.get? b = some o → b ≠ n0 + 6 → h9.get? b = some o := fun b o e h => (hsb9.2 b h).trans e
      have S8 := S7.but lC (t := tk) k9
      have st8 := st7.but hCn (t := tk) k9
      have hfull : zs.toList.map ab = (((ws1.toList.map ab).zip (ws2.toList.map ab)).filter fun q => p q.1 q.2).map fun _ => .int 1 := by
        rw [hzs, List.take_of_length_le (by simp)]
      exact ⟨⟨σ1.loc, upd σ1.hp (n0 + 5) (.list (zs.toList.map ab))⟩, st01.trans (st8.know (fr 5)), S8.know lD (x := .list (zs.toList.map ab)) ⟨zs, ⟨nn, k9 _ _ hD2 (ne6 5 (by decide))⟩, rfl⟩, by rw [hfull]; exact hq _ lD.unknown⟩
  exact codeAny_compStart_list loop (wpAny_pyIter_zip hst4.1 loop)
end
end Mine

end

section
open PySem PySem.W PyProof.Rows PySem.Calls
set_option Elab.async false
set_option maxRecDepth 100000
set_option linter.unusedVariables false
namespace Mine

/-- the top, as far as the walk asks it -/
structure TopOK (prog : Program) (w : World) (base : Heap) (mg mb : Str → Option Value) : Prop extends GC prog w (KK w.params) base mg mb where
  low : base.get? sysModules ≠ none

theorem G_str {prog : Program} {w : World} {base : Heap} : TypeSat prog w base "str" (fun a _ => ∃ x, a = .str x) := by
  intro c σ s v S ⟨x, e⟩
  obtain ⟨t, rfl⟩ := ab_str e
  exact ⟨by unfold Shared.TypeIs; rfl, fun a e => by cases e⟩
theorem ty_join : typeOf (.builtin "str.join") = pure (.type "method_descriptor") := by show builtinType _ = _; rw [builtinType_eq_fast]; kernel_rfl
theorem ty_get : typeOf (.builtin "dict.get") = pure (.type "method_descriptor") := by show builtinType _ = _; rw [builtinType_eq_fast]; kernel_rfl
theorem ty_append : typeOf (.builtin "list.append") = pure (.type "method_descriptor") := by show builtinType _ = _; rw [builtinType_eq_fast]; kernel_rfl
theorem ty_insert : typeOf (.builtin "list.insert") = pure (.type "method_descriptor") := by show builtinType _ = _; rw [builtinType_eq_fast]; kernel_rfl
theorem ty_remove : typeOf (.builtin "list.remove") = pure (.type "method_descriptor") := by show builtinType _ = _; rw [builtinType_eq_fast]; kernel_rfl
theorem ty_pop : typeOf (.builtin "list.pop") = pure (.type "method_descriptor") := by show builtinType _ = _; rw [builtinType_eq_fast]; kernel_rfl

theorem attr_row {P : Params} (x : Str) (h : findIn (KK P) (.ref 93) x = some none) : AttrOK (KK P) 93 x := ⟨by rfl, by rfl, none, h, rfl⟩
theorem attr_rows (P : Params) : AttrOK (KK P) 282 "rows" := ⟨by rfl, by rfl, none, by rfl, rfl⟩
theorem attr_kind (P : Params) : AttrOK (KK P) 93 "kind" := attr_row _ (by rfl)
theorem attr_name (P : Params) : AttrOK (KK P) 93 "name" := attr_row _ (by rfl)
theorem attr_uri (P : Params) : AttrOK (KK P) 93 "uri" := attr_row _ (by rfl)
theorem attr_local (P : Params) : AttrOK (KK P) 93 "local" := attr_row _ (by rfl)
theorem attr_value (P : Params) : AttrOK (KK P) 93 "value" := attr_row _ (by rfl)
theorem attr_parent (P : Params) : AttrOK (KK P) 93 "parent" := attr_row _ (by rfl)
theorem attr_children (P : Params) : AttrOK (KK P) 93 "children" := attr_row _ (by rfl)
theorem attr_attributes (P : Params) : AttrOK (KK P) 93 "attributes" := attr_row _ (by rfl)
theorem attr_namespaces (P : Params) : AttrOK (KK P) 93 "namespaces" := attr_row _ (by rfl)
theorem set_row {P : Params} (x : Str) (h : takerIn (KK P) 93 x = some none) : SetOK (KK P) 93 x := ⟨by rfl, by rfl, h, by rfl⟩
theorem set_rows (P : Params) : SetOK (KK P) 282 "rows" := ⟨by rfl, by rfl, by rfl, by rfl⟩
theorem set_kind (P : Params) : SetOK (KK P) 93 "kind" := set_row _ (by rfl)
theorem set_name (P : Params) : SetOK (KK P) 93 "name" := set_row _ (by rfl)
theorem set_uri (P : Params) : SetOK (KK P) 93 "uri" := set_row _ (by rfl)
theorem set_local (P : Params) : SetOK (KK P) 93 "local" := set_row _ (by rfl)
theorem set_value (P : Params) : SetOK (KK P) 93 "value" := set_row _ (by rfl)
theorem set_parent (P : Params) : SetOK (KK P) 93 "parent" := set_row _ (by rfl)
theorem set_children (P : Params) : SetOK (KK P) 93 "children" := set_row _ (by rfl)
theorem set_attributes (P : Params) : SetOK (KK P) 93 "attributes" := set_row _ (by rfl)
theorem set_namespaces (P : Params) : SetOK (KK P) 93 "namespaces" := set_row _ (by rfl)
theorem excK (P : Params) : ExcK (KK P) 51 35 :=
  ⟨⟨_, _, _, _, _, _, _, _, _, _, _, _, _, _, _, rfl, by decide +kernel, by decide +kernel, by decide +kernel, by decide +kernel, fun self => by
    rw [refuseLoop_ref, refuseLoop_ref]; exact PySem.F.store_Exception.passes self⟩, by rfl, by rfl, by rfl, by rfl, by rfl⟩
theorem tup_PARENTS {prog : Program} {w : World} {base : Heap} {mg mb : Str → Option Value} (G : GC prog w (KK w.params) base mg mb) : IsTup base 75 #[.str "root" 280, .str "element" 281] := ⟨_, G.X 75 _ (by rfl), rfl, _, rfl⟩
theorem tup_CHILDREN {prog : Program} {w : World} {base : Heap} {mg mb : Str → Option Value} (G : GC prog w (KK w.params) base mg mb) : IsTup base 76 #[.str "element" 283, .str "text" 284, .str "comment" 285, .str "instruction" 286] := ⟨_, G.X 76 _ (by rfl), rfl, _, rfl⟩
end Mine

end

section
open PySem PySem.W PyProof.Rows PySem.Calls
set_option Elab.async false
set_option maxRecDepth 100000
set_option linter.unusedVariables false
namespace Mine

theorem upd_fresh {hp : HP} {a b : Addr} {o : AObj} (h : upd hp a o b = none) : b ≠ a ∧ hp b = none := by
  have : b ≠ a := fun e => by rw [e, upd_self] at h; cases h
  exact ⟨this, by rw [upd_other this] at h; exact h⟩
/-- whose an address is -/
inductive Tg where
  | no | x | d | rl | ld | sl | r (i : Nat) | rd (i : Nat) | rc (i : Nat) | ra (i : Nat) | rn (i : Nat) | ll (k : Nat)
  deriving DecidableEq
/-- a row of the tree -/
structure Rw where
  r : Addr
  d : Addr
  c : Addr
  a : Addr
  n : Addr
  kind : Str
  name : Str
  uri : Str
  loc : Str
  val : Str
  par : Option Nat
  ch : List Nat
/-- the world of the law: the tree, the lists, the source -/
structure Wd where
  x : Addr
  d : Addr
  rl : Addr
  ld : Addr
  sl : Addr
  ep : Nat
  rows : List Rw
  ls : List (Addr × List Nat)
  s0 : Int
  s1 : Int
  tag : Addr → Tg

abbrev nt (i : Nat) : AV := .int (i : Int)
abbrev parV : Option Nat → AV
  | none => .none
  | some p => nt p
def Rw.fs (q : Rw) : List (Str × AV) := [("kind", .str q.kind), ("name", .str q.name), ("uri", .str q.uri), ("local", .str q.loc), ("value", .str q.val), ("parent", parV q.par), ("children", .ref q.c), ("attributes", .ref q.a), ("namespaces", .ref q.n)]
def lsFrom : Nat → List (Addr × List Nat) → List (Int × AV)
  | _, [] => []
  | k, e :: r => ((k : Int), .ref e.1) :: lsFrom (k + 1) r
theorem lsFrom_length : ∀ (l : List (Addr × List Nat)) (k : Nat), (lsFrom k l).length = l.length
  | [], _ => rfl
  | e :: r, k => by simp [lsFrom, lsFrom_length r (k + 1)]
theorem lsFrom_keys : ∀ (l : List (Addr × List Nat)) (k : Nat), (lsFrom k l).map (·.1) = (List.range' k l.length).map fun i : Nat => (i : Int)
  | [], _ => rfl
  | e :: r, k => by simp [lsFrom, lsFrom_keys r (k + 1), List.range'_succ]
theorem lsFrom_get : ∀ (l : List (Addr × List Nat)) (k i : Nat) (e : Addr × List Nat), l[i]? = some e → aGet (lsFrom k l) ((k + i : Nat) : Int) = some (.ref e.1)
  | e :: r, k, 0, e', h => by
    simp at h; subst h
    simp [lsFrom, aGet, List.find?_cons]
  | e :: r, k, i + 1, e', h => by
    have h' : r[i]? = some e' := by simpa using h
    have := lsFrom_get r (k + 1) i e' h'
    have e1 : (k + 1 + i : Nat) = k + (i + 1) := by omega
    rw [e1] at this
    unfold aGet at this ⊢
    have hne : decide ((k : Int) = ((k + (i + 1) : Nat) : Int)) = false := by simp; omega
    rw [lsFrom, List.find?_cons, hne]
    exact this
theorem lsFrom_put (l : List (Addr × List Nat)) (a : Addr) : aPut (lsFrom 0 l) (l.length : Int) (.ref a) = lsFrom 0 (l ++ [(a, [])]) := by
  have h : ∀ (l : List (Addr × List Nat)) (k : Nat), lsFrom k (l ++ [(a, [])]) = lsFrom k l ++ [(((k + l.length : Nat) : Int), .ref a)] := by
    intro l
    induction l with
    | nil => intro k; simp [lsFrom]
    | cons e r ih => intro k; simp only [List.cons_append, lsFrom, ih, List.length_cons]; rw [show k + 1 + r.length = k + (r.length + 1) by omega]
  unfold aPut
  rw [h l 0, Nat.zero_add, if_neg]
  rw [Bool.not_eq_true, List.any_eq_false]
  intro p hp
  have hk : p.1 ∈ (lsFrom 0 l).map (·.1) := List.mem_map.mpr ⟨p, hp, rfl⟩
  rw [lsFrom_keys] at hk
  obtain ⟨i, hi, e⟩ := List.mem_map.mp hk
  rw [List.mem_range'_1] at hi
  rw [← e]; simp; omega

structure RowAt (tag : Addr → Tg) (i : Nat) (q : Rw) (hp : HP) : Prop where
  r : hp q.r = some (.inst 93 q.d)
  d : hp q.d = some (.attrs q.fs)
  c : hp q.c = some (.list (q.ch.map nt))
  a : hp q.a = some (.list [])
  n : hp q.n = some (.list [])
  tr : tag q.r = .r i
  td : tag q.d = .rd i
  tc : tag q.c = .rc i
  ta : tag q.a = .ra i
  tn : tag q.n = .rn i
structure St (W : Wd) (hp : HP) : Prop where
  x : hp W.x = some (.inst 282 W.d)
  d : hp W.d = some (.attrs [("rows", .ref W.rl)])
  rl : hp W.rl = some (.list (W.rows.map fun q => .ref q.r))
  ld : hp W.ld = some (.idict W.ep (lsFrom 0 W.ls))
  sl : hp W.sl = some (.list [.int W.s0, .int W.s1])
  tx : W.tag W.x = .x
  td : W.tag W.d = .d
  trl : W.tag W.rl = .rl
  tld : W.tag W.ld = .ld
  tsl : W.tag W.sl = .sl
  row : ∀ i q, W.rows[i]? = some q → RowAt W.tag i q hp
  lst : ∀ k e, W.ls[k]? = some e → hp e.1 = some (.list (e.2.map nt)) ∧ W.tag e.1 = .ll k
  fresh : ∀ b, hp b = none → W.tag b = .no
/-- what stays -/
structure Fw (W : Wd) (hp : HP) (W' : Wd) (hp' : HP) : Prop where
  keep : ∀ a o, hp a = some o → W.tag a = .no → hp' a = some o ∧ W'.tag a = .no
  ex : W'.x = W.x
  eld : W'.ld = W.ld
  esl : W'.sl = W.sl
  dom : ∀ a, hp' a = none → hp a = none
theorem Fw.refl (W : Wd) (hp : HP) : Fw W hp W hp := ⟨fun _ _ h t => ⟨h, t⟩, rfl, rfl, rfl, fun _ h => h⟩
theorem Fw.trans {W W1 W2 : Wd} {hp hp1 hp2 : HP} (x : Fw W hp W1 hp1) (y : Fw W1 hp1 W2 hp2) : Fw W hp W2 hp2 :=
  ⟨fun a o h t => y.keep a o (x.keep a o h t).1 (x.keep a o h t).2, y.ex.trans x.ex, y.eld.trans x.eld, y.esl.trans x.esl, fun a h => x.dom a (y.dom a h)⟩

theorem RowAt.other {tag : Addr → Tg} {i : Nat} {q : Rw} {hp : HP} (h : RowAt tag i q hp) {b : Addr} {o : AObj} (t1 : tag b ≠ .r i) (t2 : tag b ≠ .rd i) (t3 : tag b ≠ .rc i) (t4 : tag b ≠ .ra i) (t5 : tag b ≠ .rn i) : RowAt tag i q (upd hp b o) := by
  refine ⟨?_, ?_, ?_, ?_, ?_, h.tr, h.td, h.tc, h.ta, h.tn⟩
  · rw [upd_other fun e => t1 (by rw [← e]; exact h.tr)]; exact h.r
  · rw [upd_other fun e => t2 (by rw [← e]; exact h.td)]; exact h.d
  · rw [upd_other fun e => t3 (by rw [← e]; exact h.tc)]; exact h.c
  · rw [upd_other fun e => t4 (by rw [← e]; exact h.ta)]; exact h.a
  · rw [upd_other fun e => t5 (by rw [← e]; exact h.tn)]; exact h.n
/-- a thing beside the world -/
theorem St.temp {W : Wd} {hp : HP} (S : St W hp) {b : Addr} (t : W.tag b = .no) (o : AObj) : St W (upd hp b o) := by
  have ne : ∀ {a : Addr} {g : Tg}, W.tag a = g → g ≠ .no → a ≠ b := fun h1 h2 e => h2 (by rw [← h1, e, t])
  refine ⟨?_, ?_, ?_, ?_, ?_, S.tx, S.td, S.trl, S.tld, S.tsl, fun i q hq => ?_, fun k e he => ⟨?_, (S.lst k e he).2⟩, fun c hc => ?_⟩
  · rw [upd_other (ne S.tx nofun)]; exact S.x
  · rw [upd_other (ne S.td nofun)]; exact S.d
  · rw [upd_other (ne S.trl nofun)]; exact S.rl
  · rw [upd_other (ne S.tld nofun)]; exact S.ld
  · rw [upd_other (ne S.tsl nofun)]; exact S.sl
  · exact (S.row i q hq).other (by rw [t]; nofun) (by rw [t]; nofun) (by rw [t]; nofun) (by rw [t]; nofun) (by rw [t]; nofun)
  · rw [upd_other (ne (S.lst k e he).2 nofun)]; exact (S.lst k e he).1
  · by_cases q : c = b
    · rw [q]; exact t
    · rw [upd_other q] at hc; exact S.fresh c hc
theorem St.new {W : Wd} {hp : HP} (S : St W hp) {b : Addr} (h : hp b = none) (o : AObj) : St W (upd hp b o) ∧ Fw W hp W (upd hp b o) :=
  ⟨S.temp (S.fresh b h) o, ⟨fun a oa ha t => ⟨by rw [upd_other fun e => by rw [e, h] at ha; cases ha]; exact ha, t⟩, rfl, rfl, rfl, fun a h => (upd_fresh h).2⟩⟩
/-- a part of a row changed -/
def Wd.setRow (W : Wd) (i : Nat) (q : Rw) : Wd := { W with rows := W.rows.set i q }
theorem map_set_same {α β : Type} (f : α → β) {l : List α} {i : Nat} {x y : α} (h : l[i]? = some x) (e : f y = f x) : (l.set i y).map f = l.map f := by
  rw [List.map_set, e]
  refine List.ext_getElem? fun j => ?_
  rw [List.getElem?_set]
  split
  · rename_i q; subst q
    have : i < l.length := (List.getElem?_eq_some_iff.mp h).1
    simp [this, h]
    have h2 := List.getElem?_eq_some_iff.mp h
    rw [h2.2]
  · rfl
theorem St.setRow {W : Wd} {hp : HP} (S : St W hp) {i : Nat} {q q' : Rw} (hq : W.rows[i]? = some q) {b : Addr} {o : AObj} (hb : (b = q.c ∨ b = q.d)) (hr : q'.r = q.r) (h : RowAt W.tag i q' (upd hp b o)) : St (W.setRow i q') (upd hp b o) ∧ Fw W hp (W.setRow i q') (upd hp b o) := by
  have R := S.row i q hq
  have t : W.tag b = .rc i ∨ W.tag b = .rd i := hb.imp (fun e => by rw [e]; exact R.tc) fun e => by rw [e]; exact R.td
  have tn : W.tag b ≠ .no := by rcases t with t | t <;> (rw [t]; nofun)
  have ne : ∀ {a : Addr} {g : Tg}, W.tag a = g → g ≠ .rc i → g ≠ .rd i → a ≠ b := fun h1 h2 h3 e => by
    rw [e] at h1
    rcases t with t | t
    · exact h2 (h1.symm.trans t)
    · exact h3 (h1.symm.trans t)
  refine ⟨⟨?_, ?_, ?_, ?_, ?_, S.tx, S.td, S.trl, S.tld, S.tsl, fun j z hz => ?_, fun k e he => ⟨?_, (S.lst k e he).2⟩, fun c hc => ?_⟩, ⟨fun a oa ha t' => ⟨?_, t'⟩, rfl, rfl, rfl, fun a h => (upd_fresh h).2⟩⟩
  · show upd hp b o W.x = _; rw [upd_other (ne S.tx nofun nofun)]; exact S.x
  · show upd hp b o W.d = _; rw [upd_other (ne S.td nofun nofun)]; exact S.d
  · show upd hp b o W.rl = some (.list ((W.rows.set i q').map fun q => .ref q.r))
    rw [upd_other (ne S.trl nofun nofun), map_set_same (fun q : Rw => AV.ref q.r) hq (by rw [hr])]; exact S.rl
  · show upd hp b o W.ld = _; rw [upd_other (ne S.tld nofun nofun)]; exact S.ld
  · show upd hp b o W.sl = _; rw [upd_other (ne S.tsl nofun nofun)]; exact S.sl
  · change (W.rows.set i q')[j]? = some z at hz
    rw [List.getElem?_set] at hz
    split at hz
    · rename_i e; subst e
      split at hz
      · cases hz; exact h
      · cases hz
    · rename_i hne
      refine (S.row j z hz).other ?_ ?_ ?_ ?_ ?_ <;> (rcases t with t | t <;> (rw [t]; first | (intro e; cases e; done) | (intro e; cases e; exact hne rfl)))
  · show upd hp b o e.1 = _
    rw [upd_other (ne (S.lst k e he).2 nofun nofun)]; exact (S.lst k e he).1
  · by_cases q : c = b
    · rw [q, upd_self] at hc; cases hc
    · rw [upd_other q] at hc; exact S.fresh c hc
  · rw [upd_other fun e => tn (by rw [← e]; exact t')]; exact ha
theorem St.setCh {W : Wd} {hp : HP} (S : St W hp) {i : Nat} {q : Rw} (hq : W.rows[i]? = some q) (l : List Nat) : St (W.setRow i { q with ch := l }) (upd hp q.c (.list (l.map nt))) ∧ Fw W hp (W.setRow i { q with ch := l }) (upd hp q.c (.list (l.map nt))) := by
  have R := S.row i q hq
  refine S.setRow hq (.inl rfl) rfl ⟨?_, ?_, upd_self _ _ _, ?_, ?_, R.tr, R.td, R.tc, R.ta, R.tn⟩
  · rw [upd_other fun e => by have := R.tr; rw [show q.r = q.c from e, R.tc] at this; cases this]; exact R.r
  · rw [upd_other fun e => by have := R.td; rw [show q.d = q.c from e, R.tc] at this; cases this]; exact R.d
  · rw [upd_other fun e => by have := R.ta; rw [show q.a = q.c from e, R.tc] at this; cases this]; exact R.a
  · rw [upd_other fun e => by have := R.tn; rw [show q.n = q.c from e, R.tc] at this; cases this]; exact R.n
theorem St.setFs {W : Wd} {hp : HP} (S : St W hp) {i : Nat} {q q' : Rw} (hq : W.rows[i]? = some q) (h1 : q'.r = q.r) (h2 : q'.d = q.d) (h3 : q'.c = q.c) (h4 : q'.a = q.a) (h5 : q'.n = q.n) (h6 : q'.ch = q.ch) : St (W.setRow i q') (upd hp q.d (.attrs q'.fs)) ∧ Fw W hp (W.setRow i q') (upd hp q.d (.attrs q'.fs)) := by
  have R := S.row i q hq
  refine S.setRow hq (.inr rfl) h1 ⟨?_, ?_, ?_, ?_, ?_, h1 ▸ R.tr, h2 ▸ R.td, h3 ▸ R.tc, h4 ▸ R.ta, h5 ▸ R.tn⟩
  · rw [h1, h2, upd_other fun e => by have := R.tr; rw [e, R.td] at this; cases this]; exact R.r
  · rw [h2, upd_self]
  · rw [h3, h6, upd_other fun e => by have := R.tc; rw [e, R.td] at this; cases this]; exact R.c
  · rw [h4, upd_other fun e => by have := R.ta; rw [e, R.td] at this; cases this]; exact R.a
  · rw [h5, upd_other fun e => by have := R.tn; rw [e, R.td] at this; cases this]; exact R.n
/-- a list of the law's changed -/
def Wd.setLs (W : Wd) (k : Nat) (e : Addr) (l : List Nat) : Wd := { W with ls := W.ls.set k (e, l) }
theorem lsFrom_set {l : List (Addr × List Nat)} : ∀ {k j : Nat} {e : Addr × List Nat} (m : List Nat), l[k]? = some e → lsFrom j (l.set k (e.1, m)) = lsFrom j l := by
  induction l with
  | nil => intro k j e m h; simp at h
  | cons a r ih =>
    intro k j e m h
    cases k with
    | zero => simp at h; subst h; rfl
    | succ k => simp only [List.set_cons_succ, lsFrom]; rw [ih m (by simpa using h)]
theorem St.setLs {W : Wd} {hp : HP} (S : St W hp) {k : Nat} {e : Addr × List Nat} (he : W.ls[k]? = some e) (l : List Nat) : St (W.setLs k e.1 l) (upd hp e.1 (.list (l.map nt))) ∧ Fw W hp (W.setLs k e.1 l) (upd hp e.1 (.list (l.map nt))) := by
  have t := (S.lst k e he).2
  have ne : ∀ {a : Addr} {g : Tg}, W.tag a = g → g ≠ .ll k → a ≠ e.1 := fun h1 h2 q => by rw [q, t] at h1; exact h2 h1.symm
  refine ⟨⟨?_, ?_, ?_, ?_, ?_, S.tx, S.td, S.trl, S.tld, S.tsl, fun j z hz => ?_, fun j z hz => ?_, fun c hc => ?_⟩, ⟨fun a oa ha t' => ⟨?_, t'⟩, rfl, rfl, rfl, fun a h => (upd_fresh h).2⟩⟩
  · show upd hp _ _ W.x = _; rw [upd_other (ne S.tx nofun)]; exact S.x
  · show upd hp _ _ W.d = _; rw [upd_other (ne S.td nofun)]; exact S.d
  · show upd hp _ _ W.rl = _; rw [upd_other (ne S.trl nofun)]; exact S.rl
  · show upd hp _ _ W.ld = some (.idict W.ep (lsFrom 0 (W.ls.set k (e.1, l))))
    rw [upd_other (ne S.tld nofun), lsFrom_set l he]; exact S.ld
  · show upd hp _ _ W.sl = _; rw [upd_other (ne S.tsl nofun)]; exact S.sl
  · exact (S.row j z hz).other (by rw [t]; nofun) (by rw [t]; nofun) (by rw [t]; nofun) (by rw [t]; nofun) (by rw [t]; nofun)
  · change (W.ls.set k (e.1, l))[j]? = some z at hz
    rw [List.getElem?_set] at hz
    split at hz
    · rename_i q; subst q
      split at hz
      · cases hz; exact ⟨upd_self _ _ _, t⟩
      · cases hz
    · rename_i hne
      refine ⟨?_, (S.lst j z hz).2⟩
      show upd hp _ _ z.1 = _
      rw [upd_other (ne (S.lst j z hz).2 fun q => hne (by injection q with q; exact q.symm))]; exact (S.lst j z hz).1
  · by_cases q : c = e.1
    · rw [q, upd_self] at hc; cases hc
    · rw [upd_other q] at hc; exact S.fresh c hc
  · rw [upd_other fun q => by rw [q, t] at t'; cases t']; exact ha
/-- the source changed -/
def Wd.setS (W : Wd) (a b : Int) : Wd := { W with s0 := a, s1 := b }
theorem St.setS {W : Wd} {hp : HP} (S : St W hp) (a b : Int) : St (W.setS a b) (upd hp W.sl (.list [.int a, .int b])) ∧ Fw W hp (W.setS a b) (upd hp W.sl (.list [.int a, .int b])) := by
  have t := S.tsl
  have ne : ∀ {a : Addr} {g : Tg}, W.tag a = g → g ≠ .sl → a ≠ W.sl := fun h1 h2 q => by rw [q, t] at h1; exact h2 h1.symm
  refine ⟨⟨?_, ?_, ?_, ?_, upd_self _ _ _, S.tx, S.td, S.trl, S.tld, S.tsl, fun j z hz => ?_, fun j z hz => ⟨?_, (S.lst j z hz).2⟩, fun c hc => ?_⟩, ⟨fun a oa ha t' => ⟨?_, t'⟩, rfl, rfl, rfl, fun a h => (upd_fresh h).2⟩⟩
  · show upd hp _ _ W.x = _; rw [upd_other (ne S.tx nofun)]; exact S.x
  · show upd hp _ _ W.d = _; rw [upd_other (ne S.td nofun)]; exact S.d
  · show upd hp _ _ W.rl = _; rw [upd_other (ne S.trl nofun)]; exact S.rl
  · show upd hp _ _ W.ld = _; rw [upd_other (ne S.tld nofun)]; exact S.ld
  · exact (S.row j z hz).other (by rw [t]; nofun) (by rw [t]; nofun) (by rw [t]; nofun) (by rw [t]; nofun) (by rw [t]; nofun)
  · show upd hp _ _ z.1 = _
    rw [upd_other (ne (S.lst j z hz).2 nofun)]; exact (S.lst j z hz).1
  · by_cases q : c = W.sl
    · rw [q, upd_self] at hc; cases hc
    · rw [upd_other q] at hc; exact S.fresh c hc
  · rw [upd_other fun q => by rw [q, t] at t'; cases t']; exact ha
end Mine

end

section
open PySem PySem.W PyProof.Rows PySem.Calls
set_option Elab.async false
set_option maxRecDepth 100000
set_option linter.unusedVariables false
namespace Mine

def st_errInit : Option Stmt := meAt 2 0
def sc_errInit : Scope := scopeIn (meAt 2 0)
theorem F_errInit (P : Params) : FunIn (KK P) 35 ["self", "message"] [] (scopeIn (meAt 2 0)) (bodyOf (meAt 2 0)) (fnData (meAt 2 0) "MarkupError.__init__" (Value.str (Str.ofString "markupmill.errors") 194) 34) :=
  ⟨⟨_, rfl, rfl⟩, rfl, rfl, rfl, rfl, rfl, by rfl, (fun vals h => by rcases vals with _ | ⟨a0, _ | ⟨a1, _ | ⟨b, r⟩⟩⟩ <;> first | rfl | cases h), by decide, by rfl, by decide, rfl, rfl, rfl⟩
def st_m_row : Option Stmt := meAt 13 2
def sc_m_row : Scope := scopeIn (meAt 13 2)
theorem F_m_row (P : Params) : FunIn (KK P) 125 ["self", "node"] [] (scopeIn (meAt 13 2)) (bodyOf (meAt 13 2)) (fnData (meAt 13 2) "Tree.row" (Value.str (Str.ofString "markupmill.tree") 278) 124) :=
  ⟨⟨_, rfl, rfl⟩, rfl, rfl, rfl, rfl, rfl, by rfl, (fun vals h => by rcases vals with _ | ⟨a0, _ | ⟨a1, _ | ⟨b, r⟩⟩⟩ <;> first | rfl | cases h), by decide, by rfl, by decide, rfl, rfl, rfl⟩
section
variable {prog : Program} {w : World} {base : Heap} {mg mb : Str → Option Value}

theorem C_errInit (G : TopOK prog w base mg mb) : CodeS prog w base 51 6 (.ref 35) (cExcInit 51) := by
  refine fun_call (n := 5) G.X G.nolimit (F_errInit w.params) (TB_cons (T_expr (T_excInit G.X (excK _) (T_bltn G.toGC (by rfl) Boot.«Exception» (by decide) (by rfl) (by rfl)) (TL_cons (T_loc At.z rfl rfl) (TL_cons (T_loc (At.s At.z) rfl rfl) TL_nil))) (fun _ => trivial)) (TB_cons (T_excSet G.X (excK _) (T_loc (At.s At.z) rfl rfl) (T_loc At.z rfl rfl)) TB_nil)) ?_
  intro as hp Q E ⟨x, m, e, hx, q⟩
  subst e
  refine ⟨rfl, ?_⟩
  exact ⟨_, rfl, _, rfl, x, _, rfl, hx, _, rfl, _, rfl, x, rfl, hx, q⟩

inductive IRow (as : List AV) (hp : HP) (Q : AV → HP → Prop) (E : HP → Prop) : Prop
  | mk (W : Wd) (i : Nat) (q : Rw) (h1 : St W hp) (h2 : as = [.ref W.x, nt i]) (h3 : W.rows[i]? = some q) (h4 : W.rows.length ≤ 900) (h5 : Q (.ref q.r) hp)
def cRow : CPT := IRow
theorem C_m_row (G : TopOK prog w base mg mb) : CallS prog w base 51 9 (.ref 125) cRow := by
  refine CodeS.call (fun_call (n := 8) G.X G.nolimit (F_m_row w.params) (TB_cons (T_if (TT_not (TT_chain C_le C_lt (by decide) T_cint (T_loc (At.s At.z) rfl rfl) (T_callB (T_bltn G.toGC (by rfl) Boot.«len» (by decide) (by rfl) (by rfl)) (TL_cons (T_attr G.X (attr_rows _) (T_loc At.z rfl rfl)) TL_nil) (O_len G.low).call (by decide)))) (TB_cons (T_raise G.X (excK _) (T_glob G.toGC (v := .ref 51) (by rfl) (by rfl) (by rfl)) (C_errInit G) (by decide)) TB_nil) TB_nil) (TB_cons (T_ret (T_item (T_attr G.X (attr_rows _) (T_loc At.z rfl rfl)) (T_loc (At.s At.z) rfl rfl))) TB_nil)) ?_)
  intro as hp Q E ⟨W, i, q, S, e, hq, hz, h⟩
  subst e
  refine ⟨rfl, ?_⟩
  have hi : i < W.rows.length := (List.getElem?_eq_some_iff.mp hq).1
  refine ⟨_, rfl, true, by simp [kLe], nofun, fun _ => ⟨_, rfl, _, _, _, _, rfl, S.x, S.d, rfl, rfl, _, rfl, .inl ⟨_, S.rl, by simp; omega, true, by simp [kLt]; exact hi, true, rfl, nofun, fun _ => ?_⟩⟩⟩
  refine ⟨_, rfl, _, _, _, _, rfl, S.x, S.d, rfl, rfl, _, rfl, _, .inl ⟨_, S.rl, Int.natCast_nonneg _, by omega, ?_⟩, h⟩
  simp [hq]
end
end Mine

end

section
open PySem PySem.W PyProof.Rows PySem.Calls
set_option Elab.async false
set_option maxRecDepth 100000
set_option linter.unusedVariables false
namespace Mine

/-- a row just made -/
structure NewRow (q : Rw) (hp hp' : HP) : Prop where
  r : hp' q.r = some (.inst 93 q.d)
  d : hp' q.d = some (.attrs q.fs)
  c : hp' q.c = some (.list [])
  a : hp' q.a = some (.list [])
  n : hp' q.n = some (.list [])
  ch : q.ch = []
  fr : hp q.r = none
  fd : hp q.d = none
  fc : hp q.c = none
  fa : hp q.a = none
  fn : hp q.n = none
  nd : [q.r, q.d, q.c, q.a, q.n].Nodup
  other : ∀ b, b ≠ q.r → b ≠ q.d → b ≠ q.c → b ≠ q.a → b ≠ q.n → hp' b = hp b
theorem NewRow.keep {q : Rw} {hp hp' : HP} (N : NewRow q hp hp') {b : Addr} {o : AObj} (h : hp b = some o) : hp' b = some o := by
  have ne : ∀ {x : Addr}, hp x = none → b ≠ x := fun e q => by rw [q, e] at h; cases h
  rw [N.other b (ne N.fr) (ne N.fd) (ne N.fc) (ne N.fa) (ne N.fn)]; exact h
def tagRow (q : Rw) (i : Nat) (tag : Addr → Tg) : Addr → Tg := fun b =>
  if b = q.r then .r i else if b = q.d then .rd i else if b = q.c then .rc i else if b = q.a then .ra i else if b = q.n then .rn i else tag b
def Wd.addRow (W : Wd) (q : Rw) : Wd := { W with rows := W.rows ++ [q], tag := tagRow q W.rows.length W.tag }
theorem tagRow_old {q : Rw} {i : Nat} {tag : Addr → Tg} {hp hp' : HP} (N : NewRow q hp hp') {b : Addr} {o : AObj} (h : hp b = some o) : tagRow q i tag b = tag b := by
  have ne : ∀ {x : Addr}, hp x = none → b ≠ x := fun e q => by rw [q, e] at h; cases h
  unfold tagRow
  rw [if_neg (ne N.fr), if_neg (ne N.fd), if_neg (ne N.fc), if_neg (ne N.fa), if_neg (ne N.fn)]
theorem St.addRow {W : Wd} {hp hp' : HP} (S : St W hp) {q : Rw} (N : NewRow q hp hp') :
    St (W.addRow q) (upd hp' W.rl (.list ((W.rows ++ [q]).map fun q => .ref q.r))) ∧ Fw W hp (W.addRow q) (upd hp' W.rl (.list ((W.rows ++ [q]).map fun q => .ref q.r))) := by
  have ne : ∀ {a : Addr} {g : Tg}, W.tag a = g → g ≠ .rl → a ≠ W.rl := fun h1 h2 e => by rw [e, S.trl] at h1; exact h2 h1.symm
  have nr : ∀ {x : Addr}, hp x = none → x ≠ W.rl := fun h e => by rw [e, S.rl] at h; cases h
  have tg : ∀ {b : Addr} {o : AObj}, hp b = some o → (W.addRow q).tag b = W.tag b := fun h => tagRow_old N h
  obtain ⟨n1, n2⟩ := List.nodup_cons.mp N.nd
  obtain ⟨n3, n4⟩ := List.nodup_cons.mp n2
  obtain ⟨n5, n6⟩ := List.nodup_cons.mp n4
  obtain ⟨n7, n8⟩ := List.nodup_cons.mp n6
  simp only [List.mem_cons, List.not_mem_nil, or_false, not_or] at n1 n3 n5 n7
  have other : ∀ {a : Addr} {o : AObj} {g : Tg}, W.tag a = g → g ≠ .rl → hp a = some o → upd hp' W.rl (.list ((W.rows ++ [q]).map fun q => .ref q.r)) a = some o := fun h1 h2 h3 => by
    rw [upd_other (ne h1 h2)]; exact N.keep h3
  refine ⟨⟨other S.tx nofun S.x, other S.td nofun S.d, upd_self _ _ _, other S.tld nofun S.ld, other S.tsl nofun S.sl, (tg S.x).trans S.tx, (tg S.d).trans S.td, (tg S.rl).trans S.trl, (tg S.ld).trans S.tld, (tg S.sl).trans S.tsl, fun i z hz => ?_, fun k e he => ?_, fun b hb => ?_⟩, ⟨fun a o ha t => ⟨other t nofun ha, (tg ha).trans t⟩, rfl, rfl, rfl, fun a h => by
    cases e : hp a with
    | none => rfl
    | some o => have := N.keep e; rw [(upd_fresh h).2] at this; cases this⟩⟩
  · change (W.rows ++ [q])[i]? = some z at hz
    by_cases hi : i < W.rows.length
    · rw [List.getElem?_append_left hi] at hz
      have R := S.row i z hz
      exact ⟨other R.tr nofun R.r, other R.td nofun R.d, other R.tc nofun R.c, other R.ta nofun R.a, other R.tn nofun R.n, (tg R.r).trans R.tr, (tg R.d).trans R.td, (tg R.c).trans R.tc, (tg R.a).trans R.ta, (tg R.n).trans R.tn⟩
    · rw [List.getElem?_append_right (by omega)] at hz
      have hi0 : i - W.rows.length = 0 := by
        cases e : i - W.rows.length with
        | zero => rfl
        | succ k => rw [e] at hz; simp at hz
      rw [hi0] at hz
      simp at hz
      subst hz
      have hi' : i = W.rows.length := by omega
      subst hi'
      refine ⟨?_, ?_, ?_, ?_, ?_, ?_, ?_, ?_, ?_, ?_⟩
      · rw [upd_other (nr N.fr)]; exact N.r
      · rw [upd_other (nr N.fd)]; exact N.d
      · rw [upd_other (nr N.fc), N.ch]; exact N.c
      · rw [upd_other (nr N.fa)]; exact N.a
      · rw [upd_other (nr N.fn)]; exact N.n
      · show tagRow q _ _ _ = _; unfold tagRow; rw [if_pos rfl]
      · show tagRow q _ _ _ = _; unfold tagRow; rw [if_neg (Ne.symm n1.1), if_pos rfl]
      · show tagRow q _ _ _ = _; unfold tagRow; rw [if_neg (Ne.symm n1.2.1), if_neg (Ne.symm n3.1), if_pos rfl]
      · show tagRow q _ _ _ = _; unfold tagRow; rw [if_neg (Ne.symm n1.2.2.1), if_neg (Ne.symm n3.2.1), if_neg (Ne.symm n5.1), if_pos rfl]
      · show tagRow q _ _ _ = _; unfold tagRow; rw [if_neg (Ne.symm n1.2.2.2), if_neg (Ne.symm n3.2.2), if_neg (Ne.symm n5.2), if_neg (Ne.symm n7), if_pos rfl]
  · obtain ⟨h1, h2⟩ := S.lst k e he
    exact ⟨other h2 nofun h1, (tg h1).trans h2⟩
  · have h1 : b ≠ W.rl := fun e => by rw [e, upd_self] at hb; cases hb
    rw [upd_other h1] at hb
    have nb : ∀ {x : Addr} {o : AObj}, hp' x = some o → b ≠ x := fun h e => by rw [e, h] at hb; cases hb
    have h2 := N.other b (nb N.r) (nb N.d) (nb N.c) (nb N.a) (nb N.n)
    rw [h2] at hb
    show tagRow q _ _ _ = _; unfold tagRow
    rw [if_neg (nb N.r), if_neg (nb N.d), if_neg (nb N.c), if_neg (nb N.a), if_neg (nb N.n)]
    exact S.fresh b hb
/-- a new entry of the law's lists -/
def Wd.addLs (W : Wd) (a : Addr) (ep : Nat) : Wd := { W with ls := W.ls ++ [(a, [])], ep := ep, tag := fun b => if b = a then .ll W.ls.length else W.tag b }
theorem St.addLs {W : Wd} {hp : HP} (S : St W hp) {a : Addr} (ha : hp a = none) (ep : Nat) :
    St (W.addLs a ep) (upd (upd hp a (.list [])) W.ld (.idict ep (lsFrom 0 (W.ls ++ [(a, [])])))) ∧ Fw W hp (W.addLs a ep) (upd (upd hp a (.list [])) W.ld (.idict ep (lsFrom 0 (W.ls ++ [(a, [])])))) := by
  have ne : ∀ {b : Addr} {g : Tg}, W.tag b = g → g ≠ .ld → b ≠ W.ld := fun h1 h2 e => by rw [e, S.tld] at h1; exact h2 h1.symm
  have na : ∀ {b : Addr} {o : AObj}, hp b = some o → b ≠ a := fun h e => by rw [e, ha] at h; cases h
  have tg : ∀ {b : Addr} {o : AObj}, hp b = some o → (W.addLs a ep).tag b = W.tag b := fun h => if_neg (na h)
  have other : ∀ {b : Addr} {o : AObj} {g : Tg}, W.tag b = g → g ≠ .ld → hp b = some o → upd (upd hp a (.list [])) W.ld (.idict ep (lsFrom 0 (W.ls ++ [(a, [])]))) b = some o := fun h1 h2 h3 => by
    rw [upd_other (ne h1 h2), upd_other (na h3)]; exact h3
  refine ⟨⟨other S.tx nofun S.x, other S.td nofun S.d, other S.trl nofun S.rl, upd_self _ _ _, other S.tsl nofun S.sl, (tg S.x).trans S.tx, (tg S.d).trans S.td, (tg S.rl).trans S.trl, (tg S.ld).trans S.tld, (tg S.sl).trans S.tsl, fun i z hz => ?_, fun k e he => ?_, fun b hb => ?_⟩, ⟨fun b o hb t => ⟨other t nofun hb, (tg hb).trans t⟩, rfl, rfl, rfl, fun b h => (upd_fresh (upd_fresh h).2).2⟩⟩
  · have R := S.row i z hz
    exact ⟨other R.tr nofun R.r, other R.td nofun R.d, other R.tc nofun R.c, other R.ta nofun R.a, other R.tn nofun R.n, (tg R.r).trans R.tr, (tg R.d).trans R.td, (tg R.c).trans R.tc, (tg R.a).trans R.ta, (tg R.n).trans R.tn⟩
  · change (W.ls ++ [(a, [])])[k]? = some e at he
    by_cases hk : k < W.ls.length
    · rw [List.getElem?_append_left hk] at he
      obtain ⟨h1, h2⟩ := S.lst k e he
      exact ⟨other h2 nofun h1, (tg h1).trans h2⟩
    · rw [List.getElem?_append_right (by omega)] at he
      have hk0 : k - W.ls.length = 0 := by
        cases q : k - W.ls.length with
        | zero => rfl
        | succ k => rw [q] at he; simp at he
      rw [hk0] at he
      simp at he
      subst he
      have hk' : k = W.ls.length := by omega
      subst hk'
      have hal : a ≠ W.ld := fun q => by rw [q, S.ld] at ha; cases ha
      refine ⟨?_, if_pos rfl⟩
      rw [upd_other hal, upd_self]; rfl
  · have h1 : b ≠ W.ld := fun e => by rw [e, upd_self] at hb; cases hb
    rw [upd_other h1] at hb
    have h2 : b ≠ a := fun e => by rw [e, upd_self] at hb; cases hb
    rw [upd_other h2] at hb
    show (if b = a then _ else _) = _
    rw [if_neg h2]; exact S.fresh b hb
end Mine

end

section
open PySem PySem.W PyProof.Rows PySem.Calls
set_option Elab.async false
set_option maxRecDepth 100000
set_option linter.unusedVariables false
namespace Mine

def st_m_kind : Option Stmt := meAt 13 13
def sc_m_kind : Scope := scopeIn (meAt 13 13)
theorem F_m_kind (P : Params) : FunIn (KK P) 202 ["self", "node"] [] (scopeIn (meAt 13 13)) (bodyOf (meAt 13 13)) (fnData (meAt 13 13) "Tree.kind" (Value.str (Str.ofString "markupmill.tree") 278) 201) :=
  ⟨⟨_, rfl, rfl⟩, rfl, rfl, rfl, rfl, rfl, by rfl, (fun vals h => by rcases vals with _ | ⟨a0, _ | ⟨a1, _ | ⟨b, r⟩⟩⟩ <;> first | rfl | cases h), by decide, by rfl, by decide, rfl, rfl, rfl⟩
def st_m_name : Option Stmt := meAt 13 14
def sc_m_name : Scope := scopeIn (meAt 13 14)
theorem F_m_name (P : Params) : FunIn (KK P) 209 ["self", "node"] [] (scopeIn (meAt 13 14)) (bodyOf (meAt 13 14)) (fnData (meAt 13 14) "Tree.name" (Value.str (Str.ofString "markupmill.tree") 278) 208) :=
  ⟨⟨_, rfl, rfl⟩, rfl, rfl, rfl, rfl, rfl, by rfl, (fun vals h => by rcases vals with _ | ⟨a0, _ | ⟨a1, _ | ⟨b, r⟩⟩⟩ <;> first | rfl | cases h), by decide, by rfl, by decide, rfl, rfl, rfl⟩
def st_m_uri : Option Stmt := meAt 13 15
def sc_m_uri : Scope := scopeIn (meAt 13 15)
theorem F_m_uri (P : Params) : FunIn (KK P) 216 ["self", "node"] [] (scopeIn (meAt 13 15)) (bodyOf (meAt 13 15)) (fnData (meAt 13 15) "Tree.uri" (Value.str (Str.ofString "markupmill.tree") 278) 215) :=
  ⟨⟨_, rfl, rfl⟩, rfl, rfl, rfl, rfl, rfl, by rfl, (fun vals h => by rcases vals with _ | ⟨a0, _ | ⟨a1, _ | ⟨b, r⟩⟩⟩ <;> first | rfl | cases h), by decide, by rfl, by decide, rfl, rfl, rfl⟩
def st_m_local : Option Stmt := meAt 13 16
def sc_m_local : Scope := scopeIn (meAt 13 16)
theorem F_m_local (P : Params) : FunIn (KK P) 223 ["self", "node"] [] (scopeIn (meAt 13 16)) (bodyOf (meAt 13 16)) (fnData (meAt 13 16) "Tree.local" (Value.str (Str.ofString "markupmill.tree") 278) 222) :=
  ⟨⟨_, rfl, rfl⟩, rfl, rfl, rfl, rfl, rfl, by rfl, (fun vals h => by rcases vals with _ | ⟨a0, _ | ⟨a1, _ | ⟨b, r⟩⟩⟩ <;> first | rfl | cases h), by decide, by rfl, by decide, rfl, rfl, rfl⟩
def st_m_value : Option Stmt := meAt 13 17
def sc_m_value : Scope := scopeIn (meAt 13 17)
theorem F_m_value (P : Params) : FunIn (KK P) 230 ["self", "node"] [] (scopeIn (meAt 13 17)) (bodyOf (meAt 13 17)) (fnData (meAt 13 17) "Tree.value" (Value.str (Str.ofString "markupmill.tree") 278) 229) :=
  ⟨⟨_, rfl, rfl⟩, rfl, rfl, rfl, rfl, rfl, by rfl, (fun vals h => by rcases vals with _ | ⟨a0, _ | ⟨a1, _ | ⟨b, r⟩⟩⟩ <;> first | rfl | cases h), by decide, by rfl, by decide, rfl, rfl, rfl⟩
def st_m_parent : Option Stmt := meAt 13 18
def sc_m_parent : Scope := scopeIn (meAt 13 18)
theorem F_m_parent (P : Params) : FunIn (KK P) 237 ["self", "node"] [] (scopeIn (meAt 13 18)) (bodyOf (meAt 13 18)) (fnData (meAt 13 18) "Tree.parent" (Value.str (Str.ofString "markupmill.tree") 278) 236) :=
  ⟨⟨_, rfl, rfl⟩, rfl, rfl, rfl, rfl, rfl, by rfl, (fun vals h => by rcases vals with _ | ⟨a0, _ | ⟨a1, _ | ⟨b, r⟩⟩⟩ <;> first | rfl | cases h), by decide, by rfl, by decide, rfl, rfl, rfl⟩
def st_m_children : Option Stmt := meAt 13 19
def sc_m_children : Scope := scopeIn (meAt 13 19)
theorem F_m_children (P : Params) : FunIn (KK P) 244 ["self", "node"] [] (scopeIn (meAt 13 19)) (bodyOf (meAt 13 19)) (fnData (meAt 13 19) "Tree.children" (Value.str (Str.ofString "markupmill.tree") 278) 243) :=
  ⟨⟨_, rfl, rfl⟩, rfl, rfl, rfl, rfl, rfl, by rfl, (fun vals h => by rcases vals with _ | ⟨a0, _ | ⟨a1, _ | ⟨b, r⟩⟩⟩ <;> first | rfl | cases h), by decide, by rfl, by decide, rfl, rfl, rfl⟩
def st_m_namespaces : Option Stmt := meAt 13 21
def sc_m_namespaces : Scope := scopeIn (meAt 13 21)
theorem F_m_namespaces (P : Params) : FunIn (KK P) 258 ["self", "node"] [] (scopeIn (meAt 13 21)) (bodyOf (meAt 13 21)) (fnData (meAt 13 21) "Tree.namespaces" (Value.str (Str.ofString "markupmill.tree") 278) 257) :=
  ⟨⟨_, rfl, rfl⟩, rfl, rfl, rfl, rfl, rfl, by rfl, (fun vals h => by rcases vals with _ | ⟨a0, _ | ⟨a1, _ | ⟨b, r⟩⟩⟩ <;> first | rfl | cases h), by decide, by rfl, by decide, rfl, rfl, rfl⟩
def st_nodeInit : Option Stmt := meAt 12 0
def sc_nodeInit : Scope := scopeIn (meAt 12 0)
theorem F_nodeInit (P : Params) : FunIn (KK P) 90 ["self", "kind", "name", "uri", "local", "value", "parent"] [] (scopeIn (meAt 12 0)) (bodyOf (meAt 12 0)) (fnData (meAt 12 0) "NodeRow.__init__" (Value.str (Str.ofString "markupmill.tree") 278) 89) :=
  ⟨⟨_, rfl, rfl⟩, rfl, rfl, rfl, rfl, rfl, by rfl, (fun vals h => by rcases vals with _ | ⟨a0, _ | ⟨a1, _ | ⟨a2, _ | ⟨a3, _ | ⟨a4, _ | ⟨a5, _ | ⟨a6, _ | ⟨b, r⟩⟩⟩⟩⟩⟩⟩⟩ <;> first | rfl | cases h), by decide, by rfl, by decide, rfl, rfl, rfl⟩
def st_treeInit : Option Stmt := meAt 13 0
def sc_treeInit : Scope := scopeIn (meAt 13 0)
theorem F_treeInit (P : Params) : FunIn (KK P) 111 ["self"] [] (scopeIn (meAt 13 0)) (bodyOf (meAt 13 0)) (fnData (meAt 13 0) "Tree.__init__" (Value.str (Str.ofString "markupmill.tree") 278) 110) :=
  ⟨⟨_, rfl, rfl⟩, rfl, rfl, rfl, rfl, rfl, by rfl, (fun vals h => by rcases vals with _ | ⟨a0, _ | ⟨b, r⟩⟩ <;> first | rfl | cases h), by decide, by rfl, by decide, rfl, rfl, rfl⟩
theorem notRows {x : Str} {a : AV} (h : (x == ("rows" : Str)) = false) : x ∉ [(("rows" : Str), a)].map (·.1) := by
  simpa using h
section
variable {prog : Program} {w : World} {base : Heap} {mg mb : Str → Option Value}

inductive IGet (f : Rw → AV) (as : List AV) (hp : HP) (Q : AV → HP → Prop) (E : HP → Prop) : Prop
  | mk (W : Wd) (i : Nat) (q : Rw) (h1 : St W hp) (h2 : as = [.ref W.x, nt i]) (h3 : W.rows[i]? = some q) (h4 : W.rows.length ≤ 900) (h5 : Q (f q) hp)
def cGet (f : Rw → AV) : CPT := IGet f
theorem C_m_kind (G : TopOK prog w base mg mb) : CallS prog w base 51 11 (.ref 202) (cGet fun q => .str q.kind) := by
  refine CodeS.call (fun_call (n := 10) G.X G.nolimit (F_m_kind w.params) (TB_cons (T_ret (T_attr G.X (attr_kind _) (T_meth (CT := 282) (f := 125) G.X (by rfl) (by rfl) (by rfl) (by rfl) (T_loc At.z rfl rfl) (TL_cons (T_loc (At.s At.z) rfl rfl) TL_nil) (C_m_row G) (by decide)))) TB_nil) ?_)
  intro as hp Q E ⟨W, i, q, S, e, hq, hz, h⟩
  subst e
  have R := S.row i q hq
  exact ⟨rfl, _, rfl, _, _, _, rfl, S.x, S.d, notRows (by decide), _, rfl, W, i, q, S, rfl, hq, hz, _, _, _, _, rfl, R.r, R.d, rfl, rfl, h⟩
theorem C_m_name (G : TopOK prog w base mg mb) : CallS prog w base 51 11 (.ref 209) (cGet fun q => .str q.name) := by
  refine CodeS.call (fun_call (n := 10) G.X G.nolimit (F_m_name w.params) (TB_cons (T_ret (T_attr G.X (attr_name _) (T_meth (CT := 282) (f := 125) G.X (by rfl) (by rfl) (by rfl) (by rfl) (T_loc At.z rfl rfl) (TL_cons (T_loc (At.s At.z) rfl rfl) TL_nil) (C_m_row G) (by decide)))) TB_nil) ?_)
  intro as hp Q E ⟨W, i, q, S, e, hq, hz, h⟩
  subst e
  have R := S.row i q hq
  exact ⟨rfl, _, rfl, _, _, _, rfl, S.x, S.d, notRows (by decide), _, rfl, W, i, q, S, rfl, hq, hz, _, _, _, _, rfl, R.r, R.d, rfl, rfl, h⟩
theorem C_m_uri (G : TopOK prog w base mg mb) : CallS prog w base 51 11 (.ref 216) (cGet fun q => .str q.uri) := by
  refine CodeS.call (fun_call (n := 10) G.X G.nolimit (F_m_uri w.params) (TB_cons (T_ret (T_attr G.X (attr_uri _) (T_meth (CT := 282) (f := 125) G.X (by rfl) (by rfl) (by rfl) (by rfl) (T_loc At.z rfl rfl) (TL_cons (T_loc (At.s At.z) rfl rfl) TL_nil) (C_m_row G) (by decide)))) TB_nil) ?_)
  intro as hp Q E ⟨W, i, q, S, e, hq, hz, h⟩
  subst e
  have R := S.row i q hq
  exact ⟨rfl, _, rfl, _, _, _, rfl, S.x, S.d, notRows (by decide), _, rfl, W, i, q, S, rfl, hq, hz, _, _, _, _, rfl, R.r, R.d, rfl, rfl, h⟩
theorem C_m_local (G : TopOK prog w base mg mb) : CallS prog w base 51 11 (.ref 223) (cGet fun q => .str q.loc) := by
  refine CodeS.call (fun_call (n := 10) G.X G.nolimit (F_m_local w.params) (TB_cons (T_ret (T_attr G.X (attr_local _) (T_meth (CT := 282) (f := 125) G.X (by rfl) (by rfl) (by rfl) (by rfl) (T_loc At.z rfl rfl) (TL_cons (T_loc (At.s At.z) rfl rfl) TL_nil) (C_m_row G) (by decide)))) TB_nil) ?_)
  intro as hp Q E ⟨W, i, q, S, e, hq, hz, h⟩
  subst e
  have R := S.row i q hq
  exact ⟨rfl, _, rfl, _, _, _, rfl, S.x, S.d, notRows (by decide), _, rfl, W, i, q, S, rfl, hq, hz, _, _, _, _, rfl, R.r, R.d, rfl, rfl, h⟩
theorem C_m_value (G : TopOK prog w base mg mb) : CallS prog w base 51 11 (.ref 230) (cGet fun q => .str q.val) := by
  refine CodeS.call (fun_call (n := 10) G.X G.nolimit (F_m_value w.params) (TB_cons (T_ret (T_attr G.X (attr_value _) (T_meth (CT := 282) (f := 125) G.X (by rfl) (by rfl) (by rfl) (by rfl) (T_loc At.z rfl rfl) (TL_cons (T_loc (At.s At.z) rfl rfl) TL_nil) (C_m_row G) (by decide)))) TB_nil) ?_)
  intro as hp Q E ⟨W, i, q, S, e, hq, hz, h⟩
  subst e
  have R := S.row i q hq
  exact ⟨rfl, _, rfl, _, _, _, rfl, S.x, S.d, notRows (by decide), _, rfl, W, i, q, S, rfl, hq, hz, _, _, _, _, rfl, R.r, R.d, rfl, rfl, h⟩
theorem C_m_parent (G : TopOK prog w base mg mb) : CallS prog w base 51 11 (.ref 237) (cGet fun q => parV q.par) := by
  refine CodeS.call (fun_call (n := 10) G.X G.nolimit (F_m_parent w.params) (TB_cons (T_ret (T_attr G.X (attr_parent _) (T_meth (CT := 282) (f := 125) G.X (by rfl) (by rfl) (by rfl) (by rfl) (T_loc At.z rfl rfl) (TL_cons (T_loc (At.s At.z) rfl rfl) TL_nil) (C_m_row G) (by decide)))) TB_nil) ?_)
  intro as hp Q E ⟨W, i, q, S, e, hq, hz, h⟩
  subst e
  have R := S.row i q hq
  refine ⟨rfl, _, rfl, _, _, _, rfl, S.x, S.d, notRows (by decide), _, rfl, W, i, q, S, rfl, hq, hz, _, _, _, _, rfl, R.r, R.d, rfl, ?_, h⟩
  cases q.par <;> rfl
inductive IGetL (f : Rw → List Nat) (as : List AV) (hp : HP) (Q : AV → HP → Prop) (E : HP → Prop) : Prop
  | mk (W : Wd) (i : Nat) (q : Rw) (h1 : St W hp) (h2 : as = [.ref W.x, nt i]) (h3 : W.rows[i]? = some q) (h4 : W.rows.length ≤ 900) (h5 : (f q).length ≤ 900) (h6 : ∀ D, hp D = none → Q (.ref D) (upd hp D (.list ((f q).map nt))))
def cGetL (f : Rw → List Nat) : CPT := IGetL f
theorem C_m_children (G : TopOK prog w base mg mb) : CallS prog w base 51 11 (.ref 244) (cGetL fun q => q.ch) := by
  refine CodeS.call (fun_call (n := 10) G.X G.nolimit (F_m_children w.params) (TB_cons (T_ret (T_callT (T_bltn G.toGC (by rfl) Boot.«list» (by decide) (by rfl) (by rfl)) (TL_cons (T_attr G.X (attr_children _) (T_meth (CT := 282) (f := 125) G.X (by rfl) (by rfl) (by rfl) (by rfl) (T_loc At.z rfl rfl) (TL_cons (T_loc (At.s At.z) rfl rfl) TL_nil) (C_m_row G) (by decide))) TL_nil) O_listOf.call (by decide))) TB_nil) ?_)
  intro as hp Q E ⟨W, i, q, S, e, hq, hz, hz2, h⟩
  subst e
  have R := S.row i q hq
  exact ⟨rfl, _, rfl, _, _, _, rfl, S.x, S.d, notRows (by decide), _, rfl, W, i, q, S, rfl, hq, hz, _, _, _, _, rfl, R.r, R.d, rfl, rfl, _, _, rfl, R.c, by rw [List.length_map]; exact Nat.le_trans hz2 (by decide), h⟩
theorem C_m_namespaces (G : TopOK prog w base mg mb) : CallS prog w base 51 11 (.ref 258) (cGetL fun q => []) := by
  refine CodeS.call (fun_call (n := 10) G.X G.nolimit (F_m_namespaces w.params) (TB_cons (T_ret (T_callT (T_bltn G.toGC (by rfl) Boot.«list» (by decide) (by rfl) (by rfl)) (TL_cons (T_attr G.X (attr_namespaces _) (T_meth (CT := 282) (f := 125) G.X (by rfl) (by rfl) (by rfl) (by rfl) (T_loc At.z rfl rfl) (TL_cons (T_loc (At.s At.z) rfl rfl) TL_nil) (C_m_row G) (by decide))) TL_nil) O_listOf.call (by decide))) TB_nil) ?_)
  intro as hp Q E ⟨W, i, q, S, e, hq, hz, hz2, h⟩
  subst e
  have R := S.row i q hq
  exact ⟨rfl, _, rfl, _, _, _, rfl, S.x, S.d, notRows (by decide), _, rfl, W, i, q, S, rfl, hq, hz, _, _, _, _, rfl, R.r, R.d, rfl, rfl, _, _, rfl, R.n, by simp, h⟩

/-- making a row -/
inductive INodeInit (as : List AV) (hp : HP) (Q : AV → HP → Prop) (E : HP → Prop) : Prop
  | mk (x : Addr) (d : Addr) (kind : Str) (name : Str) (uri : Str) (loc : Str) (val : Str) (par : Option Nat) (h1 : as = [.ref x, .str kind, .str name, .str uri, .str loc, .str val, parV par]) (h2 : x ≠ d) (h3 : hp x = some (.inst 93 d)) (h4 : hp d = some (.attrs [])) (h5 : ∀ c a n, hp c = none → hp a = none → hp n = none → c ≠ a → c ≠ n → a ≠ n → ∀ hp', hp' x = some (.inst 93 d) → hp' d = some (.attrs (Rw.fs ⟨x, d, c, a, n, kind, name, uri, loc, val, par, []⟩)) → hp' c = some (.list []) → hp' a = some (.list []) → hp' n = some (.list []) →
    (∀ b, b ≠ d → b ≠ c → b ≠ a → b ≠ n → hp' b = hp b) → Q .none hp')
def cNodeInit : CPT := INodeInit
theorem C_nodeInit (G : TopOK prog w base mg mb) : CodeS prog w base 51 6 (.ref 90) cNodeInit := by
  refine fun_call (n := 5) G.X G.nolimit (F_nodeInit w.params) (TB_cons (T_setA G.X (set_kind _) (T_loc (At.s At.z) rfl rfl) (T_loc At.z rfl rfl)) (TB_cons (T_setA G.X (set_name _) (T_loc (At.s (At.s At.z)) rfl rfl) (T_loc At.z rfl rfl)) (TB_cons (T_setA G.X (set_uri _) (T_loc (At.s (At.s (At.s At.z))) rfl rfl) (T_loc At.z rfl rfl)) (TB_cons (T_setA G.X (set_local _) (T_loc (At.s (At.s (At.s (At.s At.z)))) rfl rfl) (T_loc At.z rfl rfl)) (TB_cons (T_setA G.X (set_value _) (T_loc (At.s (At.s (At.s (At.s (At.s At.z))))) rfl rfl) (T_loc At.z rfl rfl)) (TB_cons (T_setA G.X (set_parent _) (T_loc (At.s (At.s (At.s (At.s (At.s (At.s At.z)))))) rfl rfl) (T_loc At.z rfl rfl)) (TB_cons (T_setA G.X (set_children _) (T_list (by decide) TL_nil) (T_loc At.z rfl rfl)) (TB_cons (T_setA G.X (set_attributes _) (T_list (by decide) TL_nil) (T_loc At.z rfl rfl)) (TB_cons (T_setA G.X (set_namespaces _) (T_list (by decide) TL_nil) (T_loc At.z rfl rfl)) TB_nil))))))))) ?_
  intro as hp Q E ⟨x, d, kind, name, uri, loc, val, par, e, hxd, hx, hd, h⟩
  subst e
  refine ⟨rfl, ?_⟩
  have hX : ∀ {hp : HP} {o : AObj}, hp x = some (.inst 93 d) → upd hp d o x = some (.inst 93 d) := fun h => by rw [upd_other hxd]; exact h
  have hX2 : ∀ {hp : HP} {o : AObj} {l : Addr}, hp l = none → hp x = some (.inst 93 d) → upd hp l o x = some (.inst 93 d) := fun h1 h => by rw [upd_other fun e => by rw [← e, h] at h1; cases h1]; exact h
  have hD2 : ∀ {hp : HP} {o o' : AObj} {l : Addr}, hp l = none → hp d = some o' → upd hp l o d = some o' := fun h1 h => by rw [upd_other fun e => by rw [← e, h] at h1; cases h1]; exact h
  have s1 := hX (o := .attrs (putF "kind" (.str kind) [])) hx
  have s2 := hX (o := .attrs (putF "name" (.str name) (putF "kind" (.str kind) []))) s1
  refine ⟨_, rfl, _, rfl, _, _, _, rfl, hx, hd, Nat.le_of_ble_eq_true (by rfl), _, rfl, _, rfl, _, _, _, rfl, s1, upd_self _ _ _, Nat.le_of_ble_eq_true (by rfl), _, rfl, _, rfl, _, _, _, rfl, s2, upd_self _ _ _, Nat.le_of_ble_eq_true (by rfl),
    _, rfl, _, rfl, _, _, _, rfl, hX s2, upd_self _ _ _, Nat.le_of_ble_eq_true (by rfl), _, rfl, _, rfl, _, _, _, rfl, hX (hX s2), upd_self _ _ _, Nat.le_of_ble_eq_true (by rfl), _, rfl, _, rfl, _, _, _, rfl, hX (hX (hX s2)), upd_self _ _ _, Nat.le_of_ble_eq_true (by rfl), ?_⟩
  have s6 := hX (o := .attrs (putF "parent" (parV par) (putF "value" (.str val) (putF "local" (.str loc) (putF "uri" (.str uri) (putF "name" (.str name) (putF "kind" (.str kind) []))))))) (hX (o := .attrs (putF "value" (.str val) (putF "local" (.str loc) (putF "uri" (.str uri) (putF "name" (.str name) (putF "kind" (.str kind) [])))))) (hX (o := .attrs (putF "local" (.str loc) (putF "uri" (.str uri) (putF "name" (.str name) (putF "kind" (.str kind) []))))) (hX (o := .attrs (putF "uri" (.str uri) (putF "name" (.str name) (putF "kind" (.str kind) [])))) s2)))
  refine ⟨by decide, fun c hc => ⟨_, rfl, _, _, _, rfl, hX2 hc s6, hD2 hc (upd_self _ _ _), Nat.le_of_ble_eq_true (by rfl), by decide, fun a ha => ⟨_, rfl, _, _, _, rfl, hX2 ha (hX (hX2 hc s6)), hD2 ha (upd_self _ _ _), Nat.le_of_ble_eq_true (by rfl), by decide, fun n hn => ⟨_, rfl, _, _, _, rfl, hX2 hn (hX (hX2 ha (hX (hX2 hc s6)))), hD2 hn (upd_self _ _ _), Nat.le_of_ble_eq_true (by rfl), ?_⟩⟩⟩⟩
  try dsimp only [AS.set] at hc ha hn ⊢
  obtain ⟨n1, hn1⟩ := upd_fresh hn
  obtain ⟨n2, hn2⟩ := upd_fresh hn1
  obtain ⟨n3, hn3⟩ := upd_fresh hn2
  obtain ⟨n4, hn4⟩ := upd_fresh hn3
  obtain ⟨a1, ha1⟩ := upd_fresh ha
  obtain ⟨a2, ha2⟩ := upd_fresh ha1
  obtain ⟨c1, hc1⟩ := upd_fresh hc
  have down : ∀ {b : Addr}, b ≠ d → ∀ {o1 o2 o3 o4 o5 o6 : AObj}, upd (upd (upd (upd (upd (upd hp d o1) d o2) d o3) d o4) d o5) d o6 b = hp b := fun hb => by
    intros; rw [upd_other hb, upd_other hb, upd_other hb, upd_other hb, upd_other hb, upd_other hb]
  have hcn : hp c = none := by rw [← down c1]; exact hc
  have han : hp a = none := by rw [← down a1]; exact ha2
  have hnn : hp n = none := by rw [← down n1]; exact hn4
  refine h c a n hcn han hnn (Ne.symm a2) (Ne.symm n4) (Ne.symm n2) _ (hX (hX2 hn (hX (hX2 ha (hX (hX2 hc s6)))))) ?_ ?_ ?_ ?_ ?_
  · try dsimp only
    rw [upd_self]; rfl
  · try dsimp only
    rw [upd_other c1, upd_other (Ne.symm n4), upd_other c1, upd_other (Ne.symm a2), upd_other c1, upd_self]
  · try dsimp only
    rw [upd_other a1, upd_other (Ne.symm n2), upd_other a1, upd_self]
  · try dsimp only
    rw [upd_other n1, upd_self]
  · intro b b1 b2 b3 b4
    try dsimp only
    rw [upd_other b1, upd_other b4, upd_other b1, upd_other b3, upd_other b1, upd_other b2]
    exact down b1
/-- NodeRow(..) -/
inductive INodeRow (as : List AV) (hp : HP) (Q : AV → HP → Prop) (E : HP → Prop) : Prop
  | mk (kind : Str) (name : Str) (uri : Str) (loc : Str) (val : Str) (par : Option Nat) (h1 : as = [.str kind, .str name, .str uri, .str loc, .str val, parV par]) (h2 : ∀ q hp', q.kind = kind → q.name = name → q.uri = uri → q.loc = loc → q.val = val → q.par = par → NewRow q hp hp' → Q (.ref q.r) hp')
def cNodeRow : CPT := INodeRow
theorem C_NodeRow (G : TopOK prog w base mg mb) : CallS prog w base 51 7 (.ref 93) cNodeRow := by
  refine C_make G.X (by rfl) (by rfl) (by rfl) (C_nodeInit G) fun as hp Q E ⟨kind, name, uri, loc, val, par, e, h⟩ x d hx hd hxd => ?_
  subst e
  refine ⟨x, d, kind, name, uri, loc, val, par, rfl, hxd, upd_self _ _ _, by rw [upd_other (Ne.symm hxd), upd_self], fun c a n hc ha hn ca cn an hp' p1 p2 p3 p4 p5 p6 => ⟨rfl, ?_⟩⟩
  obtain ⟨cx, hc⟩ := upd_fresh hc
  obtain ⟨cd, hc⟩ := upd_fresh hc
  obtain ⟨ax, ha⟩ := upd_fresh ha
  obtain ⟨ad, ha⟩ := upd_fresh ha
  obtain ⟨nx, hn⟩ := upd_fresh hn
  obtain ⟨ndd, hn⟩ := upd_fresh hn
  refine h ⟨x, d, c, a, n, kind, name, uri, loc, val, par, []⟩ hp' rfl rfl rfl rfl rfl rfl ⟨p1, p2, p3, p4, p5, rfl, hx, hd, hc, ha, hn, ?_, fun b b1 b2 b3 b4 b5 => ?_⟩
  · simp only [List.nodup_cons, List.mem_cons, List.not_mem_nil, or_false, not_or, not_false_eq_true, List.nodup_nil, and_true]
    exact ⟨⟨hxd, Ne.symm cx, Ne.symm ax, Ne.symm nx⟩, ⟨Ne.symm cd, Ne.symm ad, Ne.symm ndd⟩, ⟨ca, cn⟩, an⟩
  · rw [p6 b b2 b3 b4 b5, upd_other b1, upd_other b2]
/-- Tree() -/
inductive ITreeInit (as : List AV) (hp : HP) (Q : AV → HP → Prop) (E : HP → Prop) : Prop
  | mk (x : Addr) (d : Addr) (h1 : as = [.ref x]) (h2 : x ≠ d) (h3 : hp x = some (.inst 282 d)) (h4 : hp d = some (.attrs [])) (h5 : ∀ l, hp l = none → Q .none (upd (upd hp l (.list [])) d (.attrs [("rows", .ref l)])))
def cTreeInit : CPT := ITreeInit
theorem C_treeInit (G : TopOK prog w base mg mb) : CodeS prog w base 51 6 (.ref 111) cTreeInit := by
  refine fun_call (n := 5) G.X G.nolimit (F_treeInit w.params) (TB_cons (T_setA G.X (set_rows _) (T_list (by decide) TL_nil) (T_loc At.z rfl rfl)) TB_nil) ?_
  intro as hp Q E ⟨x, d, e, hxd, hx, hd, h⟩
  subst e
  refine ⟨rfl, by decide, fun l hl => ?_⟩
  change hp l = none at hl
  have h1 : upd hp l (.list []) x = some (.inst 282 d) := by rw [upd_other fun e => by rw [← e, hx] at hl; cases hl]; exact hx
  have h2 : upd hp l (.list []) d = some (.attrs []) := by rw [upd_other fun e => by rw [← e, hd] at hl; cases hl]; exact hd
  exact ⟨_, rfl, _, _, _, rfl, h1, h2, Nat.le_of_ble_eq_true (by rfl), h l hl⟩
inductive ITree (as : List AV) (hp : HP) (Q : AV → HP → Prop) (E : HP → Prop) : Prop
  | mk  (h1 : as = []) (h2 : ∀ x d l, hp x = none → hp d = none → hp l = none → x ≠ d → l ≠ x → l ≠ d → Q (.ref x) (upd (upd (upd (upd hp d (.attrs [])) x (.inst 282 d)) l (.list [])) d (.attrs [("rows", .ref l)])))
def cTree : CPT := ITree
theorem C_Tree (G : TopOK prog w base mg mb) : CallS prog w base 51 7 (.ref 282) cTree := by
  refine C_make G.X (by rfl) (by rfl) (by rfl) (C_treeInit G) fun as hp Q E ⟨e, h⟩ x d hx hd hxd => ?_
  subst e
  refine ⟨x, d, rfl, hxd, upd_self _ _ _, by rw [upd_other (Ne.symm hxd), upd_self], fun l hl => ⟨rfl, ?_⟩⟩
  obtain ⟨l1, hl⟩ := upd_fresh hl
  obtain ⟨l2, hl⟩ := upd_fresh hl
  exact h x d l hx hd hl hxd l1 l2
end
end Mine

end

section
open PySem PySem.W PyProof.Rows PySem.Calls
set_option Elab.async false
set_option maxRecDepth 100000
set_option linter.unusedVariables false
namespace Mine

def st_m_new_row : Option Stmt := meAt 13 1
def sc_m_new_row : Scope := scopeIn (meAt 13 1)
theorem F_m_new_row (P : Params) : FunIn (KK P) 118 ["self", "kind", "name", "uri", "local", "value", "parent"] [] (scopeIn (meAt 13 1)) (bodyOf (meAt 13 1)) (fnData (meAt 13 1) "Tree.new_row" (Value.str (Str.ofString "markupmill.tree") 278) 117) :=
  ⟨⟨_, rfl, rfl⟩, rfl, rfl, rfl, rfl, rfl, by rfl, (fun vals h => by rcases vals with _ | ⟨a0, _ | ⟨a1, _ | ⟨a2, _ | ⟨a3, _ | ⟨a4, _ | ⟨a5, _ | ⟨a6, _ | ⟨b, r⟩⟩⟩⟩⟩⟩⟩⟩ <;> first | rfl | cases h), by decide, by rfl, by decide, rfl, rfl, rfl⟩
def st_m_new_root : Option Stmt := meAt 13 3
def sc_m_new_root : Scope := scopeIn (meAt 13 3)
theorem F_m_new_root (P : Params) : FunIn (KK P) 132 ["self"] [] (scopeIn (meAt 13 3)) (bodyOf (meAt 13 3)) (fnData (meAt 13 3) "Tree.new_root" (Value.str (Str.ofString "markupmill.tree") 278) 131) :=
  ⟨⟨_, rfl, rfl⟩, rfl, rfl, rfl, rfl, rfl, by rfl, (fun vals h => by rcases vals with _ | ⟨a0, _ | ⟨b, r⟩⟩ <;> first | rfl | cases h), by decide, by rfl, by decide, rfl, rfl, rfl⟩
def st_m_add_child : Option Stmt := meAt 13 4
def sc_m_add_child : Scope := scopeIn (meAt 13 4)
theorem F_m_add_child (P : Params) : FunIn (KK P) 139 ["self", "parent", "kind", "name", "uri", "local", "value"] ["node"] (scopeIn (meAt 13 4)) (bodyOf (meAt 13 4)) (fnData (meAt 13 4) "Tree.add_child" (Value.str (Str.ofString "markupmill.tree") 278) 138) :=
  ⟨⟨_, rfl, rfl⟩, rfl, rfl, rfl, rfl, rfl, by rfl, (fun vals h => by rcases vals with _ | ⟨a0, _ | ⟨a1, _ | ⟨a2, _ | ⟨a3, _ | ⟨a4, _ | ⟨a5, _ | ⟨a6, _ | ⟨b, r⟩⟩⟩⟩⟩⟩⟩⟩ <;> first | rfl | cases h), by decide, by rfl, by decide, rfl, rfl, rfl⟩
def st_m_add_element : Option Stmt := meAt 13 5
def sc_m_add_element : Scope := scopeIn (meAt 13 5)
theorem F_m_add_element (P : Params) : FunIn (KK P) 146 ["self", "parent", "name", "uri", "local"] [] (scopeIn (meAt 13 5)) (bodyOf (meAt 13 5)) (fnData (meAt 13 5) "Tree.add_element" (Value.str (Str.ofString "markupmill.tree") 278) 145) :=
  ⟨⟨_, rfl, rfl⟩, rfl, rfl, rfl, rfl, rfl, by rfl, (fun vals h => by rcases vals with _ | ⟨a0, _ | ⟨a1, _ | ⟨a2, _ | ⟨a3, _ | ⟨a4, _ | ⟨b, r⟩⟩⟩⟩⟩⟩ <;> first | rfl | cases h), by decide, by rfl, by decide, rfl, rfl, rfl⟩
def st_m_add_text : Option Stmt := meAt 13 6
def sc_m_add_text : Scope := scopeIn (meAt 13 6)
theorem F_m_add_text (P : Params) : FunIn (KK P) 153 ["self", "parent", "value"] [] (scopeIn (meAt 13 6)) (bodyOf (meAt 13 6)) (fnData (meAt 13 6) "Tree.add_text" (Value.str (Str.ofString "markupmill.tree") 278) 152) :=
  ⟨⟨_, rfl, rfl⟩, rfl, rfl, rfl, rfl, rfl, by rfl, (fun vals h => by rcases vals with _ | ⟨a0, _ | ⟨a1, _ | ⟨a2, _ | ⟨b, r⟩⟩⟩⟩ <;> first | rfl | cases h), by decide, by rfl, by decide, rfl, rfl, rfl⟩
def st_m_set_value : Option Stmt := meAt 13 12
def sc_m_set_value : Scope := scopeIn (meAt 13 12)
theorem F_m_set_value (P : Params) : FunIn (KK P) 195 ["self", "node", "value"] ["row"] (scopeIn (meAt 13 12)) (bodyOf (meAt 13 12)) (fnData (meAt 13 12) "Tree.set_value" (Value.str (Str.ofString "markupmill.tree") 278) 194) :=
  ⟨⟨_, rfl, rfl⟩, rfl, rfl, rfl, rfl, rfl, by rfl, (fun vals h => by rcases vals with _ | ⟨a0, _ | ⟨a1, _ | ⟨a2, _ | ⟨b, r⟩⟩⟩⟩ <;> first | rfl | cases h), by decide, by rfl, by decide, rfl, rfl, rfl⟩
def st_m_is_above : Option Stmt := meAt 13 23
def sc_m_is_above : Scope := scopeIn (meAt 13 23)
theorem F_m_is_above (P : Params) : FunIn (KK P) 272 ["self", "node", "other"] [] (scopeIn (meAt 13 23)) (bodyOf (meAt 13 23)) (fnData (meAt 13 23) "Tree.is_above" (Value.str (Str.ofString "markupmill.tree") 278) 271) :=
  ⟨⟨_, rfl, rfl⟩, rfl, rfl, rfl, rfl, rfl, by rfl, (fun vals h => by rcases vals with _ | ⟨a0, _ | ⟨a1, _ | ⟨a2, _ | ⟨b, r⟩⟩⟩⟩ <;> first | rfl | cases h), by decide, by rfl, by decide, rfl, rfl, rfl⟩

/-- a row added beneath another -/
def Wd.addChild (W : Wd) (q : Rw) : Wd := match q.par with
  | none => W.addRow q
  | some p => match W.rows[p]? with
    | some qp => (W.addRow q).setRow p { qp with ch := qp.ch ++ [W.rows.length] }
    | none => W.addRow q
/-- what is above -/
inductive Up (rows : List Rw) (a : Nat) : Option Nat → Prop
  | here : Up rows a (some a)
  | step {b : Nat} {q : Rw} : rows[b]? = some q → Up rows a q.par → Up rows a (some b)
def Val (rows : List Rw) : Option Nat → Prop
  | none => True
  | some b => ∃ q, rows[b]? = some q
def Acyc (rows : List Rw) : Prop := ∃ rk : Nat → Nat, ∀ i q p, rows[i]? = some q → q.par = some p → (∃ qp, rows[p]? = some qp) ∧ rk p < rk i
def rkO (rk : Nat → Nat) : Option Nat → Nat
  | none => 0
  | some i => rk i + 1
section
variable {prog : Program} {w : World} {base : Heap} {mg mb : Str → Option Value}

inductive INewRow (as : List AV) (hp : HP) (Q : AV → HP → Prop) (E : HP → Prop) : Prop
  | mk (W : Wd) (kind : Str) (name : Str) (uri : Str) (loc : Str) (val : Str) (par : Option Nat) (h1 : St W hp) (h2 : as = [.ref W.x, .str kind, .str name, .str uri, .str loc, .str val, parV par]) (h3 : W.rows.length ≤ 800) (h4 : ∀ q hp', q.kind = kind → q.name = name → q.uri = uri → q.loc = loc → q.val = val → q.par = par → q.ch = [] → St (W.addRow q) hp' → Fw W hp (W.addRow q) hp' → Q (nt W.rows.length) hp')
def cNewRow : CPT := INewRow
theorem C_m_new_row (G : TopOK prog w base mg mb) : CallS prog w base 51 9 (.ref 118) cNewRow := by
  refine CodeS.call (fun_call (n := 8) G.X G.nolimit (F_m_new_row w.params) (TB_cons (T_expr (T_methB PySem.F.plainAttrs_list PySem.F.slot_list_append ty_append G_list (T_attr G.X (attr_rows _) (T_loc At.z rfl rfl)) (TL_cons (T_call G.X (by rfl) (T_glob G.toGC (by rfl) (by rfl) (by rfl)) (told_ref _) (TL_cons (T_loc (At.s At.z) rfl rfl) (TL_cons (T_loc (At.s (At.s At.z)) rfl rfl) (TL_cons (T_loc (At.s (At.s (At.s At.z))) rfl rfl) (TL_cons (T_loc (At.s (At.s (At.s (At.s At.z)))) rfl rfl) (TL_cons (T_loc (At.s (At.s (At.s (At.s (At.s At.z))))) rfl rfl) (TL_cons (T_loc (At.s (At.s (At.s (At.s (At.s (At.s At.z)))))) rfl rfl) TL_nil)))))) (C_NodeRow G) (by decide)) TL_nil) O_append.call (by decide)) (fun _ => trivial)) (TB_cons (T_ret (T_bin O_sub (by decide) (T_callB (T_bltn G.toGC (by rfl) Boot.«len» (by decide) (by rfl) (by rfl)) (TL_cons (T_attr G.X (attr_rows _) (T_loc At.z rfl rfl)) TL_nil) (O_len G.low).call (by decide)) T_cint)) TB_nil)) ?_)
  intro as hp Q E ⟨W, kind, name, uri, loc, val, par, S, e, hz, h⟩
  subst e
  refine ⟨rfl, _, rfl, _, _, _, _, rfl, S.x, S.d, rfl, rfl, ⟨_, _, rfl, S.rl⟩, _, rfl, _, rfl, _, rfl, _, rfl, _, rfl, _, rfl, kind, name, uri, loc, val, par, rfl, fun q hp' e1 e2 e3 e4 e5 e6 N => ?_⟩
  obtain ⟨S', f'⟩ := S.addRow N
  have hs := h q _ e1 e2 e3 e4 e5 e6 N.ch S' f'
  have x1 := S'.x
  have x2 := S'.d
  rw [List.map_append] at x1 x2
  refine ⟨_, _, _, rfl, N.keep S.rl, by rw [List.length_map]; omega, _, rfl, _, _, _, _, rfl, x1, x2, rfl, rfl, _, rfl, .inl ⟨_, upd_self _ _ _, ?_, ?_⟩⟩
  · simp; omega
  · rw [List.map_append] at hs
    have e : ((((W.rows.map fun q => AV.ref q.r) ++ [AV.ref q.r]).length : Nat) : Int) - 1 = (W.rows.length : Int) := by simp
    show Q (.int (_ - 1)) _
    rw [e]; exact hs

inductive INewRoot (as : List AV) (hp : HP) (Q : AV → HP → Prop) (E : HP → Prop) : Prop
  | mk (W : Wd) (h1 : St W hp) (h2 : as = [.ref W.x]) (h3 : W.rows.length ≤ 800) (h4 : ∀ q hp', q.kind = ("root" : Str) → q.name = ("" : Str) → q.uri = ("" : Str) → q.loc = ("" : Str) → q.val = ("" : Str) → q.par = none → q.ch = [] → St (W.addRow q) hp' → Fw W hp (W.addRow q) hp' → Q (nt W.rows.length) hp')
def cNewRoot : CPT := INewRoot
theorem C_m_new_root (G : TopOK prog w base mg mb) : CallS prog w base 51 11 (.ref 132) cNewRoot := by
  refine CodeS.call (fun_call (n := 10) G.X G.nolimit (F_m_new_root w.params) (TB_cons (T_ret (T_meth (CT := 282) (f := 118) G.X (by rfl) (by rfl) (by rfl) (by rfl) (T_loc At.z rfl rfl) (TL_cons T_cstr (TL_cons T_cstr (TL_cons T_cstr (TL_cons T_cstr (TL_cons T_cstr (TL_cons T_cnone TL_nil)))))) (C_m_new_row G) (by decide))) TB_nil) ?_)
  intro as hp Q E ⟨W, S, e, hz, h⟩
  subst e
  exact ⟨rfl, _, rfl, _, _, _, rfl, S.x, S.d, notRows (by decide), W, _, _, _, _, _, none, S, rfl, hz, fun q hp' e1 e2 e3 e4 e5 e6 => h q hp' e1 e2 e3 e4 e5 e6⟩

inductive IAddChild (as : List AV) (hp : HP) (Q : AV → HP → Prop) (E : HP → Prop) : Prop
  | mk (W : Wd) (par : Option Nat) (kind : Str) (name : Str) (uri : Str) (loc : Str) (val : Str) (h1 : St W hp) (h2 : as = [.ref W.x, parV par, .str kind, .str name, .str uri, .str loc, .str val]) (h3 : W.rows.length ≤ 800) (h4 : (∀ p, par = some p → ∃ qp, W.rows[p]? = some qp ∧ (qp.kind = ("root" : Str) ∨ qp.kind = ("element" : Str)) ∧ qp.ch.length ≤ 900)) (h5 : ∀ q hp', q.kind = kind → q.name = name → q.uri = uri → q.loc = loc → q.val = val → q.par = par → q.ch = [] → St (W.addChild q) hp' → Fw W hp (W.addChild q) hp' → Q (nt W.rows.length) hp')
def cAddChild : CPT := IAddChild
theorem C_m_add_child (G : TopOK prog w base mg mb) : CallS prog w base 51 11 (.ref 139) cAddChild := by
  refine CodeS.call (fun_call (n := 10) G.X G.nolimit (F_m_add_child w.params) (TB_cons (T_if (TT_bool (TA_and (TT_cmp C_isNot (by decide) (T_loc (At.s At.z) rfl rfl) T_cnone) (TA_and (TT_cmp (C_notInTop (xs := ["root", "element"]) (tup_PARENTS G.toGC) rfl) (by decide) (T_attr G.X (attr_kind _) (T_meth (CT := 282) (f := 125) G.X (by rfl) (by rfl) (by rfl) (by rfl) (T_loc At.z rfl rfl) (TL_cons (T_loc (At.s At.z) rfl rfl) TL_nil) (C_m_row G) (by decide))) (T_glob G.toGC (by rfl) (by rfl) (by rfl))) TA_andNil))) (TB_cons (T_raise G.X (excK _) (T_glob G.toGC (v := .ref 51) (by rfl) (by rfl) (by rfl)) (C_errInit G) (by decide)) TB_nil) TB_nil) (TB_cons (T_assign (At.s (At.s (At.s (At.s (At.s (At.s (At.s At.z))))))) (by decide) (T_meth (CT := 282) (f := 118) G.X (by rfl) (by rfl) (by rfl) (by rfl) (T_loc At.z rfl rfl) (TL_cons (T_loc (At.s (At.s At.z)) rfl rfl) (TL_cons (T_loc (At.s (At.s (At.s At.z))) rfl rfl) (TL_cons (T_loc (At.s (At.s (At.s (At.s At.z)))) rfl rfl) (TL_cons (T_loc (At.s (At.s (At.s (At.s (At.s At.z))))) rfl rfl) (TL_cons (T_loc (At.s (At.s (At.s (At.s (At.s (At.s At.z)))))) rfl rfl) (TL_cons (T_loc (At.s At.z) rfl rfl) TL_nil)))))) (C_m_new_row G) (by decide))) (TB_cons (T_if (TT_cmp C_isNot (by decide) (T_loc (At.s At.z) rfl rfl) T_cnone) (TB_cons (T_expr (T_methB PySem.F.plainAttrs_list PySem.F.slot_list_append ty_append G_list (T_attr G.X (attr_children _) (T_item (T_attr G.X (attr_rows _) (T_loc At.z rfl rfl)) (T_loc (At.s At.z) rfl rfl))) (TL_cons (T_loc (At.s (At.s (At.s (At.s (At.s (At.s (At.s At.z))))))) rfl rfl) TL_nil) O_append.call (by decide)) (fun _ => trivial)) TB_nil) TB_nil) (TB_cons (T_ret (T_loc (At.s (At.s (At.s (At.s (At.s (At.s (At.s At.z))))))) rfl rfl)) TB_nil)))) ?_)
  intro as hp Q E ⟨W, par, kind, name, uri, loc, val, S, e, hz, hpar, h⟩
  subst e
  refine ⟨rfl, ?_⟩
  cases par with
  | none =>
    refine ⟨_, rfl, false, rfl, false, rfl, nofun, fun _ => ⟨nofun, fun _ => ?_⟩⟩
    refine ⟨_, rfl, _, _, _, rfl, S.x, S.d, notRows (by decide), _, rfl, _, rfl, _, rfl, _, rfl, _, rfl, _, rfl, W, kind, name, uri, loc, val, none, S, rfl, hz, fun q hp' e1 e2 e3 e4 e5 e6 e7 S' f' => ?_⟩
    have hs := h q hp' e1 e2 e3 e4 e5 e6 e7
    unfold Wd.addChild at hs
    rw [e6] at hs
    exact ⟨_, rfl, false, rfl, false, rfl, nofun, fun _ => ⟨_, rfl, hs S' f'⟩⟩
  | some p =>
    obtain ⟨qp, hqp, hk, hl⟩ := hpar p rfl
    have R := S.row p qp hqp
    refine ⟨_, rfl, true, rfl, true, rfl, fun _ => ?_, nofun⟩
    refine ⟨_, rfl, _, _, _, rfl, S.x, S.d, notRows (by decide), _, rfl, W, p, qp, S, rfl, hqp, by omega, _, _, _, _, rfl, R.r, R.d, rfl, rfl, false, ⟨rfl, ?_⟩, false, rfl, nofun, fun _ => ⟨nofun, fun _ => ?_⟩⟩
    · rcases hk with hk | hk <;> simp [hk]
    refine ⟨_, rfl, _, _, _, rfl, S.x, S.d, notRows (by decide), _, rfl, _, rfl, _, rfl, _, rfl, _, rfl, _, rfl, W, kind, name, uri, loc, val, some p, S, rfl, hz, fun q hp' e1 e2 e3 e4 e5 e6 e7 S' f' => ?_⟩
    have hs := fun hp'' => h q hp'' e1 e2 e3 e4 e5 e6 e7
    have hpl : p < W.rows.length := (List.getElem?_eq_some_iff.mp hqp).1
    have hqp' : (W.addRow q).rows[p]? = some qp := by show (W.rows ++ [q])[p]? = _; rw [List.getElem?_append_left hpl]; exact hqp
    obtain ⟨S2, f2⟩ := S'.setCh hqp' (qp.ch ++ [W.rows.length])
    have e8 : W.addChild q = (W.addRow q).setRow p { qp with ch := qp.ch ++ [W.rows.length] } := by unfold Wd.addChild; rw [e6]; simp only [hqp]
    rw [e8] at hs
    have R' := S'.row p qp hqp'
    refine ⟨_, rfl, true, rfl, true, rfl, fun _ => ?_, nofun⟩
    refine ⟨_, rfl, _, _, _, _, rfl, S'.x, S'.d, rfl, rfl, _, rfl, _, .inl ⟨_, S'.rl, Int.natCast_nonneg _, by omega, by simp [hqp']⟩, _, _, _, _, rfl, R'.r, R'.d, rfl, rfl, ⟨_, _, rfl, R'.c⟩, _, rfl, _, _, _, rfl, R'.c, by rw [List.length_map]; omega, _, rfl, ?_⟩
    have hs2 := hs _ S2 (f'.trans f2)
    rw [List.map_append] at hs2
    exact hs2

theorem C_m_add_element (G : TopOK prog w base mg mb) : CallS prog w base 51 13 (.ref 146) (fun as hp Q _ => ∃ W par name uri loc, St W hp ∧ as = [.ref W.x, parV par, .str name, .str uri, .str loc] ∧ W.rows.length ≤ 800 ∧
    (∀ p, par = some p → ∃ qp, W.rows[p]? = some qp ∧ (qp.kind = ("root" : Str) ∨ qp.kind = ("element" : Str)) ∧ qp.ch.length ≤ 900) ∧
    ∀ q hp', q.kind = ("element" : Str) → q.name = name → q.uri = uri → q.loc = loc → q.val = ("" : Str) → q.par = par → q.ch = [] → St (W.addChild q) hp' → Fw W hp (W.addChild q) hp' → Q (nt W.rows.length) hp') := by
  refine CodeS.call (fun_call (n := 12) G.X G.nolimit (F_m_add_element w.params) (TB_cons (T_ret (T_meth (CT := 282) (f := 139) G.X (by rfl) (by rfl) (by rfl) (by rfl) (T_loc At.z rfl rfl) (TL_cons (T_loc (At.s At.z) rfl rfl) (TL_cons T_cstr (TL_cons (T_loc (At.s (At.s At.z)) rfl rfl) (TL_cons (T_loc (At.s (At.s (At.s At.z))) rfl rfl) (TL_cons (T_loc (At.s (At.s (At.s (At.s At.z)))) rfl rfl) (TL_cons T_cstr TL_nil)))))) (C_m_add_child G) (by decide))) TB_nil) ?_)
  intro as hp Q E ⟨W, par, name, uri, loc, S, e, hz, hpar, h⟩
  subst e
  exact ⟨rfl, _, rfl, _, _, _, rfl, S.x, S.d, notRows (by decide), _, rfl, _, rfl, _, rfl, _, rfl, W, par, _, _, _, _, _, S, rfl, hz, hpar, fun q hp' e1 e2 e3 e4 e5 e6 => h q hp' e1 e2 e3 e4 e5 e6⟩
theorem C_m_add_text (G : TopOK prog w base mg mb) : CallS prog w base 51 13 (.ref 153) (fun as hp Q _ => ∃ W par val, St W hp ∧ as = [.ref W.x, parV par, .str val] ∧ W.rows.length ≤ 800 ∧
    (∀ p, par = some p → ∃ qp, W.rows[p]? = some qp ∧ (qp.kind = ("root" : Str) ∨ qp.kind = ("element" : Str)) ∧ qp.ch.length ≤ 900) ∧
    ∀ q hp', q.kind = ("text" : Str) → q.name = ("" : Str) → q.uri = ("" : Str) → q.loc = ("" : Str) → q.val = val → q.par = par → q.ch = [] → St (W.addChild q) hp' → Fw W hp (W.addChild q) hp' → Q (nt W.rows.length) hp') := by
  refine CodeS.call (fun_call (n := 12) G.X G.nolimit (F_m_add_text w.params) (TB_cons (T_ret (T_meth (CT := 282) (f := 139) G.X (by rfl) (by rfl) (by rfl) (by rfl) (T_loc At.z rfl rfl) (TL_cons (T_loc (At.s At.z) rfl rfl) (TL_cons T_cstr (TL_cons T_cstr (TL_cons T_cstr (TL_cons T_cstr (TL_cons (T_loc (At.s (At.s At.z)) rfl rfl) TL_nil)))))) (C_m_add_child G) (by decide))) TB_nil) ?_)
  intro as hp Q E ⟨W, par, val, S, e, hz, hpar, h⟩
  subst e
  exact ⟨rfl, _, rfl, _, _, _, rfl, S.x, S.d, notRows (by decide), _, rfl, _, rfl, W, par, _, _, _, _, _, S, rfl, hz, hpar, fun q hp' e1 e2 e3 e4 e5 e6 => h q hp' e1 e2 e3 e4 e5 e6⟩

inductive ISetValue (as : List AV) (hp : HP) (Q : AV → HP → Prop) (E : HP → Prop) : Prop
  | mk (W : Wd) (i : Nat) (q : Rw) (v : Str) (h1 : St W hp) (h2 : as = [.ref W.x, nt i, .str v]) (h3 : W.rows.length ≤ 900) (h4 : W.rows[i]? = some q) (h5 : q.kind = ("text" : Str)) (h6 : ∀ hp', St (W.setRow i { q with val := v }) hp' → Fw W hp (W.setRow i { q with val := v }) hp' → Q .none hp')
def cSetValue : CPT := ISetValue
theorem C_m_set_value (G : TopOK prog w base mg mb) : CallS prog w base 51 11 (.ref 195) cSetValue := by
  refine CodeS.call (fun_call (n := 10) G.X G.nolimit (F_m_set_value w.params) (TB_cons (T_assign (At.s (At.s (At.s At.z))) (by decide) (T_meth (CT := 282) (f := 125) G.X (by rfl) (by rfl) (by rfl) (by rfl) (T_loc At.z rfl rfl) (TL_cons (T_loc (At.s At.z) rfl rfl) TL_nil) (C_m_row G) (by decide))) (TB_cons (T_if (TT_cmp (C_inTop (xs := ["root", "element"]) (tup_PARENTS G.toGC) rfl) (by decide) (T_attr G.X (attr_kind _) (T_loc (At.s (At.s (At.s At.z))) rfl rfl)) (T_glob G.toGC (by rfl) (by rfl) (by rfl))) (TB_cons (T_raise G.X (excK _) (T_glob G.toGC (v := .ref 51) (by rfl) (by rfl) (by rfl)) (C_errInit G) (by decide)) TB_nil) TB_nil) (TB_cons (T_setA G.X (set_value _) (T_loc (At.s (At.s At.z)) rfl rfl) (T_loc (At.s (At.s (At.s At.z))) rfl rfl)) TB_nil))) ?_)
  intro as hp Q E ⟨W, i, q, v, S, e, hz, hq, hk, h⟩
  subst e
  have R := S.row i q hq
  refine ⟨rfl, _, rfl, _, _, _, rfl, S.x, S.d, notRows (by decide), _, rfl, W, i, q, S, rfl, hq, hz, _, rfl, _, _, _, _, rfl, R.r, R.d, rfl, rfl, false, ⟨rfl, by rw [hk]; decide⟩, false, rfl, nofun, fun _ => ?_⟩
  obtain ⟨S', f'⟩ := S.setFs hq (q' := { q with val := v }) rfl rfl rfl rfl rfl rfl
  exact ⟨_, rfl, _, rfl, _, _, _, rfl, R.r, R.d, Nat.le_of_ble_eq_true (by rfl), h _ S' f'⟩

theorem up_none {rows : List Rw} {a : Nat} : ¬ Up rows a none := fun h => by cases h
theorem up_some {rows : List Rw} {a b : Nat} {q : Rw} (h : rows[b]? = some q) : Up rows a (some b) ↔ b = a ∨ Up rows a q.par :=
  ⟨fun x => by
    cases x with
    | here => exact .inl rfl
    | step h' u => rw [h] at h'; cases h'; exact .inr u, fun x => x.elim (fun e => by rw [e]; exact .here) fun u => .step h u⟩
inductive IAbove (as : List AV) (hp : HP) (Q : AV → HP → Prop) (E : HP → Prop) : Prop
  | mk (W : Wd) (a : Nat) (b : Option Nat) (h1 : St W hp) (h2 : as = [.ref W.x, nt a, parV b]) (h3 : W.rows.length ≤ 900) (h4 : Acyc W.rows) (h5 : Val W.rows b) (h6 : ∀ r : Bool, (r = true ↔ Up W.rows a b) → Q (.bool r) hp)
def cAbove : CPT := IAbove
theorem C_m_is_above (G : TopOK prog w base mg mb) : CallS prog w base 51 11 (.ref 272) cAbove := by
  refine CodeS.call (fun_call (n := 10) G.X G.nolimit (F_m_is_above w.params) (TB_cons (T_while (TT_cmp C_isNot (by decide) (T_loc (At.s (At.s At.z)) rfl rfl) T_cnone) (TB_cons (T_if (TT_cmp C_eq (by decide) (T_loc (At.s (At.s At.z)) rfl rfl) (T_loc (At.s At.z) rfl rfl)) (TB_cons (T_ret T_cbool) TB_nil) TB_nil) (TB_cons (T_assign (At.s (At.s At.z)) (by decide) (T_attr G.X (attr_parent _) (T_meth (CT := 282) (f := 125) G.X (by rfl) (by rfl) (by rfl) (by rfl) (T_loc At.z rfl rfl) (TL_cons (T_loc (At.s (At.s At.z)) rfl rfl) TL_nil) (C_m_row G) (by decide)))) TB_nil))) (TB_cons (T_ret T_cbool) TB_nil)) ?_)
  intro as hp Q E ⟨W, a, b, S, e, hz, ⟨rk, hrk⟩, hb, h⟩
  subst e
  refine ⟨rfl, fun k σ' => ∃ b', σ' = ⟨[some (.ref W.x), some (nt a), some (parV b')], hp⟩ ∧ Val W.rows b' ∧ (Up W.rows a b ↔ Up W.rows a b') ∧ k = rkO rk b', _, ⟨b, rfl, hb, Iff.rfl, rfl⟩, ?_⟩
  rintro k σ' ⟨b', rfl, hv, hu, rfl⟩
  cases b' with
  | none => exact ⟨_, rfl, false, rfl, false, rfl, nofun, fun _ => h false ⟨nofun, fun u => (up_none (hu.mp u)).elim⟩⟩
  | some i =>
    obtain ⟨q, hq⟩ := hv
    have R := S.row i q hq
    refine ⟨_, rfl, true, rfl, true, rfl, fun _ => ?_, nofun⟩
    refine ⟨_, rfl, _, rfl, decide ((i : Int) = a), rfl, decide ((i : Int) = a), rfl, fun e => ?_, fun e => ?_⟩
    · have : i = a := by have := of_decide_eq_true e; omega
      exact h true ⟨fun _ => hu.mpr (by rw [this]; exact .here), fun _ => rfl⟩
    · have hne : i ≠ a := by have := of_decide_eq_false e; omega
      refine ⟨_, rfl, _, _, _, rfl, S.x, S.d, notRows (by decide), _, rfl, W, i, q, S, rfl, hq, hz, _, _, _, _, rfl, R.r, R.d, rfl, by cases q.par <;> rfl, ?_⟩
      refine ⟨rkO rk q.par, ?_, q.par, rfl, ?_, hu.trans ((up_some hq).trans ⟨fun x => x.resolve_left hne, .inr⟩), rfl⟩
      · cases e : q.par with
        | none => exact Nat.succ_pos _
        | some p => exact Nat.succ_lt_succ (hrk i q p hq e).2
      · cases e : q.par with
        | none => trivial
        | some p => exact (hrk i q p hq e).1
end
end Mine

end

section
open PySem PySem.W PyProof.Rows PySem.Calls
set_option Elab.async false
set_option maxRecDepth 100000
set_option linter.unusedVariables false
namespace Mine

/-- a forest: parents and children agree, no circles -/
structure OK (rows : List Rw) : Prop where
  up : ∀ (i : Nat) (q : Rw) (p : Nat), rows[i]? = some q → q.par = some p → ∃ qp : Rw, rows[p]? = some qp ∧ i ∈ qp.ch
  dn : ∀ (i : Nat) (q : Rw) (c : Nat), rows[i]? = some q → c ∈ q.ch → ∃ qc : Rw, rows[c]? = some qc ∧ qc.par = some i
  nd : ∀ (i : Nat) (q : Rw), rows[i]? = some q → q.ch.Nodup
  ac : Acyc rows
  kd : ∀ (i : Nat) (q : Rw), rows[i]? = some q → (q.kind = ("root" : Str) ∨ q.kind = ("element" : Str) ∨ q.kind = ("text" : Str)) ∧ (q.kind = ("text" : Str) → q.ch = []) ∧ (q.kind = ("root" : Str) → q.par = none)

theorem nodup_le : ∀ {n : Nat} {l : List Nat}, l.Nodup → (∀ x ∈ l, x < n) → l.length ≤ n
  | 0, l, _, h => by
    cases l with
    | nil => exact Nat.le_refl _
    | cons a r => exact absurd (h a (.head _)) (Nat.not_lt_zero _)
  | n + 1, l, hn, h => by
    have h1 : (l.erase n).length ≤ n := nodup_le (hn.erase n) fun x hx => by
      have h2 := (hn.mem_erase_iff.mp hx)
      have := h x h2.2
      have := h2.1
      omega
    by_cases hm : n ∈ l
    · rw [List.length_erase_of_mem hm] at h1; omega
    · rw [List.erase_of_not_mem hm] at h1; omega
theorem OK.ch_lt {rows : List Rw} (K : OK rows) {i : Nat} {q : Rw} (h : rows[i]? = some q) : ∀ c ∈ q.ch, c < rows.length := fun c hc => by
  obtain ⟨qc, h1, _⟩ := K.dn i q c h hc
  exact (List.getElem?_eq_some_iff.mp h1).1
theorem OK.ch_len {rows : List Rw} (K : OK rows) {i : Nat} {q : Rw} (h : rows[i]? = some q) : q.ch.length ≤ rows.length := nodup_le (K.nd i q h) (K.ch_lt h)
theorem OK.par_ne {rows : List Rw} (K : OK rows) {i p : Nat} {q : Rw} (h : rows[i]? = some q) (hp : q.par = some p) : i ≠ p := fun e => by
  obtain ⟨rk, hrk⟩ := K.ac
  have := (hrk i q p h hp).2
  rw [e] at this
  exact Nat.lt_irrefl _ this
theorem OK.val {rows : List Rw} (K : OK rows) {i : Nat} {q : Rw} (h : rows[i]? = some q) : Val rows q.par := by
  cases e : q.par with
  | none => trivial
  | some p => obtain ⟨qp, h1, _⟩ := K.up i q p h e; exact ⟨qp, h1⟩
theorem get_set2 {rows : List Rw} {i p : Nat} {a b : Rw} (hi : i < rows.length) (hp : p < rows.length) (j : Nat) :
    ((rows.set p a).set i b)[j]? = if j = i then some b else if j = p then some a else rows[j]? := by
  rw [List.getElem?_set, List.getElem?_set]
  simp only [List.length_set]
  by_cases h1 : i = j
  · subst h1; simp [hi]
  · rw [if_neg h1, if_neg (Ne.symm h1)]
    by_cases h2 : p = j
    · subst h2; simp [hp]
    · rw [if_neg h2, if_neg (Ne.symm h2)]
def rmR (rows : List Rw) (i : Nat) (q : Rw) (p : Nat) (qp : Rw) : List Rw := (rows.set p { qp with ch := qp.ch.erase i }).set i { q with par := none }
def insL (l : List Nat) (k : Nat) (x : Nat) : List Nat := l.take k ++ x :: l.drop k
def insR (rows : List Rw) (i : Nat) (q : Rw) (p : Nat) (qp : Rw) (k : Nat) : List Rw := (rows.set p { qp with ch := insL qp.ch k i }).set i { q with par := some p }
theorem mem_insL {l : List Nat} {k x y : Nat} : y ∈ insL l k x ↔ y = x ∨ y ∈ l := by
  unfold insL
  rw [List.mem_append, List.mem_cons]
  have : y ∈ l ↔ y ∈ l.take k ∨ y ∈ l.drop k := by rw [← List.mem_append, List.take_append_drop]
  rw [this]
  constructor
  · rintro (h | h | h)
    · exact .inr (.inl h)
    · exact .inl h
    · exact .inr (.inr h)
  · rintro (h | h | h)
    · exact .inr (.inl h)
    · exact .inl h
    · exact .inr (.inr h)
theorem nodup_insL {l : List Nat} {k x : Nat} (hn : l.Nodup) (hx : x ∉ l) : (insL l k x).Nodup := by
  have h : (insL l k x).Perm (x :: l) := by
    unfold insL
    have := List.perm_middle (a := x) (l₁ := l.take k) (l₂ := l.drop k)
    rw [List.take_append_drop] at this
    exact this
  rw [h.nodup_iff]
  exact List.nodup_cons.mpr ⟨hx, hn⟩
theorem rm_get {rows : List Rw} {i p : Nat} {q qp : Rw} (hq : rows[i]? = some q) (hqp : rows[p]? = some qp) (j : Nat) :
    (rmR rows i q p qp)[j]? = if j = i then some { q with par := none } else if j = p then some { qp with ch := qp.ch.erase i } else rows[j]? :=
  get_set2 (List.getElem?_eq_some_iff.mp hq).1 (List.getElem?_eq_some_iff.mp hqp).1 j
theorem ins_get {rows : List Rw} {i p : Nat} {q qp : Rw} {k : Nat} (hq : rows[i]? = some q) (hqp : rows[p]? = some qp) (j : Nat) :
    (insR rows i q p qp k)[j]? = if j = i then some { q with par := some p } else if j = p then some { qp with ch := insL qp.ch k i } else rows[j]? :=
  get_set2 (List.getElem?_eq_some_iff.mp hq).1 (List.getElem?_eq_some_iff.mp hqp).1 j
theorem rm_len {rows : List Rw} {i p : Nat} {q qp : Rw} : (rmR rows i q p qp).length = rows.length := by unfold rmR; simp
theorem ins_len {rows : List Rw} {i p k : Nat} {q qp : Rw} : (insR rows i q p qp k).length = rows.length := by unfold insR; simp

theorem OK.rm {rows : List Rw} (K : OK rows) {i p : Nat} {q qp : Rw} (hq : rows[i]? = some q) (hp : q.par = some p) (hqp : rows[p]? = some qp) : OK (rmR rows i q p qp) := by
  have G := rm_get hq hqp
  have hne := K.par_ne hq hp
  -- what a row of the new is of the old
  have old : ∀ j z, (rmR rows i q p qp)[j]? = some z → ∃ z0, rows[j]? = some z0 ∧ z.kind = z0.kind ∧ (∀ c ∈ z.ch, c ∈ z0.ch) ∧ (z.par = z0.par ∨ z.par = none) ∧ (j = p → z.ch = qp.ch.erase i) ∧ (j ≠ p → z.ch = z0.ch) ∧ (j ≠ i → z.par = z0.par) ∧ (j = i → z.par = none) := by
    intro j z hz
    rw [G] at hz
    split at hz
    · rename_i e; subst e; cases hz
      exact ⟨q, hq, rfl, fun _ h => h, .inr rfl, fun e => absurd e hne, fun _ => rfl, fun h => absurd rfl h, fun _ => rfl⟩
    · rename_i h1
      split at hz
      · rename_i e; subst e; cases hz
        exact ⟨qp, hqp, rfl, fun c h => List.mem_of_mem_erase h, .inl rfl, fun _ => rfl, fun h => absurd rfl h, fun _ => rfl, fun e => absurd e h1⟩
      · rename_i h2
        exact ⟨z, hz, rfl, fun _ h => h, .inl rfl, fun e => absurd e h2, fun _ => rfl, fun _ => rfl, fun e => absurd e h1⟩
  have new : ∀ j z0, rows[j]? = some z0 → ∃ z, (rmR rows i q p qp)[j]? = some z ∧ (j ≠ p → z.ch = z0.ch) ∧ (j = p → z.ch = qp.ch.erase i) ∧ (j ≠ i → z.par = z0.par) := by
    intro j z0 h0
    rw [G]
    by_cases h1 : j = i
    · subst h1
      rw [hq] at h0; cases h0
      rw [if_pos rfl]
      exact ⟨_, rfl, fun _ => rfl, fun e => absurd e hne, fun h => absurd rfl h⟩
    · rw [if_neg h1]
      by_cases h2 : j = p
      · subst h2
        rw [hqp] at h0; cases h0
        rw [if_pos rfl]
        exact ⟨_, rfl, fun h => absurd rfl h, fun _ => rfl, fun _ => rfl⟩
      · rw [if_neg h2]
        exact ⟨z0, h0, fun _ => rfl, fun e => absurd e h2, fun _ => rfl⟩
  refine ⟨fun j z p' hz hpar => ?_, fun j z c hz hc => ?_, fun j z hz => ?_, ?_, fun j z hz => ?_⟩
  · obtain ⟨z0, h0, hk, hc, hpp, h1, h2, h3, h4⟩ := old j z hz
    have hji : j ≠ i := fun e => by rw [h4 e] at hpar; cases hpar
    obtain ⟨z1, hz1, hm⟩ := K.up j z0 p' h0 (by rw [← h3 hji]; exact hpar)
    obtain ⟨z2, hz2, g1, g2, _⟩ := new p' z1 hz1
    refine ⟨z2, hz2, ?_⟩
    by_cases e : p' = p
    · subst e
      rw [hqp] at hz1; cases hz1
      rw [g2 rfl]; exact (List.mem_erase_of_ne hji).mpr hm
    · rw [g1 e]; exact hm
  · obtain ⟨z0, h0, hk, hcc, hpp, h1, h2, h3, h4⟩ := old j z hz
    obtain ⟨qc, hqc, hcp⟩ := K.dn j z0 c h0 (hcc c hc)
    have hci : c ≠ i := fun e => by
      subst e
      rw [hq] at hqc; cases hqc
      rw [hp] at hcp; cases hcp
      rw [h1 rfl] at hc
      exact (K.nd p qp hqp).not_mem_erase hc
    obtain ⟨z2, hz2, _, _, g3⟩ := new c qc hqc
    exact ⟨z2, hz2, by rw [g3 hci]; exact hcp⟩
  · obtain ⟨z0, h0, _, _, _, h1, h2, _⟩ := old j z hz
    by_cases e : j = p
    · rw [h1 e]; exact (K.nd p qp hqp).erase _
    · rw [h2 e]; exact K.nd j z0 h0
  · obtain ⟨rk, hrk⟩ := K.ac
    refine ⟨rk, fun j z p' hz hpar => ?_⟩
    obtain ⟨z0, h0, hk, hc, hpp, h1, h2, h3, h4⟩ := old j z hz
    have hji : j ≠ i := fun e => by rw [h4 e] at hpar; cases hpar
    obtain ⟨⟨z1, hz1⟩, hlt⟩ := hrk j z0 p' h0 (by rw [← h3 hji]; exact hpar)
    obtain ⟨z2, hz2, _⟩ := new p' z1 hz1
    exact ⟨⟨z2, hz2⟩, hlt⟩
  · obtain ⟨z0, h0, hk, hc, hpp, _⟩ := old j z hz
    obtain ⟨k1, k2, k3⟩ := K.kd j z0 h0
    refine ⟨by rw [hk]; exact k1, fun e => ?_, fun e => ?_⟩
    · have h0 := k2 (by rw [← hk]; exact e)
      rw [h0] at hc
      exact List.eq_nil_iff_forall_not_mem.mpr fun c hcc => nomatch hc c hcc
    · rcases hpp with h | h
      · rw [h]; exact k3 (by rw [← hk]; exact e)
      · exact h

open Classical in
theorem OK.ins {rows : List Rw} (K : OK rows) {i p k : Nat} {q qp : Rw} (hq : rows[i]? = some q) (hp : q.par = none) (hqp : rows[p]? = some qp) (hk1 : q.kind ≠ ("root" : Str)) (hk2 : qp.kind ≠ ("text" : Str)) (hu : ¬ Up rows i (some p)) : OK (insR rows i q p qp k) := by
  have G := ins_get (k := k) hq hqp
  have hne : i ≠ p := fun e => hu (by rw [e]; exact .here)
  have old : ∀ j z, (insR rows i q p qp k)[j]? = some z → ∃ z0, rows[j]? = some z0 ∧ z.kind = z0.kind ∧ (j = i → z.par = some p ∧ z.ch = q.ch) ∧ (j ≠ i → z.par = z0.par) ∧ (j = p → z.ch = insL qp.ch k i) ∧ (j ≠ p → z.ch = z0.ch) := by
    intro j z hz
    rw [G] at hz
    split at hz
    · rename_i e; subst e; cases hz
      exact ⟨q, hq, rfl, fun _ => ⟨rfl, rfl⟩, fun h => absurd rfl h, fun e => absurd e hne, fun _ => rfl⟩
    · rename_i h1
      split at hz
      · rename_i e; subst e; cases hz
        exact ⟨qp, hqp, rfl, fun e => absurd e h1, fun _ => rfl, fun _ => rfl, fun h => absurd rfl h⟩
      · rename_i h2
        exact ⟨z, hz, rfl, fun e => absurd e h1, fun _ => rfl, fun e => absurd e h2, fun _ => rfl⟩
  have new : ∀ j z0, rows[j]? = some z0 → ∃ z, (insR rows i q p qp k)[j]? = some z ∧ (∀ c ∈ z0.ch, c ∈ z.ch) ∧ (j = p → i ∈ z.ch) ∧ (j ≠ i → z.par = z0.par) ∧ (j = i → z.par = some p) := by
    intro j z0 h0
    rw [G]
    by_cases h1 : j = i
    · subst h1
      rw [hq] at h0; cases h0
      rw [if_pos rfl]
      exact ⟨_, rfl, fun _ h => h, fun e => absurd e hne, fun h => absurd rfl h, fun _ => rfl⟩
    · rw [if_neg h1]
      by_cases h2 : j = p
      · subst h2
        rw [hqp] at h0; cases h0
        rw [if_pos rfl]
        exact ⟨_, rfl, fun c h => mem_insL.mpr (.inr h), fun _ => mem_insL.mpr (.inl rfl), fun _ => rfl, fun e => absurd e h1⟩
      · rw [if_neg h2]
        exact ⟨z0, h0, fun _ h => h, fun e => absurd e h2, fun _ => rfl, fun e => absurd e h1⟩
  have hnin : i ∉ qp.ch := fun h => by
    obtain ⟨qc, h1, h2⟩ := K.dn p qp i hqp h
    rw [hq] at h1; cases h1
    rw [hp] at h2; cases h2
  refine ⟨fun j z p' hz hpar => ?_, fun j z c hz hc => ?_, fun j z hz => ?_, ?_, fun j z hz => ?_⟩
  · obtain ⟨z0, h0, hk, h1, h2, h3, h4⟩ := old j z hz
    by_cases e : j = i
    · obtain ⟨e1, _⟩ := h1 e
      rw [e1] at hpar; cases hpar
      obtain ⟨z2, hz2, _, g2, _⟩ := new p qp hqp
      exact ⟨z2, hz2, by rw [e]; exact g2 rfl⟩
    · obtain ⟨z1, hz1, hm⟩ := K.up j z0 p' h0 (by rw [← h2 e]; exact hpar)
      obtain ⟨z2, hz2, g1, _⟩ := new p' z1 hz1
      exact ⟨z2, hz2, g1 _ hm⟩
  · obtain ⟨z0, h0, hk, h1, h2, h3, h4⟩ := old j z hz
    have hcc : c = i ∧ j = p ∨ c ∈ z0.ch := by
      by_cases e : j = p
      · subst e
        rw [hqp] at h0; cases h0
        rw [h3 rfl] at hc
        exact (mem_insL.mp hc).imp (fun e => ⟨e, rfl⟩) id
      · rw [h4 e] at hc; exact .inr hc
    rcases hcc with ⟨rfl, rfl⟩ | hcc
    · obtain ⟨z2, hz2, _, _, _, g⟩ := new c q hq
      exact ⟨z2, hz2, g rfl⟩
    · obtain ⟨qc, hqc, hcp⟩ := K.dn j z0 c h0 hcc
      have hci : c ≠ i := fun e => by
        subst e
        rw [hq] at hqc; cases hqc
        rw [hp] at hcp; cases hcp
      obtain ⟨z2, hz2, _, _, g, _⟩ := new c qc hqc
      exact ⟨z2, hz2, by rw [g hci]; exact hcp⟩
  · obtain ⟨z0, h0, _, _, _, h3, h4⟩ := old j z hz
    by_cases e : j = p
    · rw [h3 e]; exact nodup_insL (K.nd p qp hqp) hnin
    · rw [h4 e]; exact K.nd j z0 h0
  · obtain ⟨rk, hrk⟩ := K.ac
    refine ⟨fun j => if Up rows i (some j) then rk j + rk p + 1 else rk j, fun j z p' hz hpar => ?_⟩
    obtain ⟨z0, h0, hk, h1, h2, h3, h4⟩ := old j z hz
    by_cases e : j = i
    · obtain ⟨e1, _⟩ := h1 e
      rw [e1] at hpar; cases hpar
      obtain ⟨z2, hz2, _⟩ := new p qp hqp
      refine ⟨⟨z2, hz2⟩, ?_⟩
      dsimp only
      rw [if_neg hu, if_pos (by rw [e]; exact .here)]
      omega
    · have hp0 : z0.par = some p' := by rw [← h2 e]; exact hpar
      obtain ⟨⟨z1, hz1⟩, hlt⟩ := hrk j z0 p' h0 hp0
      obtain ⟨z2, hz2, _⟩ := new p' z1 hz1
      refine ⟨⟨z2, hz2⟩, ?_⟩
      have iff : Up rows i (some j) ↔ Up rows i (some p') := by
        rw [up_some h0, hp0]
        exact ⟨fun x => x.resolve_left e, .inr⟩
      dsimp only
      by_cases hj : Up rows i (some j)
      · rw [if_pos hj, if_pos (iff.mp hj)]; omega
      · rw [if_neg hj, if_neg fun h => hj (iff.mpr h)]; exact hlt
  · obtain ⟨z0, h0, hk, h1, h2, h3, h4⟩ := old j z hz
    obtain ⟨k1, k2, k3⟩ := K.kd j z0 h0
    refine ⟨by rw [hk]; exact k1, fun e => ?_, fun e => ?_⟩
    · by_cases ej : j = p
      · subst ej
        rw [hqp] at h0; cases h0
        exact absurd (hk.symm.trans e) hk2
      · rw [h4 ej]; exact k2 (hk.symm.trans e)
    · by_cases ej : j = i
      · subst ej
        rw [hq] at h0; cases h0
        exact absurd (hk.symm.trans e) hk1
      · rw [h2 ej]; exact k3 (hk.symm.trans e)
theorem up_rm {rows : List Rw} {i p : Nat} {q qp : Rw} (hq : rows[i]? = some q) (hqp : rows[p]? = some qp) {a : Nat} {b : Option Nat} (h : Up (rmR rows i q p qp) a b) : Up rows a b := by
  induction h with
  | here => exact .here
  | step hz _ ih =>
    rw [rm_get hq hqp] at hz
    split at hz
    · rename_i e; subst e; cases hz
      exact absurd ih up_none
    · split at hz
      · rename_i e; subst e; cases hz
        exact .step hqp ih
      · exact .step hz ih
end Mine

end

section
open PySem PySem.W PyProof.Rows PySem.Calls
set_option Elab.async false
set_option maxRecDepth 100000
set_option linter.unusedVariables false
namespace Mine

def st_list_above : Option Stmt := stAt 15
def sc_list_above : Scope := scopeIn (stAt 15)
theorem F_list_above (P : Params) : FunIn (KK P) 293 ["tree", "node"] ["row", "kind"] (scopeIn (stAt 15)) (bodyOf (stAt 15)) (fnData (stAt 15) "list_above" (Value.str (Str.ofString "markupmill.edits") 584) 292) :=
  ⟨⟨_, rfl, rfl⟩, rfl, rfl, rfl, rfl, rfl, by rfl, (fun vals h => by rcases vals with _ | ⟨a0, _ | ⟨a1, _ | ⟨b, r⟩⟩⟩ <;> first | rfl | cases h), by decide, by rfl, by decide, rfl, rfl, rfl⟩
def st_remove : Option Stmt := stAt 16
def sc_remove : Scope := scopeIn (stAt 16)
theorem F_remove (P : Params) : FunIn (KK P) 300 ["tree", "node"] [] (scopeIn (stAt 16)) (bodyOf (stAt 16)) (fnData (stAt 16) "remove" (Value.str (Str.ofString "markupmill.edits") 584) 299) :=
  ⟨⟨_, rfl, rfl⟩, rfl, rfl, rfl, rfl, rfl, by rfl, (fun vals h => by rcases vals with _ | ⟨a0, _ | ⟨a1, _ | ⟨b, r⟩⟩⟩ <;> first | rfl | cases h), by decide, by rfl, by decide, rfl, rfl, rfl⟩
def st_check_new_place : Option Stmt := stAt 17
def sc_check_new_place : Scope := scopeIn (stAt 17)
theorem F_check_new_place (P : Params) : FunIn (KK P) 307 ["tree", "parent", "index", "node"] [] (scopeIn (stAt 17)) (bodyOf (stAt 17)) (fnData (stAt 17) "check_new_place" (Value.str (Str.ofString "markupmill.edits") 584) 306) :=
  ⟨⟨_, rfl, rfl⟩, rfl, rfl, rfl, rfl, rfl, by rfl, (fun vals h => by rcases vals with _ | ⟨a0, _ | ⟨a1, _ | ⟨a2, _ | ⟨a3, _ | ⟨b, r⟩⟩⟩⟩⟩ <;> first | rfl | cases h), by decide, by rfl, by decide, rfl, rfl, rfl⟩
def st_insert : Option Stmt := stAt 18
def sc_insert : Scope := scopeIn (stAt 18)
theorem F_insert (P : Params) : FunIn (KK P) 314 ["tree", "parent", "index", "node"] [] (scopeIn (stAt 18)) (bodyOf (stAt 18)) (fnData (stAt 18) "insert" (Value.str (Str.ofString "markupmill.edits") 584) 313) :=
  ⟨⟨_, rfl, rfl⟩, rfl, rfl, rfl, rfl, rfl, by rfl, (fun vals h => by rcases vals with _ | ⟨a0, _ | ⟨a1, _ | ⟨a2, _ | ⟨a3, _ | ⟨b, r⟩⟩⟩⟩⟩ <;> first | rfl | cases h), by decide, by rfl, by decide, rfl, rfl, rfl⟩
def st_move : Option Stmt := stAt 19
def sc_move : Scope := scopeIn (stAt 19)
theorem F_move (P : Params) : FunIn (KK P) 321 ["tree", "node", "parent", "index"] ["above", "here"] (scopeIn (stAt 19)) (bodyOf (stAt 19)) (fnData (stAt 19) "move" (Value.str (Str.ofString "markupmill.edits") 584) 320) :=
  ⟨⟨_, rfl, rfl⟩, rfl, rfl, rfl, rfl, rfl, by rfl, (fun vals h => by rcases vals with _ | ⟨a0, _ | ⟨a1, _ | ⟨a2, _ | ⟨a3, _ | ⟨b, r⟩⟩⟩⟩⟩ <;> first | rfl | cases h), by decide, by rfl, by decide, rfl, rfl, rfl⟩
theorem map_nt (l : List Nat) : l.map nt = (l.map fun i : Nat => (i : Int)).map AV.int := by rw [List.map_map]; rfl
theorem erase_cast (l : List Nat) (i : Nat) : (l.map fun i : Nat => (i : Int)).erase (i : Int) = (l.erase i).map fun i : Nat => (i : Int) := by
  induction l with
  | nil => rfl
  | cons a r ih =>
    rw [List.map_cons, List.erase_cons, List.erase_cons]
    by_cases h : a = i
    · subst h; simp
    · have h1 : ((a : Int) == (i : Int)) = false := by simp; omega
      have h2 : (a == i) = false := by simp [h]
      rw [h1, h2]; simp [ih]
theorem insAt_nt (l : List Nat) (k : Int) (i : Nat) : insAt (l.map nt) k (nt i) = (insL l k.toNat i).map nt := by unfold insAt insL; simp [List.map_take, List.map_drop]
def Wd.rows' (W : Wd) (r : List Rw) : Wd := { W with rows := r }

/-- where a node may stand -/
def Fits (rows : List Rw) (i : Nat) (q : Rw) (p : Nat) (qp : Rw) (idx : Int) : Prop := q.kind ≠ ("root" : Str) ∧ qp.kind ≠ ("text" : Str) ∧ ¬ Up rows i (some p) ∧ 0 ≤ idx ∧ idx ≤ qp.ch.length
section
variable {prog : Program} {w : World} {base : Heap} {mg mb : Str → Option Value}

inductive IListAbove (as : List AV) (hp : HP) (Q : AV → HP → Prop) (E : HP → Prop) : Prop
  | mk (W : Wd) (i : Nat) (q : Rw) (p : Nat) (qp : Rw) (h1 : St W hp) (h2 : as = [.ref W.x, nt i]) (h3 : W.rows.length ≤ 900) (h4 : OK W.rows) (h5 : W.rows[i]? = some q) (h6 : q.par = some p) (h7 : W.rows[p]? = some qp) (h8 : Q (.ref qp.c) hp)
def cListAbove : CPT := IListAbove
theorem kind_not {rows : List Rw} (K : OK rows) {i : Nat} {q : Rw} (hq : rows[i]? = some q) : q.kind ≠ ("attribute" : Str) ∧ q.kind ≠ ("namespace" : Str) := by
  rcases (K.kd i q hq).1 with e | e | e <;> (rw [e]; exact ⟨by decide, by decide⟩)
theorem C_list_above (G : TopOK prog w base mg mb) : CallS prog w base 51 13 (.ref 293) cListAbove := by
  refine CodeS.call (fun_call (n := 12) G.X G.nolimit (F_list_above w.params) (TB_cons (T_assign (At.s (At.s At.z)) (by decide) (T_meth (CT := 282) (f := 125) G.X (by rfl) (by rfl) (by rfl) (by rfl) (T_loc At.z rfl rfl) (TL_cons (T_meth (CT := 282) (f := 237) G.X (by rfl) (by rfl) (by rfl) (by rfl) (T_loc At.z rfl rfl) (TL_cons (T_loc (At.s At.z) rfl rfl) TL_nil) (C_m_parent G) (by decide)) TL_nil) (C_m_row G) (by decide))) (TB_cons (T_assign (At.s (At.s (At.s At.z))) (by decide) (T_meth (CT := 282) (f := 202) G.X (by rfl) (by rfl) (by rfl) (by rfl) (T_loc At.z rfl rfl) (TL_cons (T_loc (At.s At.z) rfl rfl) TL_nil) (C_m_kind G) (by decide))) (TB_cons (T_if (TT_cmp C_eq (by decide) (T_loc (At.s (At.s (At.s At.z))) rfl rfl) T_cstr) (TB_cons (T_ret (T_attr G.X (attr_attributes _) (T_loc (At.s (At.s At.z)) rfl rfl))) TB_nil) TB_nil) (TB_cons (T_ret (T_ife (TT_cmp C_eq (by decide) (T_loc (At.s (At.s (At.s At.z))) rfl rfl) T_cstr) (T_attr G.X (attr_namespaces _) (T_loc (At.s (At.s At.z)) rfl rfl)) (T_attr G.X (attr_children _) (T_loc (At.s (At.s At.z)) rfl rfl)))) TB_nil)))) ?_)
  intro as hp Q E ⟨W, i, q, p, qp, S, e, hz, K, hq, hp', hqp, h⟩
  subst e
  have R := S.row p qp hqp
  obtain ⟨k1, k2⟩ := kind_not K hq
  refine ⟨rfl, _, rfl, _, _, _, rfl, S.x, S.d, notRows (by decide), _, rfl, _, _, _, rfl, S.x, S.d, notRows (by decide), _, rfl, W, i, q, S, rfl, hq, hz, W, p, qp, S, by (try dsimp only); rw [hp'], hqp, hz, ?_⟩
  refine ⟨_, rfl, _, _, _, rfl, S.x, S.d, notRows (by decide), _, rfl, W, i, q, S, rfl, hq, hz, _, rfl, false, by simp [k1], false, rfl, nofun, fun _ => ?_⟩
  exact ⟨_, rfl, false, by simp [k2], false, rfl, nofun, fun _ => ⟨_, rfl, _, _, _, _, rfl, R.r, R.d, rfl, rfl, h⟩⟩

inductive IRemove (as : List AV) (hp : HP) (Q : AV → HP → Prop) (E : HP → Prop) : Prop
  | mk (W : Wd) (i : Nat) (q : Rw) (h1 : St W hp) (h2 : as = [.ref W.x, nt i]) (h3 : W.rows.length ≤ 900) (h4 : OK W.rows) (h5 : W.rows[i]? = some q) (h6 : (q.par = none → E hp)) (h7 : ∀ p qp hp', q.par = some p → W.rows[p]? = some qp → St (W.rows' (rmR W.rows i q p qp)) hp' → Fw W hp (W.rows' (rmR W.rows i q p qp)) hp' → Q .none hp')
def cRemove : CPT := IRemove
theorem C_remove (G : TopOK prog w base mg mb) : CallS prog w base 51 15 (.ref 300) cRemove := by
  refine CodeS.call (fun_call (n := 14) G.X G.nolimit (F_remove w.params) (TB_cons (T_if (TT_cmp C_is (by decide) (T_meth (CT := 282) (f := 237) G.X (by rfl) (by rfl) (by rfl) (by rfl) (T_loc At.z rfl rfl) (TL_cons (T_loc (At.s At.z) rfl rfl) TL_nil) (C_m_parent G) (by decide)) T_cnone) (TB_cons (T_raise G.X (excK _) (T_glob G.toGC (v := .ref 51) (by rfl) (by rfl) (by rfl)) (C_errInit G) (by decide)) TB_nil) TB_nil) (TB_cons (T_expr (T_methB PySem.F.plainAttrs_list PySem.F.slot_list_remove ty_remove G_list (T_call G.X (by rfl) (T_glob G.toGC (by rfl) (by rfl) (by rfl)) (told_ref _) (TL_cons (T_loc At.z rfl rfl) (TL_cons (T_loc (At.s At.z) rfl rfl) TL_nil)) (C_list_above G) (by decide)) (TL_cons (T_loc (At.s At.z) rfl rfl) TL_nil) O_remove.call (by decide)) (fun _ => trivial)) (TB_cons (T_setA G.X (set_parent _) T_cnone (T_meth (CT := 282) (f := 125) G.X (by rfl) (by rfl) (by rfl) (by rfl) (T_loc At.z rfl rfl) (TL_cons (T_loc (At.s At.z) rfl rfl) TL_nil) (C_m_row G) (by decide))) TB_nil))) ?_)
  intro as hp Q E ⟨W, i, q, S, e, hz, K, hq, he, h⟩
  subst e
  refine ⟨rfl, _, rfl, _, _, _, rfl, S.x, S.d, notRows (by decide), _, rfl, W, i, q, S, rfl, hq, hz, ?_⟩
  cases hpar : q.par with
  | none => exact ⟨true, by first | rfl | rw [hpar], true, rfl, fun _ => he hpar, nofun⟩
  | some p =>
    obtain ⟨qp, hqp, hm⟩ := K.up i q p hq hpar
    have R := S.row p qp hqp
    have hne := K.par_ne hq hpar
    have hlen := K.ch_len hqp
    refine ⟨false, by first | rfl | rw [hpar], false, rfl, nofun, fun _ => ?_⟩
    obtain ⟨S1, f1⟩ := S.setCh hqp (qp.ch.erase i)
    have hq1 : (W.setRow p { qp with ch := qp.ch.erase i }).rows[i]? = some q := by show (W.rows.set p _)[i]? = _; rw [List.getElem?_set_ne (Ne.symm hne)]; exact hq
    have R1 := S1.row i q hq1
    obtain ⟨S2, f2⟩ := S1.setFs hq1 (q' := { q with par := none }) rfl rfl rfl rfl rfl rfl
    refine ⟨_, rfl, _, rfl, W, i, q, p, qp, S, rfl, hz, K, hq, hpar, hqp, ⟨_, _, rfl, R.c⟩, _, rfl, qp.c, (i : Int), qp.ch.map fun i : Nat => (i : Int), rfl, by rw [← map_nt]; exact R.c, by rw [List.length_map]; omega, List.mem_map.mpr ⟨i, hm, rfl⟩, ?_⟩
    rw [erase_cast, ← map_nt]
    refine ⟨_, rfl, _, _, _, rfl, S1.x, S1.d, notRows (by decide), _, rfl, W.setRow p { qp with ch := qp.ch.erase i }, i, q, S1, rfl, hq1, ?_, _, _, _, rfl, R1.r, R1.d, Nat.le_of_ble_eq_true (by rfl), ?_⟩
    · show (W.rows.set p _).length ≤ 900; simp; exact hz
    · exact h p qp _ hpar hqp S2 (f1.trans f2)

inductive ICheck (as : List AV) (hp : HP) (Q : AV → HP → Prop) (E : HP → Prop) : Prop
  | mk (W : Wd) (p : Nat) (qp : Rw) (i : Nat) (q : Rw) (idx : Int) (h1 : St W hp) (h2 : as = [.ref W.x, nt p, .int idx, nt i]) (h3 : W.rows.length ≤ 900) (h4 : OK W.rows) (h5 : W.rows[i]? = some q) (h6 : W.rows[p]? = some qp) (h7 : ∀ hp', St W hp' → Fw W hp W hp' → (Fits W.rows i q p qp idx → Q .none hp') ∧ (¬ Fits W.rows i q p qp idx → E hp'))
def cCheck : CPT := ICheck
open Classical in
theorem C_check_new_place (G : TopOK prog w base mg mb) : CallS prog w base 51 13 (.ref 307) cCheck := by
  refine CodeS.call (fun_call (n := 12) G.X G.nolimit (F_check_new_place w.params) (TB_cons (T_if (TT_bool (TA_or (TT_cmp (C_notInTop (xs := ["element", "text", "comment", "instruction"]) (tup_CHILDREN G.toGC) rfl) (by decide) (T_meth (CT := 282) (f := 202) G.X (by rfl) (by rfl) (by rfl) (by rfl) (T_loc At.z rfl rfl) (TL_cons (T_loc (At.s (At.s (At.s At.z))) rfl rfl) TL_nil) (C_m_kind G) (by decide)) (T_glob G.toGC (by rfl) (by rfl) (by rfl))) (TA_or (TT_cmp (C_notInTop (xs := ["root", "element"]) (tup_PARENTS G.toGC) rfl) (by decide) (T_meth (CT := 282) (f := 202) G.X (by rfl) (by rfl) (by rfl) (by rfl) (T_loc At.z rfl rfl) (TL_cons (T_loc (At.s At.z) rfl rfl) TL_nil) (C_m_kind G) (by decide)) (T_glob G.toGC (by rfl) (by rfl) (by rfl))) TA_orNil))) (TB_cons (T_raise G.X (excK _) (T_glob G.toGC (v := .ref 51) (by rfl) (by rfl) (by rfl)) (C_errInit G) (by decide)) TB_nil) TB_nil) (TB_cons (T_if (TT_val (T_meth (CT := 282) (f := 272) G.X (by rfl) (by rfl) (by rfl) (by rfl) (T_loc At.z rfl rfl) (TL_cons (T_loc (At.s (At.s (At.s At.z))) rfl rfl) (TL_cons (T_loc (At.s At.z) rfl rfl) TL_nil)) (C_m_is_above G) (by decide))) (TB_cons (T_raise G.X (excK _) (T_glob G.toGC (v := .ref 51) (by rfl) (by rfl) (by rfl)) (C_errInit G) (by decide)) TB_nil) TB_nil) (TB_cons (T_if (TT_not (TT_chain C_le C_le (by decide) T_cint (T_loc (At.s (At.s At.z)) rfl rfl) (T_callB (T_bltn G.toGC (by rfl) Boot.«len» (by decide) (by rfl) (by rfl)) (TL_cons (T_meth (CT := 282) (f := 244) G.X (by rfl) (by rfl) (by rfl) (by rfl) (T_loc At.z rfl rfl) (TL_cons (T_loc (At.s At.z) rfl rfl) TL_nil) (C_m_children G) (by decide)) TL_nil) (O_len G.low).call (by decide)))) (TB_cons (T_raise G.X (excK _) (T_glob G.toGC (v := .ref 51) (by rfl) (by rfl) (by rfl)) (C_errInit G) (by decide)) TB_nil) TB_nil) TB_nil))) ?_)
  intro as hp Q E ⟨W, p, qp, i, q, idx, S, e, hz, K, hq, hqp, h⟩
  subst e
  have k1 := K.kd i q hq
  have k2 := K.kd p qp hqp
  have c1 : q.kind ∈ (["element", "text", "comment", "instruction"] : List Str) ↔ q.kind ≠ ("root" : Str) := by
    rcases k1.1 with e | e | e <;> rw [e] <;> decide
  have c2 : qp.kind ∈ (["root", "element"] : List Str) ↔ qp.kind ≠ ("text" : Str) := by
    rcases k2.1 with e | e | e <;> rw [e] <;> decide
  have hlen := K.ch_len hqp
  obtain ⟨h1, h2⟩ := h hp S (.refl ..)
  refine ⟨rfl, _, rfl, _, _, _, rfl, S.x, S.d, notRows (by decide), _, rfl, W, i, q, S, rfl, hq, hz, decide (q.kind = ("root" : Str)), ⟨rfl, ?_⟩, _, rfl, fun e => ⟨fun _ => ?_, nofun⟩, fun e => ?_⟩
  · by_cases e : q.kind = ("root" : Str) <;> simp only [e, decide_true, decide_false, Bool.not_true, Bool.not_false] <;> rw [eq_comm]
    · exact decide_eq_false fun x => (c1.mp (by rw [e]; exact x)) e
    · exact decide_eq_true (c1.mpr e)
  · exact h2 fun f => f.1 (of_decide_eq_true e)
  · have e1 : q.kind ≠ ("root" : Str) := of_decide_eq_false e
    refine ⟨_, rfl, _, _, _, rfl, S.x, S.d, notRows (by decide), _, rfl, W, p, qp, S, rfl, hqp, hz, decide (qp.kind = ("text" : Str)), ⟨rfl, ?_⟩, _, rfl, fun e => ⟨fun _ => ?_, nofun⟩, fun e => ⟨nofun, fun _ => ?_⟩⟩
    · by_cases e : qp.kind = ("text" : Str) <;> simp only [e, decide_true, decide_false, Bool.not_true, Bool.not_false] <;> rw [eq_comm]
      · exact decide_eq_false fun x => (c2.mp (by rw [e]; exact x)) e
      · exact decide_eq_true (c2.mpr e)
    · exact h2 fun f => f.2.1 (of_decide_eq_true e)
    · have e2 : qp.kind ≠ ("text" : Str) := of_decide_eq_false e
      refine ⟨_, rfl, _, _, _, rfl, S.x, S.d, notRows (by decide), _, rfl, _, rfl, W, i, some p, S, rfl, hz, K.ac, ⟨qp, hqp⟩, fun r hr => ⟨r, rfl, fun e => ?_, fun e => ?_⟩⟩
      · exact h2 fun f => f.2.2.1 (hr.mp e)
      · have e3 : ¬ Up W.rows i (some p) := fun u => by rw [hr.mpr u] at e; cases e
        refine ⟨_, rfl, decide ((0 : Int) ≤ idx), rfl, fun e => ⟨false, rfl, fun _ => ?_, nofun⟩, fun e => ?_⟩
        · exact h2 fun f => (of_decide_eq_false e) f.2.2.2.1
        · have e4 : (0 : Int) ≤ idx := of_decide_eq_true e
          refine ⟨_, rfl, _, _, _, rfl, S.x, S.d, notRows (by decide), _, rfl, W, p, qp, S, rfl, hqp, hz, Nat.le_trans hlen hz, fun D hD => ?_⟩
          obtain ⟨S', f'⟩ := S.new hD (.list (qp.ch.map nt))
          obtain ⟨h3, h4⟩ := h _ S' f'
          refine ⟨_, rfl, .inl ⟨_, upd_self _ _ _, by rw [List.length_map]; exact Nat.le_trans hlen (Nat.le_trans hz (by decide)), decide (idx ≤ ((qp.ch.map nt).length : Int)), rfl, _, rfl, fun e => ?_, fun e => ?_⟩⟩
          · have e' : ¬ (idx ≤ ((qp.ch.map nt).length : Int)) := by simpa using e
            rw [List.length_map] at e'
            exact h4 fun f => e' f.2.2.2.2
          · refine h3 ⟨e1, e2, e3, e4, ?_⟩
            have e' : idx ≤ ((qp.ch.map nt).length : Int) := by simpa using e
            rw [List.length_map] at e'; exact e'
end
end Mine

end

section
open PySem PySem.W PyProof.Rows PySem.Calls
set_option Elab.async false
set_option maxRecDepth 100000
set_option linter.unusedVariables false
namespace Mine

def hereOf (a p : Nat) (qp : Rw) : Int := (qp.ch.length : Int) - (if a = p then 1 else 0)
def Movable (rows : List Rw) (i : Nat) (q : Rw) (p : Nat) (qp : Rw) (idx : Int) : Prop :=
  ∃ a, q.par = some a ∧ q.kind ≠ ("root" : Str) ∧ qp.kind ≠ ("text" : Str) ∧ ¬ Up rows i (some p) ∧ 0 ≤ idx ∧ idx ≤ hereOf a p qp
section
variable {prog : Program} {w : World} {base : Heap} {mg mb : Str → Option Value}

inductive IInsert (as : List AV) (hp : HP) (Q : AV → HP → Prop) (E : HP → Prop) : Prop
  | mk (W : Wd) (p : Nat) (qp : Rw) (i : Nat) (q : Rw) (idx : Int) (h1 : St W hp) (h2 : as = [.ref W.x, nt p, .int idx, nt i]) (h3 : W.rows.length ≤ 900) (h4 : OK W.rows) (h5 : W.rows[i]? = some q) (h6 : W.rows[p]? = some qp) (h7 : (Fits W.rows i q p qp idx ∧ q.par = none → ∀ hp', St (W.rows' (insR W.rows i q p qp idx.toNat)) hp' → Fw W hp (W.rows' (insR W.rows i q p qp idx.toNat)) hp' → Q .none hp')) (h8 : (¬ (Fits W.rows i q p qp idx ∧ q.par = none) → ∀ hp', St W hp' → Fw W hp W hp' → E hp'))
def cInsert : CPT := IInsert
theorem C_insert (G : TopOK prog w base mg mb) : CallS prog w base 51 15 (.ref 314) cInsert := by
  refine CodeS.call (fun_call (n := 14) G.X G.nolimit (F_insert w.params) (TB_cons (T_expr (T_call G.X (by rfl) (T_glob G.toGC (by rfl) (by rfl) (by rfl)) (told_ref _) (TL_cons (T_loc At.z rfl rfl) (TL_cons (T_loc (At.s At.z) rfl rfl) (TL_cons (T_loc (At.s (At.s At.z)) rfl rfl) (TL_cons (T_loc (At.s (At.s (At.s At.z))) rfl rfl) TL_nil)))) (C_check_new_place G) (by decide)) (fun _ => trivial)) (TB_cons (T_if (TT_cmp C_isNot (by decide) (T_meth (CT := 282) (f := 237) G.X (by rfl) (by rfl) (by rfl) (by rfl) (T_loc At.z rfl rfl) (TL_cons (T_loc (At.s (At.s (At.s At.z))) rfl rfl) TL_nil) (C_m_parent G) (by decide)) T_cnone) (TB_cons (T_raise G.X (excK _) (T_glob G.toGC (v := .ref 51) (by rfl) (by rfl) (by rfl)) (C_errInit G) (by decide)) TB_nil) TB_nil) (TB_cons (T_expr (T_methB PySem.F.plainAttrs_list PySem.F.slot_list_insert ty_insert G_list (T_attr G.X (attr_children _) (T_meth (CT := 282) (f := 125) G.X (by rfl) (by rfl) (by rfl) (by rfl) (T_loc At.z rfl rfl) (TL_cons (T_loc (At.s At.z) rfl rfl) TL_nil) (C_m_row G) (by decide))) (TL_cons (T_loc (At.s (At.s At.z)) rfl rfl) (TL_cons (T_loc (At.s (At.s (At.s At.z))) rfl rfl) TL_nil)) O_insert.call (by decide)) (fun _ => trivial)) (TB_cons (T_setA G.X (set_parent _) (T_loc (At.s At.z) rfl rfl) (T_meth (CT := 282) (f := 125) G.X (by rfl) (by rfl) (by rfl) (by rfl) (T_loc At.z rfl rfl) (TL_cons (T_loc (At.s (At.s (At.s At.z))) rfl rfl) TL_nil) (C_m_row G) (by decide))) TB_nil)))) ?_)
  intro as hp Q E ⟨W, p, qp, i, q, idx, S, e, hz, K, hq, hqp, h1, h2⟩
  subst e
  refine ⟨rfl, _, rfl, _, rfl, _, rfl, _, rfl, W, p, qp, i, q, idx, S, rfl, hz, K, hq, hqp, fun hp1 S1 f1 => ⟨fun fit => ?_, fun nf => h2 (fun x => nf x.1) hp1 S1 f1⟩⟩
  refine ⟨_, rfl, _, _, _, rfl, S1.x, S1.d, notRows (by decide), _, rfl, W, i, q, S1, rfl, hq, hz, ?_⟩
  cases hpar : q.par with
  | some p' =>
    refine ⟨true, by first | rfl | (rw [hpar]; rfl), true, rfl, fun _ => ?_, nofun⟩
    exact h2 (fun x => by rw [x.2] at hpar; cases hpar) hp1 S1 f1
  | none =>
    refine ⟨false, by first | rfl | (rw [hpar]; rfl), false, rfl, nofun, fun _ => ?_⟩
    have R := S1.row p qp hqp
    have hne : i ≠ p := fun e => fit.2.2.1 (by rw [e]; exact .here)
    have hlen := K.ch_len hqp
    obtain ⟨S2, f2⟩ := S1.setCh hqp (insL qp.ch idx.toNat i)
    have hq2 : (W.setRow p { qp with ch := insL qp.ch idx.toNat i }).rows[i]? = some q := by show (W.rows.set p _)[i]? = _; rw [List.getElem?_set_ne (Ne.symm hne)]; exact hq
    have R2 := S2.row i q hq2
    obtain ⟨S3, f3⟩ := S2.setFs hq2 (q' := { q with par := some p }) rfl rfl rfl rfl rfl rfl
    refine ⟨_, rfl, _, _, _, rfl, S1.x, S1.d, notRows (by decide), _, rfl, W, p, qp, S1, rfl, hqp, hz, _, _, _, _, rfl, R.r, R.d, rfl, rfl, ⟨_, _, rfl, R.c⟩, _, rfl, _, rfl, qp.c, idx, nt i, _, rfl, R.c, fit.2.2.2.1, by rw [List.length_map]; exact fit.2.2.2.2, by rw [List.length_map]; omega, ?_⟩
    rw [insAt_nt]
    refine ⟨_, rfl, _, rfl, _, _, _, rfl, S2.x, S2.d, notRows (by decide), _, rfl, W.setRow p { qp with ch := insL qp.ch idx.toNat i }, i, q, S2, rfl, hq2, ?_, _, _, _, rfl, R2.r, R2.d, Nat.le_of_ble_eq_true (by rfl), ?_⟩
    · show (W.rows.set p _).length ≤ 900; simp; exact hz
    · exact h1 ⟨fit, hpar⟩ _ S3 ((f1.trans f2).trans f3)

inductive IMove (as : List AV) (hp : HP) (Q : AV → HP → Prop) (E : HP → Prop) : Prop
  | mk (W : Wd) (i : Nat) (q : Rw) (p : Nat) (qp : Rw) (idx : Int) (h1 : St W hp) (h2 : as = [.ref W.x, nt i, nt p, .int idx]) (h3 : W.rows.length ≤ 900) (h4 : OK W.rows) (h5 : W.rows[i]? = some q) (h6 : W.rows[p]? = some qp) (h7 : (∀ a qa qp1, q.par = some a → W.rows[a]? = some qa → (rmR W.rows i q a qa)[p]? = some qp1 → Movable W.rows i q p qp idx → ∀ hp', St (W.rows' (insR (rmR W.rows i q a qa) i { q with par := none } p qp1 idx.toNat)) hp' →
    Fw W hp (W.rows' (insR (rmR W.rows i q a qa) i { q with par := none } p qp1 idx.toNat)) hp' → Q .none hp')) (h8 : (¬ Movable W.rows i q p qp idx → ∀ hp', St W hp' → Fw W hp W hp' → E hp'))
def cMove : CPT := IMove
theorem C_move (G : TopOK prog w base mg mb) : CallS prog w base 51 17 (.ref 321) cMove := by
  refine CodeS.call (fun_call (n := 16) G.X G.nolimit (F_move w.params) (TB_cons (T_assign (At.s (At.s (At.s (At.s At.z)))) (by decide) (T_meth (CT := 282) (f := 237) G.X (by rfl) (by rfl) (by rfl) (by rfl) (T_loc At.z rfl rfl) (TL_cons (T_loc (At.s At.z) rfl rfl) TL_nil) (C_m_parent G) (by decide))) (TB_cons (T_if (TT_cmp C_is (by decide) (T_loc (At.s (At.s (At.s (At.s At.z)))) rfl rfl) T_cnone) (TB_cons (T_raise G.X (excK _) (T_glob G.toGC (v := .ref 51) (by rfl) (by rfl) (by rfl)) (C_errInit G) (by decide)) TB_nil) TB_nil) (TB_cons (T_assign (At.s (At.s (At.s (At.s (At.s At.z))))) (by decide) (T_bin O_sub (by decide) (T_callB (T_bltn G.toGC (by rfl) Boot.«len» (by decide) (by rfl) (by rfl)) (TL_cons (T_meth (CT := 282) (f := 244) G.X (by rfl) (by rfl) (by rfl) (by rfl) (T_loc At.z rfl rfl) (TL_cons (T_loc (At.s (At.s At.z)) rfl rfl) TL_nil) (C_m_children G) (by decide)) TL_nil) (O_len G.low).call (by decide)) (T_ife (TT_cmp C_eq (by decide) (T_loc (At.s (At.s (At.s (At.s At.z)))) rfl rfl) (T_loc (At.s (At.s At.z)) rfl rfl)) T_cint T_cint))) (TB_cons (T_expr (T_call G.X (by rfl) (T_glob G.toGC (by rfl) (by rfl) (by rfl)) (told_ref _) (TL_cons (T_loc At.z rfl rfl) (TL_cons (T_loc (At.s (At.s At.z)) rfl rfl) (TL_cons (T_callB (T_bltn G.toGC (by rfl) Boot.«min» (by decide) (by rfl) (by rfl)) (TL_cons (T_loc (At.s (At.s (At.s At.z))) rfl rfl) (TL_cons (T_loc (At.s (At.s (At.s (At.s (At.s At.z))))) rfl rfl) TL_nil)) O_min.call (by decide)) (TL_cons (T_loc (At.s At.z) rfl rfl) TL_nil)))) (C_check_new_place G) (by decide)) (fun _ => trivial)) (TB_cons (T_if (TT_not (TT_chain C_le C_le (by decide) T_cint (T_loc (At.s (At.s (At.s At.z))) rfl rfl) (T_loc (At.s (At.s (At.s (At.s (At.s At.z))))) rfl rfl))) (TB_cons (T_raise G.X (excK _) (T_glob G.toGC (v := .ref 51) (by rfl) (by rfl) (by rfl)) (C_errInit G) (by decide)) TB_nil) TB_nil) (TB_cons (T_expr (T_call G.X (by rfl) (T_glob G.toGC (by rfl) (by rfl) (by rfl)) (told_ref _) (TL_cons (T_loc At.z rfl rfl) (TL_cons (T_loc (At.s At.z) rfl rfl) TL_nil)) (C_remove G) (by decide)) (fun _ => trivial)) (TB_cons (T_expr (T_call G.X (by rfl) (T_glob G.toGC (by rfl) (by rfl) (by rfl)) (told_ref _) (TL_cons (T_loc At.z rfl rfl) (TL_cons (T_loc (At.s (At.s At.z)) rfl rfl) (TL_cons (T_loc (At.s (At.s (At.s At.z))) rfl rfl) (TL_cons (T_loc (At.s At.z) rfl rfl) TL_nil)))) (C_insert G) (by decide)) (fun _ => trivial)) TB_nil))))))) ?_)
  intro as hp Q E ⟨W, i, q, p, qp, idx, S, e, hz, K, hq, hqp, h1, h2⟩
  subst e
  have hlen := K.ch_len hqp
  refine ⟨rfl, _, rfl, _, _, _, rfl, S.x, S.d, notRows (by decide), _, rfl, W, i, q, S, rfl, hq, hz, ?_⟩
  cases hpar : q.par with
  | none =>
    try rw [hpar]
    exact ⟨_, rfl, true, rfl, true, rfl, fun _ => h2 (fun ⟨a, x, _⟩ => by rw [hpar] at x; cases x) hp S (.refl ..), nofun⟩
  | some a =>
    obtain ⟨qa, hqa, hia⟩ := K.up i q a hq hpar
    try rw [hpar]
    refine ⟨_, rfl, false, rfl, false, rfl, nofun, fun _ => ?_⟩
    refine ⟨_, rfl, _, _, _, rfl, S.x, S.d, notRows (by decide), _, rfl, W, p, qp, S, rfl, hqp, hz, Nat.le_trans hlen hz, fun D hD => ?_⟩
    obtain ⟨S1, f1⟩ := S.new hD (.list (qp.ch.map nt))
    refine ⟨_, rfl, .inl ⟨_, upd_self _ _ _, by rw [List.length_map]; exact Nat.le_trans hlen (Nat.le_trans hz (by decide)), ?_⟩⟩
    rw [List.length_map]
    obtain ⟨qp1, hqp1, hk1, hl1⟩ : ∃ qp1, (rmR W.rows i q a qa)[p]? = some qp1 ∧ qp1.kind = qp.kind ∧ (i ≠ p → (qp1.ch.length : Int) = hereOf a p qp) := by
      rw [rm_get hq hqa]
      by_cases e1 : p = i
      · subst e1; rw [hq] at hqp; cases hqp
        rw [if_pos rfl]; exact ⟨_, rfl, rfl, fun h => absurd rfl h⟩
      · rw [if_neg e1]
        by_cases e2 : p = a
        · subst e2; rw [hqa] at hqp; cases hqp
          rw [if_pos rfl]
          refine ⟨_, rfl, rfl, fun _ => ?_⟩
          have h0 := List.length_erase_of_mem hia
          have h2 := List.length_pos_of_mem hia
          unfold hereOf; rw [if_pos rfl]; dsimp only; omega
        · rw [if_neg e2]
          exact ⟨qp, hqp, rfl, fun _ => by unfold hereOf; rw [if_neg (Ne.symm e2)]; omega⟩
    have hh0 : hereOf a p qp ≤ (qp.ch.length : Int) := by unfold hereOf; split <;> omega
    refine ⟨_, rfl, _, rfl, decide ((a : Int) = p), rfl, decide ((a : Int) = p), rfl, fun e => ?_, fun e => ?_⟩
    · have e' : a = p := by have := of_decide_eq_true e; omega
      have he : (qp.ch.length : Int) - 1 = hereOf a p qp := by unfold hereOf; rw [if_pos e']
      dsimp only [kOp2b, kHp, kSet, AS.set, vVal, oSub]
      rw [he]
      refine ⟨_, rfl, _, rfl, _, rfl, _, rfl, idx, hereOf a p qp, rfl, _, rfl, W, p, qp, i, q, _, S1, rfl, hz, K, hq, hqp, fun hp2 S2 f2 => ⟨fun fit => ?_, fun nf => h2 (fun ⟨a', x1, x2, x3, x4, x5, x6⟩ => nf ⟨x2, x3, x4, ?_, ?_⟩) hp2 S2 (f1.trans f2)⟩⟩
      case refine_2 => rw [hpar] at x1; cases x1; split <;> omega
      case refine_3 => rw [hpar] at x1; cases x1; split <;> omega
      have f3 := fit.2.2.2.1
      have h0i : (0 : Int) ≤ idx := by split at f3 <;> omega
      refine ⟨_, rfl, true, by simpa [kLe] using h0i, nofun, fun _ => ⟨_, rfl, decide (idx ≤ hereOf a p qp), rfl, _, rfl, fun e => ?_, fun e => ?_⟩⟩
      · have e3 : ¬ (idx ≤ hereOf a p qp) := by simpa using e
        exact h2 (fun ⟨a', x1, x2, x3, x4, x5, x6⟩ => by rw [hpar] at x1; cases x1; exact e3 x6) hp2 S2 (f1.trans f2)
      · have e3 : idx ≤ hereOf a p qp := by simpa using e
        refine ⟨_, rfl, _, rfl, W, i, q, S2, rfl, hz, K, hq, fun x => by (rw [hpar] at x; cases x), fun a' qa' hp3 y1 y2 S3 f3' => ?_⟩
        rw [hpar] at y1; cases y1
        rw [hqa] at y2; cases y2
        have hne : i ≠ p := fun e => fit.2.2.1 (by rw [e]; exact .here)
        refine ⟨_, rfl, _, rfl, _, rfl, _, rfl, W.rows' (rmR W.rows i q a qa), p, qp1, i, { q with par := none }, idx, S3, rfl, by show (rmR _ _ _ _ _).length ≤ 900; rw [rm_len]; exact hz, K.rm hq hpar hqa, by show (rmR _ _ _ _ _)[i]? = _; rw [rm_get hq hqa, if_pos rfl], hqp1, fun _ hp4 S4 f4 => ?_, fun nf => absurd ⟨⟨fit.1, by rw [hk1]; exact fit.2.1, fun u => fit.2.2.1 (up_rm hq hqa u), h0i, by rw [hl1 hne]; exact e3⟩, rfl⟩ nf⟩
        exact h1 a qa qp1 hpar hqa hqp1 ⟨a, hpar, fit.1, fit.2.1, fit.2.2.1, h0i, e3⟩ _ S4 (((f1.trans f2).trans f3').trans f4)
    · have e' : ¬ a = p := by have := of_decide_eq_false e; omega
      have he : (qp.ch.length : Int) - 0 = hereOf a p qp := by unfold hereOf; rw [if_neg e']
      dsimp only [kOp2b, kHp, kSet, AS.set, vVal, oSub]
      rw [he]
      refine ⟨_, rfl, _, rfl, _, rfl, _, rfl, idx, hereOf a p qp, rfl, _, rfl, W, p, qp, i, q, _, S1, rfl, hz, K, hq, hqp, fun hp2 S2 f2 => ⟨fun fit => ?_, fun nf => h2 (fun ⟨a', x1, x2, x3, x4, x5, x6⟩ => nf ⟨x2, x3, x4, ?_, ?_⟩) hp2 S2 (f1.trans f2)⟩⟩
      case refine_2 => rw [hpar] at x1; cases x1; split <;> omega
      case refine_3 => rw [hpar] at x1; cases x1; split <;> omega
      have f3 := fit.2.2.2.1
      have h0i : (0 : Int) ≤ idx := by split at f3 <;> omega
      refine ⟨_, rfl, true, by simpa [kLe] using h0i, nofun, fun _ => ⟨_, rfl, decide (idx ≤ hereOf a p qp), rfl, _, rfl, fun e => ?_, fun e => ?_⟩⟩
      · have e3 : ¬ (idx ≤ hereOf a p qp) := by simpa using e
        exact h2 (fun ⟨a', x1, x2, x3, x4, x5, x6⟩ => by rw [hpar] at x1; cases x1; exact e3 x6) hp2 S2 (f1.trans f2)
      · have e3 : idx ≤ hereOf a p qp := by simpa using e
        refine ⟨_, rfl, _, rfl, W, i, q, S2, rfl, hz, K, hq, fun x => by (rw [hpar] at x; cases x), fun a' qa' hp3 y1 y2 S3 f3' => ?_⟩
        rw [hpar] at y1; cases y1
        rw [hqa] at y2; cases y2
        have hne : i ≠ p := fun e => fit.2.2.1 (by rw [e]; exact .here)
        refine ⟨_, rfl, _, rfl, _, rfl, _, rfl, W.rows' (rmR W.rows i q a qa), p, qp1, i, { q with par := none }, idx, S3, rfl, by show (rmR _ _ _ _ _).length ≤ 900; rw [rm_len]; exact hz, K.rm hq hpar hqa, by show (rmR _ _ _ _ _)[i]? = _; rw [rm_get hq hqa, if_pos rfl], hqp1, fun _ hp4 S4 f4 => ?_, fun nf => absurd ⟨⟨fit.1, by rw [hk1]; exact fit.2.1, fun u => fit.2.2.1 (up_rm hq hqa u), h0i, by rw [hl1 hne]; exact e3⟩, rfl⟩ nf⟩
        exact h1 a qa qp1 hpar hqa hqp1 ⟨a, hpar, fit.1, fit.2.1, fit.2.2.1, h0i, e3⟩ _ S4 (((f1.trans f2).trans f3').trans f4)
end
end Mine

end

section
open PySem PySem.W PyProof.Rows PySem.Calls
set_option Elab.async false
set_option maxRecDepth 100000
set_option linter.unusedVariables false
namespace Mine

def st_law_pool : Option Stmt := stAt 25
def sc_law_pool : Scope := scopeIn (stAt 25)
theorem F_law_pool (P : Params) : FunIn (KK P) 354 ["script", "k"] ["cell", "big", "mixed"] (scopeIn (stAt 25)) (bodyOf (stAt 25)) (fnData (stAt 25) "_law_pool" (Value.str (Str.ofString "law_nu0066_01") 678) 353) :=
  ⟨⟨_, rfl, rfl⟩, rfl, rfl, rfl, rfl, rfl, by rfl, (fun vals h => by rcases vals with _ | ⟨a0, _ | ⟨a1, _ | ⟨b, r⟩⟩⟩ <;> first | rfl | cases h), by decide, by rfl, by decide, rfl, rfl, rfl⟩
def st_law_take : Option Stmt := stAt 26
def sc_law_take : Scope := scopeIn (stAt 26)
theorem F_law_take (P : Params) : FunIn (KK P) 361 ["source", "top"] ["drawn"] (scopeIn (stAt 26)) (bodyOf (stAt 26)) (fnData (stAt 26) "_law_take" (Value.str (Str.ofString "law_nu0066_01") 678) 360) :=
  ⟨⟨_, rfl, rfl⟩, rfl, rfl, rfl, rfl, rfl, by rfl, (fun vals h => by rcases vals with _ | ⟨a0, _ | ⟨a1, _ | ⟨b, r⟩⟩⟩ <;> first | rfl | cases h), by decide, by rfl, by decide, rfl, rfl, rfl⟩
def st_law_one : Option Stmt := stAt 27
def sc_law_one : Scope := scopeIn (stAt 27)
theorem F_law_one (P : Params) : FunIn (KK P) 368 ["source", "things"] [] (scopeIn (stAt 27)) (bodyOf (stAt 27)) (fnData (stAt 27) "_law_one" (Value.str (Str.ofString "law_nu0066_01") 678) 367) :=
  ⟨⟨_, rfl, rfl⟩, rfl, rfl, rfl, rfl, rfl, by rfl, (fun vals h => by rcases vals with _ | ⟨a0, _ | ⟨a1, _ | ⟨b, r⟩⟩⟩ <;> first | rfl | cases h), by decide, by rfl, by decide, rfl, rfl, rfl⟩

/-- going on from several places -/
theorem mid {ι : Sort _} (st : ι → AS) {g : PT AF} {Q : AF → AS → Prop} {E : AS → Prop} {goal : Prop} (use : (∀ i, g (st i) Q E) → goal) (rest : ∀ i, g (st i) Q E) : goal := use rest
def SrcOK (W : Wd) : Prop := 0 ≤ W.s0 ∧ 0 ≤ W.s1 ∧ W.s1 < 2147483648
section
variable {prog : Program} {w : World} {base : Heap} {mg mb : Str → Option Value}

inductive IPool (p : Addr) (as : List AV) (hp : HP) (Q : AV → HP → Prop) (E : HP → Prop) : Prop
  | mk  (h1 : as = [.ref p, .int 0]) (h2 : ∀ D (a b : Int), hp D = none → 0 ≤ a → 0 ≤ b → b < 2147483648 → Q (.ref D) (upd hp D (.list [.int a, .int b])))
def cPool (p : Addr) : CPT := IPool p
theorem C_law_pool (G : TopOK prog w base mg mb) {p : Addr} {ws : Array Value} {is : List Int} (hscr : base.IsList p ws) (hi : ws.toList.map ab = is.map .int) (hscrz : (ws.toList.map ab).length ≤ 1000) : CallS prog w base 51 8 (.ref 354) (cPool p) := by
  refine CodeS.call (fun_call (n := 7) G.X G.nolimit (F_law_pool w.params) (TB_cons (T_assign (At.s (At.s At.z)) (by decide) T_cint) (TB_cons (T_if (TT_cmp C_lt (by decide) (T_loc (At.s At.z) rfl rfl) (T_callB (T_bltn G.toGC (by rfl) Boot.«len» (by decide) (by rfl) (by rfl)) (TL_cons (T_loc At.z rfl rfl) TL_nil) (O_lenTop hscr rfl hscrz).call (by decide))) (TB_cons (T_assign (At.s (At.s At.z)) (by decide) (T_itemTop hscr rfl (T_loc At.z rfl rfl) (T_loc (At.s At.z) rfl rfl))) TB_nil) TB_nil) (TB_cons (T_assign (At.s (At.s (At.s At.z))) (by decide) (T_callB (T_bltn G.toGC (by rfl) Boot.«max» (by decide) (by rfl) (by rfl)) (TL_cons (T_callT (T_bltn G.toGC (by rfl) Boot.«int» (by decide) (by rfl) (by rfl)) (TL_cons (T_loc (At.s (At.s At.z)) rfl rfl) TL_nil) O_int.call (by decide)) (TL_cons (T_callT (T_bltn G.toGC (by rfl) Boot.«int» (by decide) (by rfl) (by rfl)) (TL_cons (T_bin O_sub (by decide) (T_neg T_cint) (T_loc (At.s (At.s At.z)) rfl rfl)) TL_nil) O_int.call (by decide)) TL_nil)) O_max.call (by decide))) (TB_cons (T_assign (At.s (At.s (At.s (At.s At.z)))) (by decide) (T_bin O_mod (by decide) (T_callT (T_bltn G.toGC (by rfl) Boot.«int» (by decide) (by rfl) (by rfl)) (TL_cons (T_bin O_mul (by decide) (T_bin O_add (by decide) (T_bin O_add (by decide) (T_bin O_add (by decide) (T_bin O_mod (by decide) (T_callT (T_bltn G.toGC (by rfl) Boot.«int» (by decide) (by rfl) (by rfl)) (TL_cons (T_loc (At.s (At.s (At.s At.z))) rfl rfl) TL_nil) O_int.call (by decide)) T_cint) (T_bin O_mul (by decide) (T_bin O_mul (by decide) T_cint (T_loc (At.s At.z) rfl rfl)) (T_loc (At.s At.z) rfl rfl))) (T_bin O_mul (by decide) T_cint (T_loc (At.s At.z) rfl rfl))) T_cint) T_cint) TL_nil) O_int.call (by decide)) T_cint)) (TB_cons (T_ret (T_list (by decide) (TL_cons (T_bin O_mul (by decide) (T_loc (At.s (At.s (At.s At.z))) rfl rfl) (T_callT (T_bltn G.toGC (by rfl) Boot.«int» (by decide) (by rfl) (by rfl)) (TL_cons (T_cmp C_ge (by decide) (T_loc (At.s (At.s (At.s At.z))) rfl rfl) (T_bin O_pow (by decide) T_cint T_cint)) TL_nil) O_int.call (by decide))) (TL_cons (T_loc (At.s (At.s (At.s (At.s At.z)))) rfl rfl) TL_nil)))) TB_nil))))) ?_)
  intro as hp Q E ⟨e, h⟩
  subst e
  refine ⟨rfl, ?_⟩
  apply mid (fun cell : Int => ⟨[some (.ref p), some (.int 0), some (.int cell), none, none], hp⟩)
  case use =>
    intro rest
    refine ⟨_, rfl, _, rfl, rfl, decide ((0 : Int) < ((ws.toList.map ab).length : Int)), rfl, _, rfl, fun e => ?_, fun e => by exact rest 0⟩
    have e' : (0 : Int) < ((ws.toList.map ab).length : Int) := of_decide_eq_true e
    cases is with
    | nil => rw [hi] at e'; simp at e'
    | cons i r =>
      refine ⟨_, rfl, rfl, _, rfl, 0, .int i, rfl, by decide, by decide, by rw [hi]; rfl, by exact rest i⟩
  case rest =>
    intro cell
    refine ⟨_, rfl, _, rfl, _, rfl, cell, -1 - cell, rfl, ?_⟩
    have hbig : 0 ≤ (if -1 - cell > cell then -1 - cell else cell) := by split <;> omega
    generalize (if -1 - cell > cell then -1 - cell else cell) = big at hbig
    refine ⟨_, rfl, by decide, _, rfl, .inl (by decide), _, rfl, .inl (by decide), _, rfl, .inl (by decide), .inr (by decide), by decide, _, rfl, _, rfl, by decide, by decide, by decide, decide ((10 : Int) ^ (18 : Int).toNat ≤ big), rfl, .inr ?_, _, rfl, by simp, fun D hD => h D _ _ hD ?_ ?_ ?_⟩
    · split <;> decide
    · exact Int.mul_nonneg hbig (by split <;> decide)
    · exact Int.fmod_nonneg_of_pos _ (by decide)
    · exact Int.lt_trans (Int.fmod_lt_of_pos _ (by decide)) (by decide)

inductive ITake (as : List AV) (hp : HP) (Q : AV → HP → Prop) (E : HP → Prop) : Prop
  | mk (W : Wd) (top : Int) (h1 : St W hp) (h2 : as = [.ref W.sl, .int top]) (h3 : 0 < top) (h4 : top < 1073741824) (h5 : SrcOK W) (h6 : ∀ r a b hp', 0 ≤ r → r < top → SrcOK (W.setS a b) → St (W.setS a b) hp' → Fw W hp (W.setS a b) hp' → Q (.int r) hp')
def cTake : CPT := ITake
theorem C_law_take (G : TopOK prog w base mg mb) : CallS prog w base 51 8 (.ref 361) cTake := by
  refine CodeS.call (fun_call (n := 7) G.X G.nolimit (F_law_take w.params) (TB_cons (T_if (TT_cmp C_gt (by decide) (T_item (T_loc At.z rfl rfl) T_cint) T_cint) (TB_cons (T_assign (At.s (At.s At.z)) (by decide) (T_bin O_mod (by decide) (T_callT (T_bltn G.toGC (by rfl) Boot.«int» (by decide) (by rfl) (by rfl)) (TL_cons (T_item (T_loc At.z rfl rfl) T_cint) TL_nil) O_int.call (by decide)) (T_loc (At.s At.z) rfl rfl))) (TB_cons (T_put (T_bin O_div (by decide) (T_item (T_loc At.z rfl rfl) T_cint) (T_loc (At.s At.z) rfl rfl)) (T_loc At.z rfl rfl) T_cint) (TB_cons (T_ret (T_loc (At.s (At.s At.z)) rfl rfl)) TB_nil))) TB_nil) (TB_cons (T_put (T_bin O_mod (by decide) (T_callT (T_bltn G.toGC (by rfl) Boot.«int» (by decide) (by rfl) (by rfl)) (TL_cons (T_bin O_add (by decide) (T_bin O_mul (by decide) (T_item (T_loc At.z rfl rfl) T_cint) T_cint) T_cint) TL_nil) O_int.call (by decide)) T_cint) (T_loc At.z rfl rfl) T_cint) (TB_cons (T_ret (T_bin O_mod (by decide) (T_callT (T_bltn G.toGC (by rfl) Boot.«int» (by decide) (by rfl) (by rfl)) (TL_cons (T_bin O_div (by decide) (T_bin O_mod (by decide) (T_callT (T_bltn G.toGC (by rfl) Boot.«int» (by decide) (by rfl) (by rfl)) (TL_cons (T_bin O_mul (by decide) (T_item (T_loc At.z rfl rfl) T_cint) (T_item (T_loc At.z rfl rfl) T_cint)) TL_nil) O_int.call (by decide)) T_cint) T_cint) TL_nil) O_int.call (by decide)) (T_loc (At.s At.z) rfl rfl))) TB_nil))) ?_)
  intro as hp Q E ⟨W, top, S, e, h0, h1, ⟨s1, s2, s3⟩, h⟩
  subst e
  have a1 := S.setS (W.s0.fdiv top) W.s1
  have a2 := S.setS W.s0 ((W.s1 * 39373 + 7).fmod 2147483647)
  have b1 : 0 ≤ (W.s1 * 39373 + 7).fmod 2147483647 := Int.fmod_nonneg_of_pos _ (by decide)
  have b2 : (W.s1 * 39373 + 7).fmod 2147483647 < 2147483647 := Int.fmod_lt_of_pos _ (by decide)
  refine ⟨rfl, _, rfl, _, .inl ⟨_, S.sl, by decide, by decide, rfl⟩, decide ((0 : Int) < W.s0), rfl, _, rfl, fun e => ?_, fun e => ?_⟩
  · have e' : 0 < W.s0 := of_decide_eq_true e
    refine ⟨_, rfl, _, .inl ⟨_, S.sl, by decide, by decide, rfl⟩, _, rfl, by omega, _, rfl, _, .inl ⟨_, S.sl, by decide, by decide, rfl⟩, _, rfl, h0, by omega, _, rfl, _, _, rfl, rfl, .inl ⟨_, S.sl, by decide, by simp, by simp, ?_⟩⟩
    refine ⟨_, rfl, h (W.s0.fmod top) (W.s0.fdiv top) W.s1 _ (Int.fmod_nonneg_of_pos _ h0) (Int.fmod_lt_of_pos _ h0) ⟨?_, s2, s3⟩ a1.1 a1.2⟩
    show 0 ≤ W.s0.fdiv top
    exact Int.fdiv_nonneg s1 (by omega)
  · refine ⟨_, rfl, _, .inl ⟨_, S.sl, by decide, by decide, rfl⟩, .inr (by decide), by decide, _, rfl, _, _, rfl, rfl, .inl ⟨_, S.sl, by decide, by simp, by simp, ?_⟩⟩
    refine ⟨_, rfl, _, .inl ⟨_, a2.1.sl, by decide, by decide, rfl⟩, _, rfl, _, .inl ⟨_, a2.1.sl, by decide, by decide, rfl⟩, .inl ?_, by decide, by decide, by decide, _, rfl, by omega, ?_⟩
    · show ((W.s1 * 39373 + 7).fmod 2147483647).natAbs < 2 ^ 64
      omega
    · exact h _ W.s0 ((W.s1 * 39373 + 7).fmod 2147483647) _ (Int.fmod_nonneg_of_pos _ h0) (Int.fmod_lt_of_pos _ h0) ⟨s1, b1, by show (W.s1 * 39373 + 7).fmod 2147483647 < _; omega⟩ a2.1 a2.2

inductive IOne (as : List AV) (hp : HP) (Q : AV → HP → Prop) (E : HP → Prop) : Prop
  | mk (W : Wd) (t : Addr) (xs : List AV) (h1 : St W hp) (h2 : as = [.ref W.sl, .ref t]) (h3 : hp t = some (.list xs)) (h4 : W.tag t = .no) (h5 : xs ≠ []) (h6 : xs.length ≤ 1000) (h7 : SrcOK W) (h8 : ∀ (j : Nat) (x : AV) (a b : Int) (hp' : HP), xs[j]? = some x → SrcOK (W.setS a b) → St (W.setS a b) hp' → Fw W hp (W.setS a b) hp' → Q x hp')
def cOne : CPT := IOne
theorem C_law_one (G : TopOK prog w base mg mb) : CallS prog w base 51 10 (.ref 368) cOne := by
  refine CodeS.call (fun_call (n := 9) G.X G.nolimit (F_law_one w.params) (TB_cons (T_ret (T_item (T_loc (At.s At.z) rfl rfl) (T_call G.X (by rfl) (T_glob G.toGC (by rfl) (by rfl) (by rfl)) (told_ref _) (TL_cons (T_loc At.z rfl rfl) (TL_cons (T_callB (T_bltn G.toGC (by rfl) Boot.«len» (by decide) (by rfl) (by rfl)) (TL_cons (T_loc (At.s At.z) rfl rfl) TL_nil) (O_len G.low).call (by decide)) TL_nil)) (C_law_take G) (by decide)))) TB_nil) ?_)
  intro as hp Q E ⟨W, t, xs, S, e, ht, tt, hne, hz, O, h⟩
  subst e
  have hpos : 0 < xs.length := List.length_pos_iff.mpr hne
  refine ⟨rfl, _, rfl, _, rfl, _, rfl, _, rfl, .inl ⟨_, ht, hz, W, _, S, rfl, by omega, by omega, O, fun r a b hp' h0 h1 O' S' f' => ?_⟩⟩
  obtain ⟨j, rfl⟩ := Int.eq_ofNat_of_zero_le h0
  have hj : j < xs.length := by omega
  exact ⟨_, .inl ⟨_, (f'.keep _ _ ht tt).1, h0, by omega, by simp [List.getElem?_eq_getElem hj]⟩, h j _ a b hp' (List.getElem?_eq_getElem hj) O' S' f'⟩
end
end Mine

end

section
open PySem PySem.W PyProof.Rows PySem.Calls
set_option Elab.async false
set_option maxRecDepth 100000
set_option linter.unusedVariables false
namespace Mine

def st_law_above : Option Stmt := stAt 29
def sc_law_above : Scope := scopeIn (stAt 29)
theorem F_law_above (P : Params) : FunIn (KK P) 380 ["lists", "node"] ["found"] (scopeIn (stAt 29)) (bodyOf (stAt 29)) (fnData (stAt 29) "_law_above" (Value.str (Str.ofString "law_nu0066_01") 678) 379) :=
  ⟨⟨_, rfl, rfl⟩, rfl, rfl, rfl, rfl, rfl, by rfl, (fun vals h => by rcases vals with _ | ⟨a0, _ | ⟨a1, _ | ⟨b, r⟩⟩⟩ <;> first | rfl | cases h), by decide, by rfl, by decide, rfl, rfl, rfl⟩
def st_law_is_beneath : Option Stmt := stAt 30
def sc_law_is_beneath : Scope := scopeIn (stAt 30)
theorem F_law_is_beneath (P : Params) : FunIn (KK P) 387 ["lists", "node", "other"] [] (scopeIn (stAt 30)) (bodyOf (stAt 30)) (fnData (stAt 30) "_law_is_beneath" (Value.str (Str.ofString "law_nu0066_01") 678) 386) :=
  ⟨⟨_, rfl, rfl⟩, rfl, rfl, rfl, rfl, rfl, by rfl, (fun vals h => by rcases vals with _ | ⟨a0, _ | ⟨a1, _ | ⟨a2, _ | ⟨b, r⟩⟩⟩⟩ <;> first | rfl | cases h), by decide, by rfl, by decide, rfl, rfl, rfl⟩
def st_law_may_stand : Option Stmt := stAt 31
def sc_law_may_stand : Scope := scopeIn (stAt 31)
theorem F_law_may_stand (P : Params) : FunIn (KK P) 394 ["tree", "lists", "node", "parent", "index", "many"] [] (scopeIn (stAt 31)) (bodyOf (stAt 31)) (fnData (stAt 31) "_law_may_stand" (Value.str (Str.ofString "law_nu0066_01") 678) 393) :=
  ⟨⟨_, rfl, rfl⟩, rfl, rfl, rfl, rfl, rfl, by rfl, (fun vals h => by rcases vals with _ | ⟨a0, _ | ⟨a1, _ | ⟨a2, _ | ⟨a3, _ | ⟨a4, _ | ⟨a5, _ | ⟨b, r⟩⟩⟩⟩⟩⟩⟩ <;> first | rfl | cases h), by decide, by rfl, by decide, rfl, rfl, rfl⟩

/-- the law's lists say what the tree says -/
structure Sync (W : Wd) : Prop where
  ln : W.ls.length ≤ W.rows.length
  ch : ∀ (k : Nat) (e : Addr × List Nat), W.ls[k]? = some e → ∃ q : Rw, W.rows[k]? = some q ∧ e.2 = q.ch
  cl : ∀ (k : Nat) (q : Rw) (p : Nat), k < W.ls.length → W.rows[k]? = some q → q.par = some p → p < W.ls.length
theorem filter_range (par : Option Nat) : ∀ M : Nat, (∀ p, par = some p → p < M) → (List.range M).filter (fun j => decide (par = some j)) = par.toList
  | 0, h => by
    cases par with
    | none => rfl
    | some p => exact absurd (h p rfl) (Nat.not_lt_zero _)
  | M + 1, h => by
    rw [List.range_succ, List.filter_append]
    by_cases e : par = some M
    · subst e
      have h0 : (List.range M).filter (fun j => decide (some M = some j)) = [] := by
        rw [List.filter_eq_nil_iff]
        intro j hj
        have := List.mem_range.mp hj
        simp; omega
      rw [h0]; simp
    · rw [filter_range par M fun p hp => by
        have := h p hp
        have : p ≠ M := fun q => e (by rw [hp, q])
        omega]
      simp [e]
theorem eqNil (hp : HP) {a b : Addr} (ha : hp a = some (.list [])) (hb : hp b = some (.list [])) : kEqRef a b hp true :=
  .inr ⟨.list [], .list [], .list ha .nil, .list hb .nil, rfl, rfl, by decide, rfl⟩
theorem neNil (hp : HP) {a b : Addr} {x : AV} {xs : List AV} (ha : hp a = some (.list (x :: xs))) (hb : hp b = some (.list [])) : kEqRef a b hp false :=
  .inl ⟨_, _, ha, hb, by simp, rfl⟩
section
variable {prog : Program} {w : World} {base : Heap} {mg mb : Str → Option Value}

inductive ILAbove (as : List AV) (hp : HP) (Q : AV → HP → Prop) (E : HP → Prop) : Prop
  | mk (W : Wd) (i : Nat) (q : Rw) (h1 : St W hp) (h2 : as = [.ref W.ld, nt i]) (h3 : OK W.rows) (h4 : Sync W) (h5 : W.ls.length ≤ 900) (h6 : i < W.ls.length) (h7 : W.rows[i]? = some q) (h8 : ∀ hp', St W hp' → Fw W hp W hp' → Q (parV q.par) hp')
def cLAbove : CPT := ILAbove
theorem lsItem {W : Wd} {hp : HP} (S : St W hp) {k : Nat} {e : Addr × List Nat} (h : W.ls[k]? = some e) : kItem (.ref W.ld) (nt k) hp (.ref e.1) :=
  .inr ⟨_, _, S.ld, by have := lsFrom_get W.ls 0 k e h; rw [Nat.zero_add] at this; exact this⟩
theorem C_law_above (G : TopOK prog w base mg mb) : CallS prog w base 51 8 (.ref 380) cLAbove := by
  refine CodeS.call (fun_call (n := 7) G.X G.nolimit (F_law_above w.params) (TB_cons (T_compSet G.low (x := "parent") (capt := ["node", "lists"]) (js := [1, 0]) ⟨by rfl, by rfl, by decide, by rfl, by rfl, by decide, (.cons (At.s At.z) (.cons At.z .nil)), by rfl, by decide⟩ (At.s (At.s At.z)) (by decide) (T_loc At.z rfl rfl) (TI_one (TT_cmp (C_in G.low) (by decide) (T_loc (At.s At.z) rfl rfl) (T_item (T_loc (At.s (At.s At.z)) rfl rfl) (T_loc At.z rfl rfl)))) (T_loc At.z rfl rfl) (fun env he => by (cases env; dsimp only at he; subst he; rfl))) (TB_cons (T_ret (T_ife (TT_cmp C_ne (by decide) (T_loc (At.s (At.s At.z)) rfl rfl) (T_list (by decide) TL_nil)) (T_item (T_loc (At.s (At.s At.z)) rfl rfl) T_cint) T_cnone)) TB_nil)) ?_)
  intro as hp Q E ⟨W, i, q, S, e, K, Y, hz, hi, hq, h⟩
  subst e
  refine ⟨rfl, _, rfl, .dict W.ld W.ep (lsFrom 0 W.ls), rfl, ⟨S.ld, by rw [lsFrom_length]; omega⟩, fun k outs hp' => hp' = hp ∧ outs = ((List.range k).filter (fun j => decide (q.par = some j))).map nt, ⟨rfl, rfl⟩, ?_, ?_⟩
  · rintro k outs hp' y hy ⟨rfl, rfl⟩
    have hy' : ((lsFrom 0 W.ls).map fun p => AV.int p.1)[k]? = some y := hy
    have hk : k < W.ls.length := by
      have := (List.getElem?_eq_some_iff.mp hy').1
      rw [List.length_map, lsFrom_length] at this; exact this
    have hyk : y = nt k := by
      have e2 : (lsFrom 0 W.ls).map (fun p => AV.int p.1) = ((lsFrom 0 W.ls).map (·.1)).map AV.int := by rw [List.map_map]; rfl
      rw [e2, lsFrom_keys, List.map_map] at hy'
      rw [List.getElem?_map, List.getElem?_range' hk] at hy'
      simp at hy'
      exact hy'.symm
    subst hyk
    obtain ⟨e, he⟩ : ∃ e, W.ls[k]? = some e := ⟨_, List.getElem?_eq_getElem hk⟩
    obtain ⟨qk, hqk, hek⟩ := Y.ch k e he
    have hiff : (i : Int) ∈ (e.2.map fun i : Nat => (i : Int)) ↔ q.par = some k := by
      constructor
      · intro hm
        obtain ⟨j, hj, e1⟩ := List.mem_map.mp hm
        have : j = i := by omega
        subst this
        obtain ⟨qc, h1, h2⟩ := K.dn k qk j hqk (hek ▸ hj)
        rw [hq] at h1; cases h1
        exact h2
      · intro hp
        obtain ⟨qp, h1, h2⟩ := K.up i q k hq hp
        rw [hqk] at h1; cases h1
        exact List.mem_map.mpr ⟨i, hek ▸ h2, rfl⟩
    refine ⟨S.ld, ?_⟩
    have hl := (S.lst k e he).1
    rw [map_nt] at hl
    refine ⟨_, rfl, _, rfl, _, rfl, .ref e.1, lsItem S he, decide (q.par = some k), .inr ⟨_, hl, by simp only [hiff]⟩, _, rfl, rfl, fun e => ⟨rfl, ?_⟩, fun e => ⟨_, rfl, rfl, rfl, ?_⟩⟩
    · have e' : ¬ q.par = some k := of_decide_eq_false e
      rw [List.range_succ, List.filter_append]; simp [e']
    · have e' : q.par = some k := of_decide_eq_true e
      rw [List.range_succ, List.filter_append]; simp [e']
  · rintro outs hp' ⟨rfl, rfl⟩
    refine ⟨S.ld, fun D hD => ?_⟩
    have hlen : (Src.dict W.ld W.ep (lsFrom 0 W.ls)).items.length = W.ls.length := by show ((lsFrom 0 W.ls).map _).length = _; rw [List.length_map, lsFrom_length]
    rw [hlen, filter_range q.par W.ls.length fun p hp => Y.cl i q p hi hq hp]
    obtain ⟨S1, f1⟩ := S.new hD (.list (q.par.toList.map nt))
    have hD1 : upd hp' D (.list (q.par.toList.map nt)) D = _ := upd_self _ _ _
    cases hpar : q.par with
    | none =>
      refine ⟨_, rfl, by decide, fun D2 hD2 => ?_⟩
      rw [hpar] at S1 f1
      obtain ⟨S2, f2⟩ := S1.new hD2 (.list [])
      have hne : D ≠ D2 := fun e => by rw [← e] at hD2; change upd hp' D _ D = none at hD2; rw [upd_self] at hD2; cases hD2
      refine ⟨false, eqNil _ ((upd_other hne).trans (upd_self _ _ _)) (upd_self _ _ _), false, rfl, nofun, fun _ => ?_⟩
      have := h _ S2 (f1.trans f2)
      rw [hpar] at this; exact this
    | some p =>
      refine ⟨_, rfl, by decide, fun D2 hD2 => ?_⟩
      rw [hpar] at S1 f1
      obtain ⟨S2, f2⟩ := S1.new hD2 (.list [])
      have hne : D ≠ D2 := fun e => by rw [← e] at hD2; change upd hp' D _ D = none at hD2; rw [upd_self] at hD2; cases hD2
      have hD3 : upd (upd hp' D (.list ((some p).toList.map nt))) D2 (.list []) D = some (.list [nt p]) := (upd_other hne).trans (upd_self _ _ _)
      refine ⟨true, neNil _ hD3 (upd_self _ _ _), true, rfl, fun _ => ?_, nofun⟩
      have := h _ S2 (f1.trans f2)
      rw [hpar] at this
      exact ⟨_, rfl, nt p, .inl ⟨_, hD3, by decide, by decide, rfl⟩, this⟩

inductive ILBeneath (as : List AV) (hp : HP) (Q : AV → HP → Prop) (E : HP → Prop) : Prop
  | mk (W : Wd) (a : Option Nat) (b : Nat) (h1 : St W hp) (h2 : as = [.ref W.ld, parV a, nt b]) (h3 : OK W.rows) (h4 : Sync W) (h5 : W.ls.length ≤ 900) (h6 : (∀ i, a = some i → i < W.ls.length)) (h7 : ∀ (r : Bool) hp', (r = true ↔ Up W.rows b a) → St W hp' → Fw W hp W hp' → Q (.bool r) hp')
def cLBeneath : CPT := ILBeneath
theorem C_law_is_beneath (G : TopOK prog w base mg mb) : CallS prog w base 51 10 (.ref 387) cLBeneath := by
  refine CodeS.call (fun_call (n := 9) G.X G.nolimit (F_law_is_beneath w.params) (TB_cons (T_while (TT_cmp C_isNot (by decide) (T_loc (At.s At.z) rfl rfl) T_cnone) (TB_cons (T_if (TT_cmp C_eq (by decide) (T_loc (At.s At.z) rfl rfl) (T_loc (At.s (At.s At.z)) rfl rfl)) (TB_cons (T_ret T_cbool) TB_nil) TB_nil) (TB_cons (T_assign (At.s At.z) (by decide) (T_call G.X (by rfl) (T_glob G.toGC (by rfl) (by rfl) (by rfl)) (told_ref _) (TL_cons (T_loc At.z rfl rfl) (TL_cons (T_loc (At.s At.z) rfl rfl) TL_nil)) (C_law_above G) (by decide))) TB_nil))) (TB_cons (T_ret T_cbool) TB_nil)) ?_)
  intro as hp Q E ⟨W, a, b, S, e, K, Y, hz, ha, h⟩
  subst e
  obtain ⟨rk, hrk⟩ := K.ac
  refine ⟨rfl, fun k σ' => ∃ a' hp', σ' = ⟨[some (.ref W.ld), some (parV a'), some (nt b)], hp'⟩ ∧ St W hp' ∧ Fw W hp W hp' ∧ (∀ i, a' = some i → i < W.ls.length) ∧ (Up W.rows b a ↔ Up W.rows b a') ∧ k = rkO rk a', _, ⟨a, hp, rfl, S, .refl .., ha, Iff.rfl, rfl⟩, ?_⟩
  rintro k σ' ⟨a', hp', rfl, S', f', hv, hu, rfl⟩
  cases a' with
  | none => exact ⟨_, rfl, false, rfl, false, rfl, nofun, fun _ => h false hp' ⟨nofun, fun u => (up_none (hu.mp u)).elim⟩ S' f'⟩
  | some i =>
    have hi := hv i rfl
    obtain ⟨q, hq⟩ : ∃ q, W.rows[i]? = some q := ⟨_, List.getElem?_eq_getElem (Nat.lt_of_lt_of_le hi Y.ln)⟩
    refine ⟨_, rfl, true, rfl, true, rfl, fun _ => ?_, nofun⟩
    refine ⟨_, rfl, _, rfl, decide ((i : Int) = b), rfl, decide ((i : Int) = b), rfl, fun e => ?_, fun e => ?_⟩
    · have : i = b := by have := of_decide_eq_true e; omega
      exact h true hp' ⟨fun _ => hu.mpr (by rw [this]; exact .here), fun _ => rfl⟩ S' f'
    · have hne : i ≠ b := by have := of_decide_eq_false e; omega
      refine ⟨_, rfl, _, rfl, W, i, q, S', rfl, K, Y, hz, hi, hq, fun hp2 S2 f2 => ?_⟩
      refine ⟨rkO rk q.par, ?_, q.par, hp2, rfl, S2, f'.trans f2, fun p hp => Y.cl i q p hi hq hp, hu.trans ((up_some hq).trans ⟨fun x => x.resolve_left hne, .inr⟩), rfl⟩
      cases e : q.par with
      | none => exact Nat.succ_pos _
      | some p => exact Nat.succ_lt_succ (hrk i q p hq e).2

inductive IMay (as : List AV) (hp : HP) (Q : AV → HP → Prop) (E : HP → Prop) : Prop
  | mk (W : Wd) (i p : Nat) (q qp : Rw) (idx many : Int) (h1 : St W hp) (h2 : as = [.ref W.x, .ref W.ld, nt i, nt p, .int idx, .int many]) (h3 : OK W.rows) (h4 : Sync W) (h5 : W.ls.length ≤ 900) (h6 : W.rows.length ≤ 900) (h7 : W.rows[i]? = some q) (h8 : W.rows[p]? = some qp) (h9 : p < W.ls.length) (h10 : ∀ (r : Bool) hp', (r = true ↔ (q.kind ≠ ("root" : Str) ∧ qp.kind ≠ ("text" : Str) ∧ ¬ Up W.rows i (some p) ∧ 0 ≤ idx ∧ idx ≤ many)) → St W hp' → Fw W hp W hp' → Q (.bool r) hp')
def cMay : CPT := IMay
theorem C_law_may_stand (G : TopOK prog w base mg mb) : CallS prog w base 51 13 (.ref 394) cMay := by
  refine CodeS.call (fun_call (n := 12) G.X G.nolimit (F_law_may_stand w.params) (TB_cons (T_if (TT_bool (TA_or (TT_cmp C_eq (by decide) (T_meth (CT := 282) (f := 202) G.X (by rfl) (by rfl) (by rfl) (by rfl) (T_loc At.z rfl rfl) (TL_cons (T_loc (At.s (At.s At.z)) rfl rfl) TL_nil) (C_m_kind G) (by decide)) T_cstr) (TA_or (TT_cmp C_eq (by decide) (T_meth (CT := 282) (f := 202) G.X (by rfl) (by rfl) (by rfl) (by rfl) (T_loc At.z rfl rfl) (TL_cons (T_loc (At.s (At.s (At.s At.z))) rfl rfl) TL_nil) (C_m_kind G) (by decide)) T_cstr) (TA_or (TT_not (TT_chain C_le C_le (by decide) T_cint (T_loc (At.s (At.s (At.s (At.s At.z)))) rfl rfl) (T_loc (At.s (At.s (At.s (At.s (At.s At.z))))) rfl rfl))) TA_orNil)))) (TB_cons (T_ret T_cbool) TB_nil) TB_nil) (TB_cons (T_ret (T_not (T_call G.X (by rfl) (T_glob G.toGC (by rfl) (by rfl) (by rfl)) (told_ref _) (TL_cons (T_loc (At.s At.z) rfl rfl) (TL_cons (T_loc (At.s (At.s (At.s At.z))) rfl rfl) (TL_cons (T_loc (At.s (At.s At.z)) rfl rfl) TL_nil))) (C_law_is_beneath G) (by decide)))) TB_nil)) ?_)
  intro as hp Q E ⟨W, i, p, q, qp, idx, many, S, e, K, Y, hz, hz2, hq, hqp, hp, h⟩
  subst e
  refine ⟨rfl, _, rfl, _, _, _, rfl, S.x, S.d, notRows (by decide), _, rfl, W, i, q, S, rfl, hq, hz2, decide (q.kind = ("root" : Str)), rfl, _, rfl, fun e => ⟨fun _ => ?_, nofun⟩, fun e => ?_⟩
  · exact h false _ ⟨nofun, fun x => absurd (of_decide_eq_true e) x.1⟩ S (.refl ..)
  have e1 : q.kind ≠ ("root" : Str) := of_decide_eq_false e
  refine ⟨_, rfl, _, _, _, rfl, S.x, S.d, notRows (by decide), _, rfl, W, p, qp, S, rfl, hqp, hz2, decide (qp.kind = ("text" : Str)), rfl, _, rfl, fun e => ⟨fun _ => ?_, nofun⟩, fun e => ?_⟩
  · exact h false _ ⟨nofun, fun x => absurd (of_decide_eq_true e) x.2.1⟩ S (.refl ..)
  have e2 : qp.kind ≠ ("text" : Str) := of_decide_eq_false e
  have fin : ∀ (r : Bool) hp', (r = true ↔ Up W.rows i (some p)) → 0 ≤ idx → idx ≤ many → St W hp' → Fw W _ W hp' → Q (.bool (!r)) hp' := fun r hp' hr h0 h1 S' f' => h (!r) hp' ⟨fun x => ⟨e1, e2, (fun u => by rw [hr.mpr u] at x; cases x), h0, h1⟩, fun x => by
    cases hr' : r with
    | true => exact absurd (hr.mp hr') x.2.2.1
    | false => rfl⟩ S' f'
  refine ⟨_, rfl, decide ((0 : Int) ≤ idx), rfl, fun e => ⟨false, rfl, fun _ => ⟨fun _ => ?_, nofun⟩, nofun⟩, fun e => ⟨_, rfl, decide (idx ≤ many), rfl, _, rfl, fun e' => ⟨fun _ => ?_, nofun⟩, fun e' => ⟨nofun, fun _ => ?_⟩⟩⟩
  · exact h false _ ⟨nofun, fun x => absurd x.2.2.2.1 (of_decide_eq_false e)⟩ S (.refl ..)
  · have e3 : ¬ idx ≤ many := by simpa using e'
    exact h false _ ⟨nofun, fun x => absurd x.2.2.2.2 e3⟩ S (.refl ..)
  · have e3 : idx ≤ many := by simpa using e'
    exact ⟨_, rfl, _, rfl, _, rfl, W, some p, i, S, rfl, K, Y, hz, fun j hj => by cases hj; exact hp, fun r hp' hr S' f' => ⟨r, rfl, fin r hp' hr (of_decide_eq_true e) e3 S' f'⟩⟩
end
end Mine

end

section
open PySem PySem.W PyProof.Rows PySem.Calls
set_option Elab.async false
set_option maxRecDepth 100000
set_option linter.unusedVariables false
namespace Mine

def st_law_edit : Option Stmt := stAt 32
def sc_law_edit : Scope := scopeIn (stAt 32)
theorem F_law_edit (P : Params) : FunIn (KK P) 401 ["tree", "lists", "way", "told"] ["node", "parent", "index", "above", "many"] (scopeIn (stAt 32)) (bodyOf (stAt 32)) (fnData (stAt 32) "_law_edit" (Value.str (Str.ofString "law_nu0066_01") 678) 400) :=
  ⟨⟨_, rfl, rfl⟩, rfl, rfl, rfl, rfl, rfl, by rfl, (fun vals h => by rcases vals with _ | ⟨a0, _ | ⟨a1, _ | ⟨a2, _ | ⟨a3, _ | ⟨b, r⟩⟩⟩⟩⟩ <;> first | rfl | cases h), by decide, by rfl, by decide, rfl, rfl, rfl⟩
def st_law_done : Option Stmt := stAt 33
def sc_law_done : Scope := scopeIn (stAt 33)
theorem F_law_done (P : Params) : FunIn (KK P) 408 ["tree", "way", "told"] ["node", "parent", "index"] (scopeIn (stAt 33)) (bodyOf (stAt 33)) (fnData (stAt 33) "_law_done" (Value.str (Str.ofString "law_nu0066_01") 678) 407) :=
  ⟨⟨_, rfl, rfl⟩, rfl, rfl, rfl, rfl, rfl, by rfl, (fun vals h => by rcases vals with _ | ⟨a0, _ | ⟨a1, _ | ⟨a2, _ | ⟨b, r⟩⟩⟩⟩ <;> first | rfl | cases h), by decide, by rfl, by decide, rfl, rfl, rfl⟩
def st_law_same : Option Stmt := stAt 34
def sc_law_same : Scope := scopeIn (stAt 34)
theorem F_law_same (P : Params) : FunIn (KK P) 415 ["tree", "lists"] ["node"] (scopeIn (stAt 34)) (bodyOf (stAt 34)) (fnData (stAt 34) "_law_same" (Value.str (Str.ofString "law_nu0066_01") 678) 414) :=
  ⟨⟨_, rfl, rfl⟩, rfl, rfl, rfl, rfl, rfl, by rfl, (fun vals h => by rcases vals with _ | ⟨a0, _ | ⟨a1, _ | ⟨b, r⟩⟩⟩ <;> first | rfl | cases h), by decide, by rfl, by decide, rfl, rfl, rfl⟩

/-- what an edit makes of the rows, where it may be -/
inductive Ed (rows : List Rw) (way : Str) (i : Nat) (q : Rw) (p : Nat) (qp : Rw) (idx : Int) (rows' : List Rw) : Prop
  | rm {a : Nat} {qa : Rw} (h : way = ("remove" : Str)) (h1 : q.par = some a) (h2 : rows[a]? = some qa) (e : rows' = rmR rows i q a qa)
  | ins (h : way = ("insert" : Str)) (h1 : Fits rows i q p qp idx) (h2 : q.par = none) (e : rows' = insR rows i q p qp idx.toNat)
  | mv {a : Nat} {qa qp1 : Rw} (h : way = ("move" : Str)) (h1 : Movable rows i q p qp idx) (h2 : q.par = some a) (h3 : rows[a]? = some qa) (h4 : (rmR rows i q a qa)[p]? = some qp1) (e : rows' = insR (rmR rows i q a qa) i { q with par := none } p qp1 idx.toNat)
def Can (rows : List Rw) (way : Str) (i : Nat) (q : Rw) (p : Nat) (qp : Rw) (idx : Int) : Prop := ∃ rows', Ed rows way i q p qp idx rows'
def Match (ls : List (Addr × List Nat)) (rows : List Rw) : Prop := ∀ (k : Nat) (e : Addr × List Nat), ls[k]? = some e → ∃ z : Rw, rows[k]? = some z ∧ e.2 = z.ch
def Way (way : Str) : Prop := way = ("remove" : Str) ∨ way = ("insert" : Str) ∨ way = ("move" : Str)

theorem drs_ints (hp : HP) : ∀ l : List Nat, DRs hp (l.map nt) (l.map fun i : Nat => .int (i : Int))
  | [] => .nil
  | a :: r => .cons (.int _) (drs_ints hp r)
theorem canLay_ints : ∀ l : List Nat, PyData.canLayAll0 (l.map fun i : Nat => .int (i : Int)) = true
  | [] => by simp [PyData.canLayAll0]
  | a :: r => by
    have := canLay_ints r
    simp only [List.map_cons, PyData.canLayAll0, PyData.canLay0, this, Bool.and_self]
theorem depth_ints : ∀ l : List Nat, PyData.depthAll (l.map fun i : Nat => .int (i : Int)) = 0
  | [] => by simp [PyData.depthAll]
  | a :: r => by
    have := depth_ints r
    simp [PyData.depthAll, PyData.depth, this]
theorem eqInts (hp : HP) {a b : Addr} {l : List Nat} (ha : hp a = some (.list (l.map nt))) (hb : hp b = some (.list (l.map nt))) : kEqRef a b hp true := by
  have hc : (PyData.list (l.map fun i : Nat => .int (i : Int))).canLay0 = true := by unfold PyData.canLay0; exact canLay_ints l
  refine .inr ⟨_, _, .list ha (drs_ints hp l), .list hb (drs_ints hp l), hc, hc, ?_, (PySem.SeqAt.eqv_refl _ hc).symm⟩
  unfold PyData.depth; rw [depth_ints]; decide
section
variable {prog : Program} {w : World} {base : Heap} {mg mb : Str → Option Value}

inductive IDone (as : List AV) (hp : HP) (Q : AV → HP → Prop) (E : HP → Prop) : Prop
  | mk (W : Wd) (i p : Nat) (q qp : Rw) (idx : Int) (way : Str) (T : Addr) (h1 : St W hp) (h2 : as = [.ref W.x, .str way, .ref T]) (h3 : hp T = some (.tup [nt i, nt p, .int idx])) (h4 : W.tag T = .no) (h5 : OK W.rows) (h6 : W.rows.length ≤ 900) (h7 : W.rows[i]? = some q) (h8 : W.rows[p]? = some qp) (h9 : Way way) (h10 : (∀ rows' hp', Ed W.rows way i q p qp idx rows' → St (W.rows' rows') hp' → Fw W hp (W.rows' rows') hp' → Q (.bool true) hp')) (h11 : (¬ Can W.rows way i q p qp idx → ∀ hp', St W hp' → Fw W hp W hp' → Q (.bool false) hp'))
def cDone : CPT := IDone
theorem C_law_done (G : TopOK prog w base mg mb) : CallS prog w base 51 19 (.ref 408) cDone := by
  refine CodeS.call (fun_call (n := 18) G.X G.nolimit (F_law_done w.params) (TB_cons (T_unp3 (At.s (At.s (At.s At.z))) (At.s (At.s (At.s (At.s At.z)))) (At.s (At.s (At.s (At.s (At.s At.z))))) (by decide) (by decide) (by decide) (T_loc (At.s (At.s At.z)) rfl rfl)) (TB_cons (T_try G.toGC (excK _) (by rfl) (by rfl) (by rfl) (by decide) (by rfl) (TB_cons (T_if (TT_cmp C_eq (by decide) (T_loc (At.s At.z) rfl rfl) T_cstr) (TB_cons (T_expr (T_call G.X (by rfl) (T_glob G.toGC (by rfl) (by rfl) (by rfl)) (told_ref _) (TL_cons (T_loc At.z rfl rfl) (TL_cons (T_loc (At.s (At.s (At.s At.z))) rfl rfl) TL_nil)) (C_remove G) (by decide)) (fun _ => trivial)) TB_nil) (TB_cons (T_if (TT_cmp C_eq (by decide) (T_loc (At.s At.z) rfl rfl) T_cstr) (TB_cons (T_expr (T_call G.X (by rfl) (T_glob G.toGC (by rfl) (by rfl) (by rfl)) (told_ref _) (TL_cons (T_loc At.z rfl rfl) (TL_cons (T_loc (At.s (At.s (At.s (At.s At.z)))) rfl rfl) (TL_cons (T_loc (At.s (At.s (At.s (At.s (At.s At.z))))) rfl rfl) (TL_cons (T_loc (At.s (At.s (At.s At.z))) rfl rfl) TL_nil)))) (C_insert G) (by decide)) (fun _ => trivial)) TB_nil) (TB_cons (T_expr (T_call G.X (by rfl) (T_glob G.toGC (by rfl) (by rfl) (by rfl)) (told_ref _) (TL_cons (T_loc At.z rfl rfl) (TL_cons (T_loc (At.s (At.s (At.s At.z))) rfl rfl) (TL_cons (T_loc (At.s (At.s (At.s (At.s At.z)))) rfl rfl) (TL_cons (T_loc (At.s (At.s (At.s (At.s (At.s At.z))))) rfl rfl) TL_nil)))) (C_move G) (by decide)) (fun _ => trivial)) TB_nil)) TB_nil)) TB_nil)) (TB_cons (T_ret T_cbool) TB_nil))) ?_)
  intro as hp Q E ⟨W, i, p, q, qp, idx, way, T, S, e, hT, tT, K, hz, hq, hqp, hw, h1, h2⟩
  subst e
  refine ⟨rfl, _, rfl, T, _, _, _, rfl, hT, ?_⟩
  refine ⟨_, rfl, decide (way = ("remove" : Str)), rfl, _, rfl, fun e => ?_, fun e => ?_⟩
  · have ew := of_decide_eq_true e
    refine ⟨_, rfl, _, rfl, W, i, q, S, rfl, hz, K, hq, fun hpar => ?_, fun a qa hp' hpar hqa S' f' => ?_⟩
    · refine h2 (fun ⟨r, x⟩ => ?_) hp S (.refl ..)
      rcases x with ⟨_, x, _, _⟩ | ⟨x, _, _, _⟩ | ⟨x, _, _, _, _, _⟩
      · rw [hpar] at x; cases x
      · rw [ew] at x; exact absurd x (by decide)
      · rw [ew] at x; exact absurd x (by decide)
    · exact h1 _ hp' (.rm ew hpar hqa rfl) S' f'
  · have nw : way ≠ ("remove" : Str) := of_decide_eq_false e
    refine ⟨_, rfl, decide (way = ("insert" : Str)), rfl, _, rfl, fun e => ?_, fun e => ?_⟩
    · have ew := of_decide_eq_true e
      refine ⟨_, rfl, _, rfl, _, rfl, _, rfl, W, p, qp, i, q, idx, S, rfl, hz, K, hq, hqp, fun ⟨f, hpar⟩ hp' S' f' => ?_, fun nf hp' S' f' => ?_⟩
      · exact h1 _ hp' (.ins ew f hpar rfl) S' f'
      · refine h2 (fun ⟨r, x⟩ => ?_) hp' S' f'
        rcases x with ⟨x, _, _, _⟩ | ⟨_, x, y, _⟩ | ⟨x, _, _, _, _, _⟩
        · exact nw x
        · exact nf ⟨x, y⟩
        · rw [ew] at x; exact absurd x (by decide)
    · have nw2 : way ≠ ("insert" : Str) := of_decide_eq_false e
      have ew : way = ("move" : Str) := (hw.resolve_left nw).resolve_left nw2
      refine ⟨_, rfl, _, rfl, _, rfl, _, rfl, W, i, q, p, qp, idx, S, rfl, hz, K, hq, hqp, fun a qa qp1 y1 y2 y3 y4 hp' S' f' => ?_, fun nf hp' S' f' => ?_⟩
      · exact h1 _ hp' (.mv ew y4 y1 y2 y3 rfl) S' f'
      · refine h2 (fun ⟨r, x⟩ => ?_) hp' S' f'
        rcases x with ⟨x, _, _, _⟩ | ⟨x, _, _, _⟩ | ⟨_, x, _, _, _, _⟩
        · exact nw x
        · exact nw2 x
        · exact nf x

inductive ISame (as : List AV) (hp : HP) (Q : AV → HP → Prop) (E : HP → Prop) : Prop
  | mk (W : Wd) (h1 : St W hp) (h2 : as = [.ref W.x, .ref W.ld]) (h3 : OK W.rows) (h4 : Sync W) (h5 : W.rows.length ≤ 900) (h6 : ∀ hp', St W hp' → Fw W hp W hp' → Q (.bool true) hp')
def cSame : CPT := ISame
theorem kEq_par (par : Option Nat) (hp : HP) : kEq (parV par) (parV par) hp true := by
  cases par with
  | none => rfl
  | some p => exact (decide_eq_true rfl).symm
theorem C_law_same (G : TopOK prog w base mg mb) : CallS prog w base 51 13 (.ref 415) cSame := by
  refine CodeS.call (fun_call (n := 12) G.X G.nolimit (F_law_same w.params) (TB_cons (T_for G.low (At.s (At.s At.z)) (by decide) (T_loc (At.s At.z) rfl rfl) (TB_cons (T_if (TT_bool (TA_or (TT_cmp C_ne (by decide) (T_meth (CT := 282) (f := 244) G.X (by rfl) (by rfl) (by rfl) (by rfl) (T_loc At.z rfl rfl) (TL_cons (T_loc (At.s (At.s At.z)) rfl rfl) TL_nil) (C_m_children G) (by decide)) (T_item (T_loc (At.s At.z) rfl rfl) (T_loc (At.s (At.s At.z)) rfl rfl))) (TA_or (TT_cmp C_ne (by decide) (T_meth (CT := 282) (f := 237) G.X (by rfl) (by rfl) (by rfl) (by rfl) (T_loc At.z rfl rfl) (TL_cons (T_loc (At.s (At.s At.z)) rfl rfl) TL_nil) (C_m_parent G) (by decide)) (T_call G.X (by rfl) (T_glob G.toGC (by rfl) (by rfl) (by rfl)) (told_ref _) (TL_cons (T_loc (At.s At.z) rfl rfl) (TL_cons (T_loc (At.s (At.s At.z)) rfl rfl) TL_nil)) (C_law_above G) (by decide))) TA_orNil))) (TB_cons (T_ret T_cbool) TB_nil) TB_nil) TB_nil)) (TB_cons (T_ret T_cbool) TB_nil)) ?_)
  intro as hp Q E ⟨W, S, e, K, Y, hz, h⟩
  subst e
  have hln : W.ls.length ≤ 900 := Nat.le_trans Y.ln hz
  have hlen : (Src.dict W.ld W.ep (lsFrom 0 W.ls)).items.length = W.ls.length := by show ((lsFrom 0 W.ls).map _).length = _; rw [List.length_map, lsFrom_length]
  refine ⟨rfl, _, rfl, .dict W.ld W.ep (lsFrom 0 W.ls), rfl, ⟨S.ld, by rw [lsFrom_length]; omega⟩, fun k σ' => ∃ o hp', σ' = ⟨[some (.ref W.x), some (.ref W.ld), o], hp'⟩ ∧ St W hp' ∧ Fw W hp W hp', ⟨_, _, rfl, S, .refl ..⟩, ?_, ?_⟩
  · rintro k σ' y hy ⟨o, hp', rfl, S', f'⟩
    refine ⟨S'.ld, ?_⟩
    have hy' : ((lsFrom 0 W.ls).map fun p => AV.int p.1)[k]? = some y := hy
    have hk : k < W.ls.length := by
      have := (List.getElem?_eq_some_iff.mp hy').1
      rw [List.length_map, lsFrom_length] at this; exact this
    have hyk : y = nt k := by
      have e2 : (lsFrom 0 W.ls).map (fun p => AV.int p.1) = ((lsFrom 0 W.ls).map (·.1)).map AV.int := by rw [List.map_map]; rfl
      rw [e2, lsFrom_keys, List.map_map] at hy'
      rw [List.getElem?_map, List.getElem?_range' hk] at hy'
      simp at hy'
      exact hy'.symm
    subst hyk
    obtain ⟨e, he⟩ : ∃ e, W.ls[k]? = some e := ⟨_, List.getElem?_eq_getElem hk⟩
    obtain ⟨qk, hqk, hek⟩ := Y.ch k e he
    have hchl := K.ch_len hqk
    refine ⟨_, rfl, _, _, _, rfl, S'.x, S'.d, notRows (by decide), _, rfl, W, k, qk, S', rfl, hqk, hz, Nat.le_trans hchl hz, fun D hD => ?_⟩
    obtain ⟨S1, f1⟩ := S'.new hD (.list (qk.ch.map nt))
    have hl := (S1.lst k e he).1
    rw [hek] at hl
    refine ⟨_, rfl, _, rfl, .ref e.1, lsItem S1 he, false, eqInts _ (upd_self _ _ _) hl, false, rfl, nofun, fun _ => ?_⟩
    refine ⟨_, rfl, _, _, _, rfl, S1.x, S1.d, notRows (by decide), _, rfl, W, k, qk, S1, rfl, hqk, hz, _, rfl, _, rfl, W, k, qk, S1, rfl, K, Y, hln, hk, hqk, fun hp2 S2 f2 => ?_⟩
    refine ⟨false, kEq_par qk.par _, false, rfl, nofun, fun _ => ⟨nofun, fun _ => ?_⟩⟩
    exact ⟨_, hp2, rfl, S2, (f'.trans f1).trans f2⟩
  · rintro σ' ⟨o, hp', rfl, S', f'⟩
    exact ⟨S'.ld, h hp' S' f'⟩
end
end Mine

end

section
open PySem PySem.W PyProof.Rows PySem.Calls
set_option Elab.async false
set_option maxRecDepth 100000
set_option linter.unusedVariables false
namespace Mine

theorem match_rm {W : Wd} (Y : Sync W) {i a : Nat} {q qa : Rw} {ea : Addr × List Nat} (hq : W.rows[i]? = some q) (hqa : W.rows[a]? = some qa) (hea : W.ls[a]? = some ea) (hne : i ≠ a) : Match (W.ls.set a (ea.1, ea.2.erase i)) (rmR W.rows i q a qa) := by
  intro k e he
  rw [List.getElem?_set] at he
  rw [rm_get hq hqa]
  by_cases h : a = k
  · subst h
    rw [if_pos rfl] at he
    split at he
    · cases he
      rw [if_neg (Ne.symm hne), if_pos rfl]
      obtain ⟨z, h1, h2⟩ := Y.ch a ea hea
      rw [hqa] at h1; cases h1
      exact ⟨_, rfl, by dsimp only; rw [h2]⟩
    · cases he
  · rw [if_neg h] at he
    obtain ⟨z, h1, h2⟩ := Y.ch k e he
    by_cases hk : k = i
    · subst hk
      rw [hq] at h1; cases h1
      rw [if_pos rfl]
      exact ⟨_, rfl, h2⟩
    · rw [if_neg hk, if_neg (Ne.symm h)]
      exact ⟨z, h1, h2⟩
theorem match_ins {ls : List (Addr × List Nat)} {rows : List Rw} (Y : Match ls rows) {i p k : Nat} {q qp : Rw} {ep : Addr × List Nat} (hq : rows[i]? = some q) (hqp : rows[p]? = some qp) (hep : ls[p]? = some ep) (hne : i ≠ p) : Match (ls.set p (ep.1, insL ep.2 k i)) (insR rows i q p qp k) := by
  intro j e he
  rw [List.getElem?_set] at he
  rw [ins_get hq hqp]
  by_cases h : p = j
  · subst h
    rw [if_pos rfl] at he
    split at he
    · cases he
      rw [if_neg (Ne.symm hne), if_pos rfl]
      obtain ⟨z, h1, h2⟩ := Y p ep hep
      rw [hqp] at h1; cases h1
      exact ⟨_, rfl, by dsimp only; rw [h2]⟩
    · cases he
  · rw [if_neg h] at he
    obtain ⟨z, h1, h2⟩ := Y j e he
    by_cases hj : j = i
    · subst hj
      rw [hq] at h1; cases h1
      rw [if_pos rfl]
      exact ⟨_, rfl, h2⟩
    · rw [if_neg hj, if_neg (Ne.symm h)]
      exact ⟨z, h1, h2⟩
theorem move_ne {rows : List Rw} {i p : Nat} {q qp : Rw} {idx : Int} (h : Movable rows i q p qp idx) : i ≠ p := fun e => by
  obtain ⟨a, _, _, _, u, _⟩ := h
  exact u (by rw [e]; exact .here)
theorem way_ri : ("remove" : Str) ≠ ("insert" : Str) := by decide
theorem way_rm : ("remove" : Str) ≠ ("move" : Str) := by decide
theorem way_im : ("insert" : Str) ≠ ("move" : Str) := by decide
section
variable {prog : Program} {w : World} {base : Heap} {mg mb : Str → Option Value}

inductive IEdit (as : List AV) (hp : HP) (Q : AV → HP → Prop) (E : HP → Prop) : Prop
  | mk (W : Wd) (i p : Nat) (q qp : Rw) (idx : Int) (way : Str) (T : Addr) (h1 : St W hp) (h2 : as = [.ref W.x, .ref W.ld, .str way, .ref T]) (h3 : hp T = some (.tup [nt i, nt p, .int idx])) (h4 : W.tag T = .no) (h5 : OK W.rows) (h6 : Sync W) (h7 : W.ls.length = W.rows.length) (h8 : W.rows.length ≤ 900) (h9 : W.rows[i]? = some q) (h10 : W.rows[p]? = some qp) (h11 : Way way) (h12 : (∀ ls' hp', Can W.rows way i q p qp idx → ls'.length = W.ls.length → (∀ rows', Ed W.rows way i q p qp idx rows' → Match ls' rows') → St { W with ls := ls' } hp' → Fw W hp { W with ls := ls' } hp' → Q (.bool true) hp')) (h13 : (¬ Can W.rows way i q p qp idx → ∀ hp', St W hp' → Fw W hp W hp' → Q (.bool false) hp'))
def cEdit : CPT := IEdit
theorem C_law_edit (G : TopOK prog w base mg mb) : CallS prog w base 51 15 (.ref 401) cEdit := by
  refine CodeS.call (fun_call (n := 14) G.X G.nolimit (F_law_edit w.params) (TB_cons (T_unp3 (At.s (At.s (At.s (At.s At.z)))) (At.s (At.s (At.s (At.s (At.s At.z))))) (At.s (At.s (At.s (At.s (At.s (At.s At.z)))))) (by decide) (by decide) (by decide) (T_loc (At.s (At.s (At.s At.z))) rfl rfl)) (TB_cons (T_assign (At.s (At.s (At.s (At.s (At.s (At.s (At.s At.z))))))) (by decide) (T_call G.X (by rfl) (T_glob G.toGC (by rfl) (by rfl) (by rfl)) (told_ref _) (TL_cons (T_loc (At.s At.z) rfl rfl) (TL_cons (T_loc (At.s (At.s (At.s (At.s At.z)))) rfl rfl) TL_nil)) (C_law_above G) (by decide))) (TB_cons (T_if (TT_cmp C_eq (by decide) (T_loc (At.s (At.s At.z)) rfl rfl) T_cstr) (TB_cons (T_if (TT_cmp C_isNot (by decide) (T_loc (At.s (At.s (At.s (At.s (At.s (At.s (At.s At.z))))))) rfl rfl) T_cnone) (TB_cons (T_expr (T_methB PySem.F.plainAttrs_list PySem.F.slot_list_remove ty_remove G_list (T_item (T_loc (At.s At.z) rfl rfl) (T_loc (At.s (At.s (At.s (At.s (At.s (At.s (At.s At.z))))))) rfl rfl)) (TL_cons (T_loc (At.s (At.s (At.s (At.s At.z)))) rfl rfl) TL_nil) O_remove.call (by decide)) (fun _ => trivial)) TB_nil) TB_nil) (TB_cons (T_ret (T_cmp C_isNot (by decide) (T_loc (At.s (At.s (At.s (At.s (At.s (At.s (At.s At.z))))))) rfl rfl) T_cnone)) TB_nil)) TB_nil) (TB_cons (T_if (TT_cmp C_eq (by decide) (T_loc (At.s (At.s At.z)) rfl rfl) T_cstr) (TB_cons (T_if (TT_bool (TA_or (TT_cmp C_isNot (by decide) (T_loc (At.s (At.s (At.s (At.s (At.s (At.s (At.s At.z))))))) rfl rfl) T_cnone) (TA_or (TT_not (TT_val (T_call G.X (by rfl) (T_glob G.toGC (by rfl) (by rfl) (by rfl)) (told_ref _) (TL_cons (T_loc At.z rfl rfl) (TL_cons (T_loc (At.s At.z) rfl rfl) (TL_cons (T_loc (At.s (At.s (At.s (At.s At.z)))) rfl rfl) (TL_cons (T_loc (At.s (At.s (At.s (At.s (At.s At.z))))) rfl rfl) (TL_cons (T_loc (At.s (At.s (At.s (At.s (At.s (At.s At.z)))))) rfl rfl) (TL_cons (T_callB (T_bltn G.toGC (by rfl) Boot.«len» (by decide) (by rfl) (by rfl)) (TL_cons (T_item (T_loc (At.s At.z) rfl rfl) (T_loc (At.s (At.s (At.s (At.s (At.s At.z))))) rfl rfl)) TL_nil) (O_len G.low).call (by decide)) TL_nil)))))) (C_law_may_stand G) (by decide)))) TA_orNil))) (TB_cons (T_ret T_cbool) TB_nil) TB_nil) TB_nil) (TB_cons (T_assign (At.s (At.s (At.s (At.s (At.s (At.s (At.s (At.s At.z)))))))) (by decide) (T_bin O_sub (by decide) (T_callB (T_bltn G.toGC (by rfl) Boot.«len» (by decide) (by rfl) (by rfl)) (TL_cons (T_item (T_loc (At.s At.z) rfl rfl) (T_loc (At.s (At.s (At.s (At.s (At.s At.z))))) rfl rfl)) TL_nil) (O_len G.low).call (by decide)) (T_callT (T_bltn G.toGC (by rfl) Boot.«int» (by decide) (by rfl) (by rfl)) (TL_cons (T_cmp C_eq (by decide) (T_loc (At.s (At.s (At.s (At.s (At.s (At.s (At.s At.z))))))) rfl rfl) (T_loc (At.s (At.s (At.s (At.s (At.s At.z))))) rfl rfl)) TL_nil) O_int.call (by decide)))) (TB_cons (T_if (TT_bool (TA_or (TT_cmp C_is (by decide) (T_loc (At.s (At.s (At.s (At.s (At.s (At.s (At.s At.z))))))) rfl rfl) T_cnone) (TA_or (TT_not (TT_val (T_call G.X (by rfl) (T_glob G.toGC (by rfl) (by rfl) (by rfl)) (told_ref _) (TL_cons (T_loc At.z rfl rfl) (TL_cons (T_loc (At.s At.z) rfl rfl) (TL_cons (T_loc (At.s (At.s (At.s (At.s At.z)))) rfl rfl) (TL_cons (T_loc (At.s (At.s (At.s (At.s (At.s At.z))))) rfl rfl) (TL_cons (T_loc (At.s (At.s (At.s (At.s (At.s (At.s At.z)))))) rfl rfl) (TL_cons (T_loc (At.s (At.s (At.s (At.s (At.s (At.s (At.s (At.s At.z)))))))) rfl rfl) TL_nil)))))) (C_law_may_stand G) (by decide)))) TA_orNil))) (TB_cons (T_ret T_cbool) TB_nil) TB_nil) (TB_cons (T_expr (T_methB PySem.F.plainAttrs_list PySem.F.slot_list_remove ty_remove G_list (T_item (T_loc (At.s At.z) rfl rfl) (T_loc (At.s (At.s (At.s (At.s (At.s (At.s (At.s At.z))))))) rfl rfl)) (TL_cons (T_loc (At.s (At.s (At.s (At.s At.z)))) rfl rfl) TL_nil) O_remove.call (by decide)) (fun _ => trivial)) TB_nil)))) (TB_cons (T_expr (T_methB PySem.F.plainAttrs_list PySem.F.slot_list_insert ty_insert G_list (T_item (T_loc (At.s At.z) rfl rfl) (T_loc (At.s (At.s (At.s (At.s (At.s At.z))))) rfl rfl)) (TL_cons (T_loc (At.s (At.s (At.s (At.s (At.s (At.s At.z)))))) rfl rfl) (TL_cons (T_loc (At.s (At.s (At.s (At.s At.z)))) rfl rfl) TL_nil)) O_insert.call (by decide)) (fun _ => trivial)) (TB_cons (T_ret T_cbool) TB_nil)))))) ?_)
  intro as hp Q E ⟨W, i, p, q, qp, idx, way, T, S, e, hT, tT, K, Y, hlen, hz, hq, hqp, hw, h1, h2⟩
  subst e
  have hzl : W.ls.length ≤ 900 := by omega
  have hil : i < W.ls.length := by rw [hlen]; exact (List.getElem?_eq_some_iff.mp hq).1
  have hpl : p < W.ls.length := by rw [hlen]; exact (List.getElem?_eq_some_iff.mp hqp).1
  obtain ⟨ep, hep⟩ : ∃ e, W.ls[p]? = some e := ⟨_, List.getElem?_eq_getElem hpl⟩
  have hep2 : ep.2 = qp.ch := by obtain ⟨z, x1, x2⟩ := Y.ch p ep hep; rw [hqp] at x1; cases x1; exact x2
  have hchp := K.ch_len hqp
  refine ⟨rfl, _, rfl, T, _, _, _, rfl, hT, ?_⟩
  refine ⟨_, rfl, _, rfl, W, i, q, S, rfl, K, Y, hzl, hil, hq, fun hp1 S1 f1 => ?_⟩
  refine ⟨_, rfl, decide (way = ("remove" : Str)), rfl, _, rfl, fun e => ?_, fun e => ?_⟩
  · -- remove
    have ew := of_decide_eq_true e
    cases hpar : q.par with
    | none =>
      refine ⟨_, rfl, false, rfl, false, rfl, nofun, fun _ => ⟨_, rfl, false, rfl, ?_⟩⟩
      refine h2 (fun ⟨r, x⟩ => ?_) hp1 S1 f1
      rcases x with ⟨_, x, _, _⟩ | ⟨x, _, _, _⟩ | ⟨x, _, _, _, _, _⟩
      · rw [hpar] at x; cases x
      · exact way_ri (ew.symm.trans x)
      · exact way_rm (ew.symm.trans x)
    | some a =>
      obtain ⟨qa, hqa, hia⟩ := K.up i q a hq hpar
      have hal : a < W.ls.length := by rw [hlen]; exact (List.getElem?_eq_some_iff.mp hqa).1
      obtain ⟨ea, hea⟩ : ∃ e, W.ls[a]? = some e := ⟨_, List.getElem?_eq_getElem hal⟩
      have hea2 : ea.2 = qa.ch := by obtain ⟨z, x1, x2⟩ := Y.ch a ea hea; rw [hqa] at x1; cases x1; exact x2
      have hl := (S1.lst a ea hea).1
      have hl' := hl
      rw [map_nt] at hl'
      obtain ⟨S2, f2⟩ := S1.setLs hea (ea.2.erase i)
      refine ⟨_, rfl, true, rfl, true, rfl, fun _ => ?_, nofun⟩
      refine ⟨_, rfl, _, rfl, .ref ea.1, lsItem S1 hea, ⟨_, _, rfl, hl⟩, _, rfl, ea.1, (i : Int), _, rfl, hl', ?_, List.mem_map.mpr ⟨i, by rw [hea2]; exact hia, rfl⟩, ?_⟩
      · rw [List.length_map, hea2]; exact Nat.le_trans (K.ch_len hqa) (Nat.le_trans hz (by decide))
      rw [erase_cast, ← map_nt]
      refine ⟨_, rfl, true, rfl, h1 (W.ls.set a (ea.1, ea.2.erase i)) _ ⟨_, .rm ew hpar hqa rfl⟩ (by simp) (fun rows' x => ?_) S2 (f1.trans f2)⟩
      rcases x with ⟨_, x1, x2, x3⟩ | ⟨x, _, _, _⟩ | ⟨x, _, _, _, _, _⟩
      · rw [hpar] at x1; cases x1
        rw [hqa] at x2; cases x2
        rw [x3]
        exact match_rm Y hq hqa hea (K.par_ne hq hpar)
      · exact absurd (ew.symm.trans x) way_ri
      · exact absurd (ew.symm.trans x) way_rm
  have nw : way ≠ ("remove" : Str) := of_decide_eq_false e
  refine ⟨_, rfl, decide (way = ("insert" : Str)), rfl, _, rfl, fun e => ?_, fun e => ?_⟩
  · -- insert
    have ew := of_decide_eq_true e
    have no : ∀ hp', ¬ (Fits W.rows i q p qp idx ∧ q.par = none) → St W hp' → Fw W hp W hp' → Q (.bool false) hp' := fun hp' nf S' f' => by
      refine h2 (fun ⟨r, x⟩ => ?_) hp' S' f'
      rcases x with ⟨x, _, _, _⟩ | ⟨_, x, y, _⟩ | ⟨x, _, _, _, _, _⟩
      · exact nw x
      · exact nf ⟨x, y⟩
      · exact way_im (ew.symm.trans x)
    cases hpar : q.par with
    | some a =>
      exact ⟨_, rfl, true, rfl, true, rfl, fun _ => ⟨fun _ => no hp1 (fun x => by rw [hpar] at x; cases x.2) S1 f1, nofun⟩, nofun⟩
    | none =>
      refine ⟨_, rfl, false, rfl, false, rfl, nofun, fun _ => ?_⟩
      refine ⟨_, rfl, _, rfl, _, rfl, _, rfl, _, rfl, _, rfl, _, rfl, .ref ep.1, lsItem S1 hep, _, rfl, .inl ⟨_, (S1.lst p ep hep).1, ?_, ?_⟩⟩
      · rw [List.length_map, hep2]; exact Nat.le_trans hchp (Nat.le_trans hz (by decide))
      rw [List.length_map, hep2]
      refine ⟨W, i, p, q, qp, idx, _, S1, rfl, K, Y, hzl, hz, hq, hqp, hpl, fun r hp2 hr S2 f2 => ⟨r, rfl, fun e => ⟨fun _ => ?_, nofun⟩, fun e => ⟨nofun, fun _ => ?_⟩⟩⟩
      · refine no hp2 (fun x => ?_) S2 (f1.trans f2)
        have := hr.mpr x.1
        rw [this] at e; cases e
      · have e' : r = true := by cases r with | true => rfl | false => cases e
        have fit : Fits W.rows i q p qp idx := hr.mp e'
        have hl := (S2.lst p ep hep).1
        obtain ⟨S3, f3⟩ := S2.setLs hep (insL ep.2 idx.toNat i)
        refine ⟨_, rfl, _, rfl, .ref ep.1, lsItem S2 hep, ⟨_, _, rfl, hl⟩, _, rfl, _, rfl, ep.1, idx, nt i, _, rfl, hl, fit.2.2.2.1, ?_, ?_, ?_⟩
        · rw [List.length_map, hep2]; exact fit.2.2.2.2
        · rw [List.length_map, hep2]; exact Nat.le_trans hchp (Nat.le_trans hz (by decide))
        rw [insAt_nt]
        refine h1 (W.ls.set p (ep.1, insL ep.2 idx.toNat i)) _ ⟨_, .ins ew fit hpar rfl⟩ (by simp) (fun rows' x => ?_) S3 ((f1.trans f2).trans f3)
        rcases x with ⟨x, _, _, _⟩ | ⟨_, _, _, x⟩ | ⟨x, _, _, _, _, _⟩
        · exact absurd x nw
        · rw [x]
          exact match_ins Y.ch hq hqp hep fun e => fit.2.2.1 (by rw [e]; exact .here)
        · exact absurd (ew.symm.trans x) way_im
  -- move
  have nw2 : way ≠ ("insert" : Str) := of_decide_eq_false e
  have ew : way = ("move" : Str) := (hw.resolve_left nw).resolve_left nw2
  have no : ∀ hp', ¬ Movable W.rows i q p qp idx → St W hp' → Fw W hp W hp' → Q (.bool false) hp' := fun hp' nf S' f' => by
    refine h2 (fun ⟨r, x⟩ => ?_) hp' S' f'
    rcases x with ⟨x, _, _, _⟩ | ⟨x, _, _, _⟩ | ⟨_, x, _, _, _, _⟩
    · exact nw x
    · exact nw2 x
    · exact nf x
  refine ⟨_, rfl, _, rfl, .ref ep.1, lsItem S1 hep, _, rfl, .inl ⟨_, (S1.lst p ep hep).1, ?_, ?_⟩⟩
  · rw [List.length_map, hep2]; exact Nat.le_trans hchp (Nat.le_trans hz (by decide))
  rw [List.length_map, hep2]
  cases hpar : q.par with
  | none =>
    refine ⟨_, rfl, _, rfl, false, rfl, _, rfl, true, rfl, true, rfl, fun _ => ⟨fun _ => ?_, nofun⟩, nofun⟩
    exact no hp1 (fun ⟨a, x, _⟩ => by rw [hpar] at x; cases x) S1 f1
  | some a =>
    obtain ⟨qa, hqa, hia⟩ := K.up i q a hq hpar
    have hal : a < W.ls.length := by rw [hlen]; exact (List.getElem?_eq_some_iff.mp hqa).1
    obtain ⟨ea, hea⟩ : ∃ e, W.ls[a]? = some e := ⟨_, List.getElem?_eq_getElem hal⟩
    have hea2 : ea.2 = qa.ch := by obtain ⟨z, x1, x2⟩ := Y.ch a ea hea; rw [hqa] at x1; cases x1; exact x2
    refine ⟨_, rfl, _, rfl, decide ((a : Int) = p), rfl, ?_⟩
    have he : (qp.ch.length : Int) - (if decide ((a : Int) = p) = true then 1 else 0) = hereOf a p qp := by
      unfold hereOf
      by_cases x : a = p
      · subst x; simp
      · have : ¬ ((a : Int) = p) := by omega
        simp [x, this]
    dsimp only [kOp2b, kCall, kHp, kSet, kCons1, kCons2, AS.set, oInt, oSub, cOp, vNilL]
    rw [he]
    refine ⟨_, rfl, false, rfl, false, rfl, nofun, fun _ => ?_⟩
    refine ⟨_, rfl, _, rfl, _, rfl, _, rfl, _, rfl, _, rfl, W, i, p, q, qp, idx, _, S1, rfl, K, Y, hzl, hz, hq, hqp, hpl, fun r hp2 hr S2 f2 => ⟨r, rfl, fun e => ⟨fun _ => ?_, nofun⟩, fun e => ⟨nofun, fun _ => ?_⟩⟩⟩
    · refine no hp2 (fun ⟨a', x1, x2, x3, x4, x5, x6⟩ => ?_) S2 (f1.trans f2)
      rw [hpar] at x1; cases x1
      have := hr.mpr ⟨x2, x3, x4, x5, x6⟩
      rw [this] at e; cases e
    · have e' : r = true := by cases r with | true => rfl | false => cases e
      obtain ⟨m1, m2, m3, m4, m5⟩ := hr.mp e'
      have mov : Movable W.rows i q p qp idx := ⟨a, hpar, m1, m2, m3, m4, m5⟩
      have hne : i ≠ p := move_ne mov
      have hnea := K.par_ne hq hpar
      have hl := (S2.lst a ea hea).1
      have hl' := hl
      rw [map_nt] at hl'
      obtain ⟨S3, f3⟩ := S2.setLs hea (ea.2.erase i)
      refine ⟨_, rfl, _, rfl, .ref ea.1, lsItem S2 hea, ⟨_, _, rfl, hl⟩, _, rfl, ea.1, (i : Int), _, rfl, hl', ?_, List.mem_map.mpr ⟨i, by rw [hea2]; exact hia, rfl⟩, ?_⟩
      · rw [List.length_map, hea2]; exact Nat.le_trans (K.ch_len hqa) (Nat.le_trans hz (by decide))
      rw [erase_cast, ← map_nt]
      have M1 := match_rm Y hq hqa hea hnea
      obtain ⟨ep', hep'⟩ : ∃ e, (W.setLs a ea.1 (ea.2.erase i)).ls[p]? = some e := by
        refine ⟨_, List.getElem?_eq_getElem ?_⟩
        show p < (W.ls.set a _).length
        simp; exact hpl
      obtain ⟨qp1, hqp1, hep1⟩ := M1 p ep' hep'
      have hl1 : (qp1.ch.length : Int) = hereOf a p qp := by
        have hg := hqp1
        rw [rm_get hq hqa, if_neg (Ne.symm hne)] at hg
        by_cases x : p = a
        · subst x
          rw [if_pos rfl] at hg; cases hg
          rw [hqa] at hqp; cases hqp
          have y1 := List.length_erase_of_mem hia
          have y2 := List.length_pos_of_mem hia
          unfold hereOf; rw [if_pos rfl]; dsimp only; omega
        · rw [if_neg x, hqp] at hg; cases hg
          unfold hereOf; rw [if_neg (Ne.symm x)]; omega
      have hq1 : (rmR W.rows i q a qa)[i]? = some { q with par := none } := by rw [rm_get hq hqa, if_pos rfl]
      have hl3 := (S3.lst p ep' hep').1
      obtain ⟨S4, f4⟩ := S3.setLs hep' (insL ep'.2 idx.toNat i)
      have hb1 : qp1.ch.length ≤ 900 := by
        have : hereOf a p qp ≤ (qp.ch.length : Int) := by unfold hereOf; split <;> omega
        omega
      refine ⟨_, rfl, _, rfl, .ref ep'.1, lsItem S3 hep', ⟨_, _, rfl, hl3⟩, _, rfl, _, rfl, ep'.1, idx, nt i, _, rfl, hl3, m4, ?_, ?_, ?_⟩
      · rw [List.length_map, hep1, hl1]; exact m5
      · rw [List.length_map, hep1]; omega
      rw [insAt_nt]
      refine h1 ((W.ls.set a (ea.1, ea.2.erase i)).set p (ep'.1, insL ep'.2 idx.toNat i)) _ ⟨_, .mv ew mov hpar hqa hqp1 rfl⟩ (by simp) (fun rows' x => ?_) S4 (((f1.trans f2).trans f3).trans f4)
      rcases x with ⟨x, _, _, _⟩ | ⟨x, _, _, _⟩ | ⟨_, _, x1, x2, x3, x4⟩
      · exact absurd x nw
      · exact absurd x nw2
      · rw [hpar] at x1; cases x1
        rw [hqa] at x2; cases x2
        rw [hqp1] at x3; cases x3
        rw [x4]
        exact match_ins M1 hq1 hqp1 hep' hne
end
end Mine

end

section
open PySem PySem.W PyProof.Rows PySem.Calls
set_option Elab.async false
set_option maxRecDepth 100000
set_option linter.unusedVariables false
namespace Mine

theorem up_child {rows : List Rw} {a : Nat} : ∀ {b : Option Nat}, Up rows a b → b = some a ∨ ∃ (c : Nat) (z : Rw), rows[c]? = some z ∧ z.par = some a := by
  intro b h
  induction h with
  | here => exact .inl rfl
  | @step b q hq _ ih =>
    rcases ih with h | h
    · exact .inr ⟨b, q, hq, h⟩
    · exact .inr h
theorem push_get {rows : List Rw} {q : Rw} (j : Nat) : (rows ++ [q])[j]? = if j < rows.length then rows[j]? else if j = rows.length then some q else none := by
  by_cases h : j < rows.length
  · rw [if_pos h, List.getElem?_append_left h]
  · rw [if_neg h, List.getElem?_append_right (by omega)]
    by_cases e : j = rows.length
    · subst e; simp
    · rw [if_neg e]
      exact List.getElem?_eq_none (by simp; omega)
theorem OK.push {rows : List Rw} (K : OK rows) {q : Rw} (h1 : q.par = none) (h2 : q.ch = []) (h3 : q.kind = ("root" : Str) ∨ q.kind = ("element" : Str) ∨ q.kind = ("text" : Str)) : OK (rows ++ [q]) := by
  have old : ∀ (j : Nat) (z : Rw), (rows ++ [q])[j]? = some z → rows[j]? = some z ∨ (j = rows.length ∧ z = q) := by
    intro j z hz
    rw [push_get] at hz
    split at hz
    · exact .inl hz
    · split at hz
      · rename_i e; cases hz; exact .inr ⟨e, rfl⟩
      · cases hz
  have new : ∀ (j : Nat) (z : Rw), rows[j]? = some z → (rows ++ [q])[j]? = some z := fun j z h => by
    rw [push_get, if_pos (List.getElem?_eq_some_iff.mp h).1]; exact h
  refine ⟨fun j z p hz hp => ?_, fun j z c hz hc => ?_, fun j z hz => ?_, ?_, fun j z hz => ?_⟩
  · rcases old j z hz with h | ⟨_, rfl⟩
    · obtain ⟨a, b, c⟩ := K.up j z p h hp
      exact ⟨a, new _ _ b, c⟩
    · rw [h1] at hp; cases hp
  · rcases old j z hz with h | ⟨_, rfl⟩
    · obtain ⟨a, b, c⟩ := K.dn j z c h hc
      exact ⟨a, new _ _ b, c⟩
    · rw [h2] at hc; cases hc
  · rcases old j z hz with h | ⟨_, rfl⟩
    · exact K.nd j z h
    · rw [h2]; exact List.nodup_nil
  · obtain ⟨rk, hrk⟩ := K.ac
    refine ⟨rk, fun j z p hz hp => ?_⟩
    rcases old j z hz with h | ⟨_, rfl⟩
    · obtain ⟨⟨a, b⟩, c⟩ := hrk j z p h hp
      exact ⟨⟨a, new _ _ b⟩, c⟩
    · rw [h1] at hp; cases hp
  · rcases old j z hz with h | ⟨_, rfl⟩
    · exact K.kd j z h
    · exact ⟨h3, fun _ => h2, fun _ => h1⟩

/-- the rows, one more beneath another -/
def addR (rows : List Rw) (q : Rw) : List Rw := match q.par with
  | none => rows ++ [q]
  | some p => match rows[p]? with
    | some qp => (rows ++ [q]).set p { qp with ch := qp.ch ++ [rows.length] }
    | none => rows ++ [q]
theorem addChild_rows (W : Wd) (q : Rw) : (W.addChild q).rows = addR W.rows q := by
  unfold Wd.addChild addR
  cases q.par with
  | none => rfl
  | some p => dsimp only; cases W.rows[p]? <;> rfl
theorem addChild_rest (W : Wd) (q : Rw) : (W.addChild q).ls = W.ls ∧ (W.addChild q).s0 = W.s0 ∧ (W.addChild q).s1 = W.s1 ∧ (W.addChild q).x = W.x ∧ (W.addChild q).ld = W.ld ∧ (W.addChild q).sl = W.sl := by
  unfold Wd.addChild
  cases q.par with
  | none => exact ⟨rfl, rfl, rfl, rfl, rfl, rfl⟩
  | some p => dsimp only; cases W.rows[p]? <;> exact ⟨rfl, rfl, rfl, rfl, rfl, rfl⟩
theorem addR_len (rows : List Rw) (q : Rw) : (addR rows q).length = rows.length + 1 := by
  unfold addR
  cases q.par with
  | none => simp
  | some p => dsimp only; cases rows[p]? <;> simp
theorem addR_none {rows : List Rw} {q : Rw} (h : q.par = none) : addR rows q = rows ++ [q] := by unfold addR; rw [h]
theorem addR_get {rows : List Rw} {q qp : Rw} {p : Nat} (h : q.par = some p) (hp : rows[p]? = some qp) (j : Nat) :
    (addR rows q)[j]? = if j = p then some { qp with ch := qp.ch ++ [rows.length] } else if j < rows.length then rows[j]? else if j = rows.length then some q else none := by
  have hl : p < rows.length := (List.getElem?_eq_some_iff.mp hp).1
  have e : addR rows q = (rows ++ [q]).set p { qp with ch := qp.ch ++ [rows.length] } := by unfold addR; rw [h]; simp only [hp]
  rw [e, List.getElem?_set]
  by_cases x : p = j
  · subst x
    rw [if_pos rfl, if_pos rfl, if_pos (by simp; omega)]
  · rw [if_neg x, if_neg (Ne.symm x), push_get]
theorem OK.add {rows : List Rw} (K : OK rows) {q : Rw} (h2 : q.ch = []) (h3 : q.kind = ("root" : Str) ∨ q.kind = ("element" : Str) ∨ q.kind = ("text" : Str)) (hr : q.kind = ("root" : Str) → q.par = none)
    (hp : ∀ p, q.par = some p → ∃ qp : Rw, rows[p]? = some qp ∧ qp.kind ≠ ("text" : Str)) : OK (addR rows q) := by
  cases e : q.par with
  | none => rw [addR_none e]; exact K.push e h2 h3
  | some p =>
    obtain ⟨qp, hqp, hk⟩ := hp p e
    have hl : p < rows.length := (List.getElem?_eq_some_iff.mp hqp).1
    have K1 : OK (rows ++ [{ q with par := none }]) := K.push rfl h2 h3
    have hN : (rows ++ [{ q with par := none }])[rows.length]? = some { q with par := none } := by rw [push_get, if_neg (by omega), if_pos rfl]
    have hP : (rows ++ [{ q with par := none }])[p]? = some qp := by rw [push_get, if_pos hl]; exact hqp
    have hu : ¬ Up (rows ++ [{ q with par := none }]) rows.length (some p) := fun u => by
      rcases up_child u with h | ⟨c, z, hz, hzp⟩
      · cases h; omega
      · obtain ⟨z2, g1, g2⟩ := K1.up c z rows.length hz hzp
        rw [hN] at g1; cases g1
        change c ∈ q.ch at g2
        rw [h2] at g2; cases g2
    have K2 := K1.ins (k := qp.ch.length) hN rfl hP (fun x => by rw [hr x] at e; cases e) hk hu
    have : insR (rows ++ [{ q with par := none }]) rows.length { q with par := none } p qp qp.ch.length = addR rows q := by
      refine List.ext_getElem? fun j => ?_
      rw [ins_get hN hP, addR_get e hqp, push_get]
      by_cases x : j = rows.length
      · subst x
        rw [if_pos rfl, if_neg (by omega), if_neg (by omega), if_pos rfl]
        cases q; simp at e; subst e; rfl
      · rw [if_neg x]
        by_cases y : j = p
        · subst y
          rw [if_pos rfl, if_pos rfl]
          unfold insL
          simp
        · rw [if_neg y, if_neg y, if_neg x, if_neg x]
    rw [← this]; exact K2

def SOK (q : Rw) : Prop := PyData.strOk q.kind = true ∧ PyData.strOk q.name = true ∧ PyData.strOk q.uri = true ∧ PyData.strOk q.loc = true ∧ PyData.strOk q.val = true ∧ q.val.length ≤ 1
/-- what holds of the world between the law's edits -/
structure LI (W : Wd) : Prop where
  ok : OK W.rows
  sy : Sync W
  ln : W.ls.length = W.rows.length
  r0 : ∃ q : Rw, W.rows[0]? = some q ∧ q.kind = ("root" : Str)
  nr : ∀ (i : Nat) (q : Rw), W.rows[i]? = some q → q.kind = ("root" : Str) → i = 0
  so : ∀ (i : Nat) (q : Rw), W.rows[i]? = some q → SOK q
  src : SrcOK W
theorem sync_of {W : Wd} (K : OK W.rows) (h : W.ls.length = W.rows.length) (M : Match W.ls W.rows) : Sync W :=
  ⟨Nat.le_of_eq h, M, fun k q p hk hq hp => by rw [h]; obtain ⟨qp, h1, _⟩ := K.up k q p hq hp; exact (List.getElem?_eq_some_iff.mp h1).1⟩
/-- rows of the same heads -/
def Heads (rows rows' : List Rw) : Prop := rows'.length = rows.length ∧ ∀ (i : Nat) (z : Rw), rows'[i]? = some z → ∃ z0 : Rw, rows[i]? = some z0 ∧ z.kind = z0.kind ∧ z.name = z0.name ∧ z.uri = z0.uri ∧ z.loc = z0.loc ∧ z.val = z0.val
theorem Heads.trans {a b c : List Rw} (x : Heads a b) (y : Heads b c) : Heads a c := ⟨y.1.trans x.1, fun i z hz => by
  obtain ⟨z1, h1, a1, a2, a3, a4, a5⟩ := y.2 i z hz
  obtain ⟨z0, h0, b1, b2, b3, b4, b5⟩ := x.2 i z1 h1
  exact ⟨z0, h0, a1.trans b1, a2.trans b2, a3.trans b3, a4.trans b4, a5.trans b5⟩⟩
theorem heads_rm {rows : List Rw} {i p : Nat} {q qp : Rw} (hq : rows[i]? = some q) (hqp : rows[p]? = some qp) : Heads rows (rmR rows i q p qp) := ⟨rm_len, fun j z hz => by
  rw [rm_get hq hqp] at hz
  split at hz
  · rename_i e; subst e; cases hz; exact ⟨q, hq, rfl, rfl, rfl, rfl, rfl⟩
  · split at hz
    · rename_i e; subst e; cases hz; exact ⟨qp, hqp, rfl, rfl, rfl, rfl, rfl⟩
    · exact ⟨z, hz, rfl, rfl, rfl, rfl, rfl⟩⟩
theorem heads_ins {rows : List Rw} {i p k : Nat} {q qp : Rw} (hq : rows[i]? = some q) (hqp : rows[p]? = some qp) : Heads rows (insR rows i q p qp k) := ⟨ins_len, fun j z hz => by
  rw [ins_get hq hqp] at hz
  split at hz
  · rename_i e; subst e; cases hz; exact ⟨q, hq, rfl, rfl, rfl, rfl, rfl⟩
  · split at hz
    · rename_i e; subst e; cases hz; exact ⟨qp, hqp, rfl, rfl, rfl, rfl, rfl⟩
    · exact ⟨z, hz, rfl, rfl, rfl, rfl, rfl⟩⟩
theorem ed_ok {rows : List Rw} (K : OK rows) {way : Str} {i p : Nat} {q qp : Rw} {idx : Int} {rows' : List Rw} (hq : rows[i]? = some q) (hqp : rows[p]? = some qp) (e : Ed rows way i q p qp idx rows') : OK rows' ∧ Heads rows rows' := by
  rcases e with ⟨hw, h1, h2, rfl⟩ | ⟨hw, h1, h2, rfl⟩ | ⟨hw, h1, h2, h3, h4, rfl⟩
  · exact ⟨K.rm hq h1 h2, heads_rm hq h2⟩
  · exact ⟨K.ins hq h2 hqp h1.1 h1.2.1 h1.2.2.1, heads_ins hq hqp⟩
  · rename_i a qa qp1
    obtain ⟨a', x1, x2, x3, x4, x5, x6⟩ := h1
    have hi : (rmR rows i q a qa)[i]? = some { q with par := none } := by rw [rm_get hq h3, if_pos rfl]
    have hk : qp1.kind = qp.kind := by
      obtain ⟨z0, y1, y2, _⟩ := (heads_rm hq h3).2 p qp1 h4
      rw [hqp] at y1; cases y1; exact y2
    exact ⟨(K.rm hq h2 h3).ins hi rfl h4 x2 (by rw [hk]; exact x3) fun u => x4 (up_rm hq h3 u), (heads_rm hq h3).trans (heads_ins hi h4)⟩
theorem LI.heads {W W' : Wd} (L : LI W) (K : OK W'.rows) (H : Heads W.rows W'.rows) (hl : W'.ls.length = W'.rows.length) (M : Match W'.ls W'.rows) (hs : SrcOK W') : LI W' := by
  refine ⟨K, sync_of K hl M, hl, ?_, fun i q hq hk => ?_, fun i q hq => ?_, hs⟩
  · obtain ⟨q, hq, hk⟩ := L.r0
    have h0 : 0 < W'.rows.length := by rw [H.1]; exact (List.getElem?_eq_some_iff.mp hq).1
    obtain ⟨z0, x1, x2, _⟩ := H.2 0 _ (List.getElem?_eq_getElem h0)
    rw [hq] at x1; cases x1
    exact ⟨_, List.getElem?_eq_getElem h0, x2.trans hk⟩
  · obtain ⟨z0, x1, x2, _⟩ := H.2 i q hq
    exact L.nr i z0 x1 (x2.symm.trans hk)
  · obtain ⟨z0, x1, x2, x3, x4, x5, x6⟩ := H.2 i q hq
    have := L.so i z0 x1
    unfold SOK at this ⊢
    rw [x2, x3, x4, x5, x6]; exact this
end Mine

end

section
open PySem PySem.W PyProof.Rows PySem.Calls
set_option Elab.async false
set_option maxRecDepth 100000
set_option linter.unusedVariables false
namespace Mine

def st_law_made : Option Stmt := stAt 28
def sc_law_made : Scope := scopeIn (stAt 28)
theorem F_law_made (P : Params) : FunIn (KK P) 375 ["source", "tree", "lists"] ["root", "parents", "turn", "parent", "named", "node"] (scopeIn (stAt 28)) (bodyOf (stAt 28)) (fnData (stAt 28) "_law_made" (Value.str (Str.ofString "law_nu0066_01") 678) 374) :=
  ⟨⟨_, rfl, rfl⟩, rfl, rfl, rfl, rfl, rfl, by rfl, (fun vals h => by rcases vals with _ | ⟨a0, _ | ⟨a1, _ | ⟨a2, _ | ⟨b, r⟩⟩⟩⟩ <;> first | rfl | cases h), by decide, by rfl, by decide, rfl, rfl, rfl⟩

theorem both {P R : Prop} (use : P → R) (h : P) : R := use h
theorem Fw.temp {W0 W : Wd} {hp0 hp : HP} (f : Fw W0 hp0 W hp) {P : Addr} (h : hp0 P = none) (o : AObj) : Fw W0 hp0 W (upd hp P o) :=
  ⟨fun a oa ha t => ⟨by rw [upd_other fun e => by rw [e, h] at ha; cases ha]; exact (f.keep a oa ha t).1, (f.keep a oa ha t).2⟩, f.ex, f.eld, f.esl, fun a ha => f.dom a (upd_fresh ha).2⟩
theorem LI.setS {W : Wd} (L : LI W) {a b : Int} (h : SrcOK (W.setS a b)) : LI (W.setS a b) := ⟨L.ok, ⟨L.sy.ln, L.sy.ch, L.sy.cl⟩, L.ln, L.r0, L.nr, L.so, h⟩
/-- the rows and lists, one node more -/
theorem LI.add {W W' : Wd} (L : LI W) {q : Rw} (h2 : q.ch = []) (h3 : q.kind = ("element" : Str) ∨ q.kind = ("text" : Str)) (hp : ∀ p, q.par = some p → ∃ qp : Rw, W.rows[p]? = some qp ∧ qp.kind ≠ ("text" : Str)) (hs : SOK q)
    (hr : W'.rows = addR W.rows q) (hl : W'.ls.length = W.ls.length + 1) (ha : ∀ (k : Nat) (e : Addr × List Nat), W'.ls[k]? = some e → e.2 = if k = W.ls.length then [] else if q.par = some k then ((W.ls[k]?.map (·.2)).getD []) ++ [W.ls.length] else (W.ls[k]?.map (·.2)).getD []) (hsrc : SrcOK W') : LI W' := by
  have hk : q.kind ≠ ("root" : Str) := by rcases h3 with e | e <;> (rw [e]; decide)
  have K : OK W'.rows := by rw [hr]; exact L.ok.add h2 (.inr h3) (fun e => absurd e hk) hp
  have hlen : W'.ls.length = W'.rows.length := by rw [hl, hr, addR_len, L.ln]
  have get : ∀ (j : Nat) (z : Rw), W'.rows[j]? = some z → (j < W.rows.length ∧ ∃ z0 : Rw, W.rows[j]? = some z0 ∧ z.kind = z0.kind ∧ z.name = z0.name ∧ z.uri = z0.uri ∧ z.loc = z0.loc ∧ z.val = z0.val ∧ z.ch = (if q.par = some j then z0.ch ++ [W.rows.length] else z0.ch)) ∨ (j = W.rows.length ∧ z = q) := by
    intro j z hz
    rw [hr] at hz
    cases e : q.par with
    | none =>
      rw [addR_none e, push_get] at hz
      split at hz
      · rename_i h; exact .inl ⟨h, z, hz, rfl, rfl, rfl, rfl, rfl, by simp⟩
      · split at hz
        · rename_i h; cases hz; exact .inr ⟨h, rfl⟩
        · cases hz
    | some p =>
      obtain ⟨qp, hqp, _⟩ := hp p e
      have hpl : p < W.rows.length := (List.getElem?_eq_some_iff.mp hqp).1
      rw [addR_get e hqp] at hz
      split at hz
      · rename_i h; subst h; cases hz
        exact .inl ⟨hpl, qp, hqp, rfl, rfl, rfl, rfl, rfl, by simp⟩
      · rename_i hne
        split at hz
        · rename_i h; exact .inl ⟨h, z, hz, rfl, rfl, rfl, rfl, rfl, by rw [if_neg]; intro x; cases x; exact hne rfl⟩
        · split at hz
          · rename_i h; cases hz; exact .inr ⟨h, rfl⟩
          · cases hz
  have M : Match W'.ls W'.rows := by
    intro k e he
    have hkl : k < W'.rows.length := by rw [← hlen]; exact (List.getElem?_eq_some_iff.mp he).1
    refine ⟨_, List.getElem?_eq_getElem hkl, ?_⟩
    rw [ha k e he]
    rcases get k _ (List.getElem?_eq_getElem hkl) with ⟨h1, z0, h0, _, _, _, _, _, hc⟩ | ⟨h1, h4⟩
    · rw [if_neg (by rw [L.ln]; omega)]
      rw [hc]
      obtain ⟨ek, hek⟩ : ∃ e, W.ls[k]? = some e := ⟨_, List.getElem?_eq_getElem (by rw [L.ln]; exact h1)⟩
      obtain ⟨z1, g1, g2⟩ := L.sy.ch k ek hek
      rw [h0] at g1; cases g1
      rw [hek]; simp only [Option.map_some, Option.getD_some, g2, L.ln]
    · rw [if_pos (by rw [L.ln]; exact h1), h4, h2]
  refine ⟨K, sync_of K hlen M, hlen, ?_, fun i z hz hkz => ?_, fun i z hz => ?_, hsrc⟩
  · obtain ⟨q0, hq0, hk0⟩ := L.r0
    have h0 : 0 < W'.rows.length := by rw [hr, addR_len]; omega
    refine ⟨_, List.getElem?_eq_getElem h0, ?_⟩
    rcases get 0 _ (List.getElem?_eq_getElem h0) with ⟨h1, z0, h0, e1, _⟩ | ⟨h1, _⟩
    · rw [hq0] at h0; cases h0; exact e1.trans hk0
    · have := (List.getElem?_eq_some_iff.mp hq0).1; omega
  · rcases get i z hz with ⟨h1, z0, h0, e1, _⟩ | ⟨_, h4⟩
    · exact L.nr i z0 h0 (e1.symm.trans hkz)
    · rw [h4] at hkz; exact absurd hkz hk
  · rcases get i z hz with ⟨h1, z0, h0, e1, e2, e3, e4, e5, _⟩ | ⟨_, h4⟩
    · have := L.so i z0 h0
      unfold SOK at this ⊢
      rw [e1, e2, e3, e4, e5]; exact this
    · rw [h4]; exact hs

/-- behind a node made, ahead of its list -/
structure MM (W0 : Wd) (hp0 : HP) (k : Nat) (P : Addr) where
  W : Wd
  hp : HP
  q : Rw
  o : Option AV
  ps : List Nat
  S : St (W.addChild q) hp
  f : Fw W0 hp0 (W.addChild q) hp
  L : LI W
  len : W.rows.length = k + 1
  h2 : q.ch = []
  h3 : q.kind = ("element" : Str) ∨ q.kind = ("text" : Str)
  hpr : ∀ p, q.par = some p → ∃ qp : Rw, W.rows[p]? = some qp ∧ qp.kind ≠ ("text" : Str)
  so : SOK q
  hP : hp P = some (.list (ps.map nt))
  tP : (W.addChild q).tag P = .no
  p0 : 0 ∈ ps
  pl : ps.length ≤ k + 2
  pv : ∀ p ∈ ps, ∃ z : Rw, (addR W.rows q)[p]? = some z ∧ z.kind ≠ ("text" : Str)
/-- between two turns -/
structure MI (W0 : Wd) (hp0 : HP) (k : Nat) (P : Addr) (W : Wd) (hp : HP) (ps : List Nat) : Prop where
  S : St W hp
  f : Fw W0 hp0 W hp
  L : LI W
  len : W.rows.length = k + 1
  hP : hp P = some (.list (ps.map nt))
  tP : W.tag P = .no
  p0 : 0 ∈ ps
  pl : ps.length ≤ k + 1
  pv : ∀ p ∈ ps, ∃ z : Rw, W.rows[p]? = some z ∧ z.kind ≠ ("text" : Str)
theorem keep_kind {rows : List Rw} {q : Rw} (hpr : ∀ p, q.par = some p → ∃ qp : Rw, rows[p]? = some qp ∧ qp.kind ≠ ("text" : Str)) {p : Nat} {z : Rw} (h : rows[p]? = some z) : ∃ z' : Rw, (addR rows q)[p]? = some z' ∧ z'.kind = z.kind := by
  have hl : p < rows.length := (List.getElem?_eq_some_iff.mp h).1
  cases e : q.par with
  | none => rw [addR_none e, push_get, if_pos hl]; exact ⟨z, h, rfl⟩
  | some p' =>
    obtain ⟨qp, hqp, _⟩ := hpr p' e
    rw [addR_get e hqp]
    by_cases x : p = p'
    · subst x; rw [hqp] at h; cases h; rw [if_pos rfl]; exact ⟨_, rfl, rfl⟩
    · rw [if_neg x, if_pos hl]; exact ⟨z, h, rfl⟩
theorem new_at {rows : List Rw} {q : Rw} (hpr : ∀ p, q.par = some p → ∃ qp : Rw, rows[p]? = some qp ∧ qp.kind ≠ ("text" : Str)) : (addR rows q)[rows.length]? = some q := by
  cases e : q.par with
  | none => rw [addR_none e, push_get, if_neg (by omega), if_pos rfl]
  | some p' =>
    obtain ⟨qp, hqp, _⟩ := hpr p' e
    have hl : p' < rows.length := (List.getElem?_eq_some_iff.mp hqp).1
    rw [addR_get e hqp, if_neg (by omega), if_neg (by omega), if_pos rfl]
theorem par_kind {W : Wd} {p : Nat} (L : LI W) (h : ∃ z : Rw, W.rows[p]? = some z ∧ z.kind ≠ ("text" : Str)) : ∃ qp, W.rows[p]? = some qp ∧ (qp.kind = ("root" : Str) ∨ qp.kind = ("element" : Str)) ∧ qp.ch.length ≤ W.rows.length := by
  obtain ⟨z, h1, h2⟩ := h
  exact ⟨z, h1, by rcases (L.ok.kd p z h1).1 with e | e | e; exact .inl e; exact .inr e; exact absurd e h2, L.ok.ch_len h1⟩
end Mine

end

section
open PySem PySem.W PyProof.Rows PySem.Calls
set_option Elab.async false
set_option maxRecDepth 100000
set_option linter.unusedVariables false
namespace Mine

theorem SOK_of {q : Rw} (h1 : PyData.strOk q.kind = true) (h2 : PyData.strOk q.name = true) (h3 : PyData.strOk q.uri = true) (h4 : PyData.strOk q.loc = true) (h5 : PyData.strOk q.val = true) (h6 : q.val.length ≤ 1) : SOK q := ⟨h1, h2, h3, h4, h5, h6⟩
theorem par_item {ps : List Nat} {j : Nat} {x : AV} (h : (ps.map nt ++ [AV.none])[j]? = some x) : ∃ par : Option Nat, x = parV par ∧ ∀ p, par = some p → p ∈ ps := by
  by_cases hj : j < ps.length
  · rw [List.getElem?_append_left (by simpa using hj)] at h
    obtain ⟨p, hp, rfl⟩ := map_get h
    exact ⟨some p, rfl, fun p' e => by cases e; exact List.mem_of_getElem? hp⟩
  · rw [List.getElem?_append_right (by simp; omega)] at h
    refine ⟨none, ?_, fun p e => by cases e⟩
    cases e : j - (ps.map nt).length with
    | zero => rw [e] at h; simp at h; exact h.symm
    | succ k => rw [e] at h; simp at h
section
variable {prog : Program} {w : World} {base : Heap} {mg mb : Str → Option Value}

inductive IMade (as : List AV) (hp : HP) (Q : AV → HP → Prop) (E : HP → Prop) : Prop
  | mk (W : Wd) (h1 : St W hp) (h2 : as = [.ref W.sl, .ref W.x, .ref W.ld]) (h3 : W.rows = []) (h4 : W.ls = []) (h5 : SrcOK W) (h6 : ∀ W' hp', LI W' → W'.rows.length = 7 → St W' hp' → Fw W hp W' hp' → Q (nt 0) hp')
def cMade : CPT := IMade
inductive MadeI (W : Wd) (hp : HP) (P : Addr) (k : Nat) (σ : AS) : Prop
  | mk (W' : Wd) (hp' : HP) (o1 o2 o3 o4 : Option AV) (ps : List Nat) (e : σ = ⟨[some (.ref W.sl), some (.ref W.x), some (.ref W.ld), some (nt 0), some (.ref P), o1, o2, o3, o4], hp'⟩) (I : MI W hp k P W' hp' ps)
theorem C_law_made (G : TopOK prog w base mg mb) : CallS prog w base 51 15 (.ref 375) cMade := by
  refine CodeS.call (fun_call (n := 14) G.X G.nolimit (F_law_made w.params) (TB_cons (T_assign (At.s (At.s (At.s At.z))) (by decide) (T_meth0 (CT := 282) (f := 132) G.X (by rfl) (by rfl) (by rfl) (by rfl) (T_loc (At.s At.z) rfl rfl) (C_m_new_root G) (by decide))) (TB_cons (T_put (T_list (by decide) TL_nil) (T_loc (At.s (At.s At.z)) rfl rfl) (T_loc (At.s (At.s (At.s At.z))) rfl rfl)) (TB_cons (T_assign (At.s (At.s (At.s (At.s At.z)))) (by decide) (T_list (by decide) (TL_cons (T_loc (At.s (At.s (At.s At.z))) rfl rfl) TL_nil))) (TB_cons (T_for G.low (At.s (At.s (At.s (At.s (At.s At.z))))) (by decide) (T_callT (T_bltn G.toGC (by rfl) Boot.«range» (by decide) (by rfl) (by rfl)) (TL_cons T_cint TL_nil) O_range.call (by decide)) (TB_cons (T_assign (At.s (At.s (At.s (At.s (At.s (At.s At.z)))))) (by decide) (T_call G.X (by rfl) (T_glob G.toGC (by rfl) (by rfl) (by rfl)) (told_ref _) (TL_cons (T_loc At.z rfl rfl) (TL_cons (T_bin O_add (by decide) (T_loc (At.s (At.s (At.s (At.s At.z)))) rfl rfl) (T_list (by decide) (TL_cons T_cnone TL_nil))) TL_nil)) (C_law_one G) (by decide))) (TB_cons (T_if (TT_bool (TA_or (TT_cmp C_eq (by decide) (T_call G.X (by rfl) (T_glob G.toGC (by rfl) (by rfl) (by rfl)) (told_ref _) (TL_cons (T_loc At.z rfl rfl) (TL_cons T_cint TL_nil)) (C_law_take G) (by decide)) T_cint) (TA_or (TT_cmp C_eq (by decide) (T_loc (At.s (At.s (At.s (At.s (At.s At.z))))) rfl rfl) T_cint) TA_orNil))) (TB_cons (T_assign (At.s (At.s (At.s (At.s (At.s (At.s At.z)))))) (by decide) (T_ife (TT_cmp C_eq (by decide) (T_loc (At.s (At.s (At.s (At.s (At.s At.z))))) rfl rfl) T_cint) (T_loc (At.s (At.s (At.s At.z))) rfl rfl) (T_loc (At.s (At.s (At.s (At.s (At.s (At.s At.z)))))) rfl rfl))) (TB_cons (T_assign (At.s (At.s (At.s (At.s (At.s (At.s (At.s At.z))))))) (by decide) (T_call G.X (by rfl) (T_glob G.toGC (by rfl) (by rfl) (by rfl)) (told_ref _) (TL_cons (T_loc At.z rfl rfl) (TL_cons (T_list (by decide) (TL_cons T_cstr (TL_cons T_cstr TL_nil))) TL_nil)) (C_law_one G) (by decide))) (TB_cons (T_assign (At.s (At.s (At.s (At.s (At.s (At.s (At.s (At.s At.z)))))))) (by decide) (T_meth (CT := 282) (f := 146) G.X (by rfl) (by rfl) (by rfl) (by rfl) (T_loc (At.s At.z) rfl rfl) (TL_cons (T_loc (At.s (At.s (At.s (At.s (At.s (At.s At.z)))))) rfl rfl) (TL_cons (T_bin O_add (by decide) T_cstr (T_loc (At.s (At.s (At.s (At.s (At.s (At.s (At.s At.z))))))) rfl rfl)) (TL_cons T_cstr (TL_cons (T_loc (At.s (At.s (At.s (At.s (At.s (At.s (At.s At.z))))))) rfl rfl) TL_nil)))) (C_m_add_element G) (by decide))) (TB_cons (T_expr (T_methB PySem.F.plainAttrs_list PySem.F.slot_list_append ty_append G_list (T_loc (At.s (At.s (At.s (At.s At.z)))) rfl rfl) (TL_cons (T_loc (At.s (At.s (At.s (At.s (At.s (At.s (At.s (At.s At.z)))))))) rfl rfl) TL_nil) O_append.call (by decide)) (fun _ => trivial)) TB_nil)))) (TB_cons (T_assign (At.s (At.s (At.s (At.s (At.s (At.s (At.s (At.s At.z)))))))) (by decide) (T_meth (CT := 282) (f := 153) G.X (by rfl) (by rfl) (by rfl) (by rfl) (T_loc (At.s At.z) rfl rfl) (TL_cons (T_loc (At.s (At.s (At.s (At.s (At.s (At.s At.z)))))) rfl rfl) (TL_cons (T_call G.X (by rfl) (T_glob G.toGC (by rfl) (by rfl) (by rfl)) (told_ref _) (TL_cons (T_loc At.z rfl rfl) (TL_cons (T_list (by decide) (TL_cons T_cstr (TL_cons T_cstr (TL_cons T_cstr TL_nil)))) TL_nil)) (C_law_one G) (by decide)) TL_nil)) (C_m_add_text G) (by decide))) TB_nil)) (TB_cons (T_put (T_list (by decide) TL_nil) (T_loc (At.s (At.s At.z)) rfl rfl) (T_loc (At.s (At.s (At.s (At.s (At.s (At.s (At.s (At.s At.z)))))))) rfl rfl)) (TB_cons (T_if (TT_cmp C_isNot (by decide) (T_loc (At.s (At.s (At.s (At.s (At.s (At.s At.z)))))) rfl rfl) T_cnone) (TB_cons (T_expr (T_methB PySem.F.plainAttrs_list PySem.F.slot_list_append ty_append G_list (T_item (T_loc (At.s (At.s At.z)) rfl rfl) (T_loc (At.s (At.s (At.s (At.s (At.s (At.s At.z)))))) rfl rfl)) (TL_cons (T_loc (At.s (At.s (At.s (At.s (At.s (At.s (At.s (At.s At.z)))))))) rfl rfl) TL_nil) O_append.call (by decide)) (fun _ => trivial)) TB_nil) TB_nil) TB_nil))))) (TB_cons (T_ret (T_loc (At.s (At.s (At.s At.z))) rfl rfl)) TB_nil))))) ?_)
  intro as hp Q E ⟨W, S, e, hr0, hl0, O, h⟩
  subst e
  have h00 : W.rows.length = 0 := by rw [hr0]; rfl
  refine ⟨rfl, _, rfl, _, _, _, rfl, S.x, S.d, notRows (by decide), W, S, rfl, by omega, fun q hp1 e1 e2 e3 e4 e5 e6 e7 S1 f1 => ?_⟩
  rw [h00]
  refine ⟨by decide, fun D hD => ?_⟩
  obtain ⟨Sd, fd⟩ := S1.new hD (.list [])
  refine ⟨_, rfl, _, rfl, W.ld, (0 : Int), rfl, rfl, .inr ⟨_, _, Sd.ld, by rw [lsFrom_length]; show W.ls.length ≤ 1000; rw [hl0]; decide, fun ep' => ?_⟩⟩
  obtain ⟨S2, f2⟩ := S1.addLs hD ep'
  have eput : aPut (lsFrom 0 (W.addRow q).ls) (0 : Int) (.ref D) = lsFrom 0 ((W.addRow q).ls ++ [(D, [])]) := by
    have := lsFrom_put (W.addRow q).ls D
    rw [show ((W.addRow q).ls.length : Int) = 0 by show (W.ls.length : Int) = 0; rw [hl0]; rfl] at this
    exact this
  rw [eput]
  have L2 : LI ((W.addRow q).addLs D ep') := by
    have hrows : ((W.addRow q).addLs D ep').rows = [q] := by show W.rows ++ [q] = [q]; rw [hr0]; rfl
    have hls : ((W.addRow q).addLs D ep').ls = [(D, [])] := by show W.ls ++ [(D, [])] = _; rw [hl0]; rfl
    have K0 : OK ([] : List Rw) := ⟨fun i q p h => by simp at h, fun i q c h => by simp at h, fun i q h => by simp at h, ⟨fun _ => 0, fun i q p h => by simp at h⟩, fun i q h => by simp at h⟩
    have K1 : OK ((W.addRow q).addLs D ep').rows := by rw [hrows]; exact K0.push e6 e7 (.inl e1)
    have hlen : ((W.addRow q).addLs D ep').ls.length = ((W.addRow q).addLs D ep').rows.length := by rw [hrows, hls]; rfl
    have one : ∀ (i : Nat) (z : Rw), ((W.addRow q).addLs D ep').rows[i]? = some z → i = 0 ∧ z = q := by
      intro i z hz
      rw [hrows] at hz
      cases i with
      | zero => simp at hz; exact ⟨rfl, hz.symm⟩
      | succ i => simp at hz
    refine ⟨K1, sync_of K1 hlen fun k e he => ?_, hlen, ⟨q, by rw [hrows]; rfl, e1⟩, fun i z hz _ => (one i z hz).1, fun i z hz => ?_, O⟩
    · rw [hls] at he
      cases k with
      | zero => simp at he; subst he; exact ⟨q, by rw [hrows]; rfl, e7.symm⟩
      | succ k => simp at he
    · rw [(one i z hz).2]
      exact SOK_of (by rw [e1]; decide +kernel) (by rw [e2]; decide +kernel) (by rw [e3]; decide +kernel) (by rw [e4]; decide +kernel) (by rw [e5]; decide +kernel) (by rw [e5]; decide +kernel)
  have hlen2 : ((W.addRow q).addLs D ep').rows.length = 1 := by show (W.rows ++ [q]).length = 1; rw [hr0]; rfl
  have hq0 : ((W.addRow q).addLs D ep').rows[0]? = some q := by show (W.rows ++ [q])[0]? = _; rw [hr0]; rfl
  refine ⟨_, rfl, by decide, fun P hP => ?_⟩
  change upd (upd hp1 D (.list [])) W.ld (.idict ep' (lsFrom 0 ((W.addRow q).ls ++ [(D, [])]))) P = none at hP
  obtain ⟨S3, f3⟩ := S2.new hP (.list [nt 0])
  have hPt : ((W.addRow q).addLs D ep').tag P = .no := S2.fresh P hP
  have f02 := f1.trans f2
  have hP0 : hp P = none := f02.dom P hP
  have f03 := f02.trans f3
  have hP3 : upd (upd (upd hp1 D (.list [])) W.ld (.idict ep' (lsFrom 0 ((W.addRow q).ls ++ [(D, [])])))) P (.list [nt 0]) P = some (.list ([0].map nt)) := upd_self _ _ _
  refine ⟨6, rfl, fun r hr => ⟨.rng r 6, rfl, ⟨upd_self _ _ _, by decide⟩, MadeI W hp P, ?_, ?_, ?_⟩⟩
  · change upd (upd (upd hp1 D (.list [])) W.ld (.idict ep' (lsFrom 0 ((W.addRow q).ls ++ [(D, [])])))) P (.list [nt 0]) r = none at hr
    obtain ⟨S4, f4⟩ := S3.new hr (.rng 6)
    exact ⟨_, _, none, none, none, none, [0], rfl, S4, f03.trans f4, L2, hlen2, (f4.keep P _ hP3 hPt).1, hPt, by simp, by simp, fun p hp => by
      simp at hp; subst hp
      exact ⟨q, hq0, by rw [e1]; decide⟩⟩
  · -- a turn
    rintro k σ' y hy ⟨W', hp', o1, o2, o3, o4, ps, rfl, I⟩
    have hk : k < 6 := by have := (List.getElem?_eq_some_iff.mp hy).1; simpa [Src.items] using this
    have hyk : y = nt k := by
      unfold Src.items at hy
      obtain ⟨k', hk', rfl⟩ := map_get hy
      have := List.getElem?_eq_some_iff.mp hk'
      obtain ⟨g1, g2⟩ := this
      simp at g2; subst g2; rfl
    subst hyk
    refine ⟨trivial, ?_⟩
    refine ⟨_, rfl, _, rfl, by decide, fun D1 hD1 => ?_⟩
    obtain ⟨Sa, fa⟩ := I.S.new hD1 (.list [.none])
    have hPa := fa.keep P _ I.hP I.tP
    refine ⟨_, _, hPa.1, upd_self _ _ _, by simp; have := I.pl; omega, fun D2 hD2 => ?_⟩
    obtain ⟨Sb, fb⟩ := Sa.new hD2 (.list (ps.map nt ++ [.none]))
    have fab := (I.f.trans fa).trans fb
    have hPb := fb.keep P _ hPa.1 hPa.2
    refine ⟨W', D2, _, Sb, by rw [fab.esl], upd_self _ _ _, Sa.fresh D2 hD2, by simp, by simp; have := I.pl; omega, I.L.src, fun j x a b hp2 hx O2 S2' f2' => ?_⟩
    obtain ⟨par, rfl, hpar⟩ := par_item hx
    have fc := fab.trans f2'
    have hPc := f2'.keep P _ hPb.1 hPb.2
    have Lc := I.L.setS O2
    have hpv : ∀ p, par = some p → ∃ z : Rw, W'.rows[p]? = some z ∧ z.kind ≠ ("text" : Str) := fun p e => I.pv p (hpar p e)
    refine ⟨_, rfl, W'.setS a b, 2, S2', by rw [fc.esl], by decide, by decide, O2, fun r a2 b2 hp3 h0r hr2 O3 S3' f3' => ?_⟩
    have fd' := fc.trans f3'
    have hPd := f3'.keep P _ hPc.1 hPc.2
    have Ld : LI ((W'.setS a b).setS a2 b2) := Lc.setS O3
    have hlen' : ((W'.setS a b).setS a2 b2).rows.length = k + 1 := I.len
    generalize hW : (W'.setS a b).setS a2 b2 = Wd at S3' f3' fd' hPd Ld hlen'
    have hpv' : ∀ p ∈ ps, ∃ z : Rw, Wd.rows[p]? = some z ∧ z.kind ≠ ("text" : Str) := fun p e => by rw [← hW]; exact I.pv p e
    -- behind the node made
    apply mid (fun m : MM W hp k P => ⟨[some (.ref W.sl), some (.ref W.x), some (.ref W.ld), some (nt 0), some (.ref P), some (nt k), some (parV m.q.par), m.o, some (nt m.W.rows.length)], m.hp⟩)
    case use =>
      intro rest
      apply both
      case use =>
        intro thenB
        refine ⟨decide (r = 0), rfl, _, rfl, fun e => ⟨fun _ => thenB, nofun⟩, fun e => ⟨_, rfl, decide ((k : Int) = 0), rfl, _, rfl, fun e => ⟨fun _ => thenB, nofun⟩, fun e => ⟨nofun, fun _ => ?_⟩⟩⟩
        refine ⟨_, rfl, _, _, _, rfl, by rw [← fd'.ex]; exact S3'.x, S3'.d, notRows (by decide), _, rfl, _, rfl, by decide, fun D3 hD3 => ?_⟩
        obtain ⟨S4, f4⟩ := S3'.new hD3 (.list [.str "s", .str "", .str "t"])
        have hPe := f4.keep P _ hPd.1 hPd.2
        have fe := fd'.trans f4
        refine ⟨Wd, D3, _, S4, by rw [fe.esl], upd_self _ _ _, S3'.fresh D3 hD3, by simp, by simp, Ld.src, fun j3 x3 a3 b3 hp4 hx3 O4 S5 f5 => ?_⟩
        obtain ⟨v, rfl, hv1, hv2⟩ : ∃ v : Str, x3 = .str v ∧ PyData.strOk v = true ∧ v.length ≤ 1 := by
          rcases j3 with _ | _ | _ | j3 <;> simp at hx3
          · exact ⟨_, hx3.symm, by decide +kernel, by decide +kernel⟩
          · exact ⟨_, hx3.symm, by decide +kernel, by decide +kernel⟩
          · exact ⟨_, hx3.symm, by decide +kernel, by decide +kernel⟩
        have hPf := f5.keep P _ hPe.1 hPe.2
        have ff := fe.trans f5
        have Lf := Ld.setS O4
        refine ⟨Wd.setS a3 b3, par, v, S5, by rw [ff.ex], by show Wd.rows.length ≤ 800; omega, fun p e => ?_, fun q hp5 e1 e2 e3 e4 e5 e6 e7 S6 f6 => ?_⟩
        · obtain ⟨qp, g1, g2, g3⟩ := par_kind Lf (hpv' p (hpar p e))
          exact ⟨qp, g1, g2, Nat.le_trans g3 (by show Wd.rows.length ≤ 900; omega)⟩
        · have hPg := f6.keep P _ hPf.1 hPf.2
          have hprq : ∀ p, q.par = some p → ∃ qp : Rw, (Wd.setS a3 b3).rows[p]? = some qp ∧ qp.kind ≠ ("text" : Str) := fun p e => hpv' p (hpar p (by rw [← e6]; exact e))
          have := rest ⟨Wd.setS a3 b3, hp5, q, o3, ps, S6, ff.trans f6, Lf, hlen', e7, .inr e1, hprq, SOK_of (by rw [e1]; decide +kernel) (by rw [e2]; decide +kernel) (by rw [e3]; decide +kernel) (by rw [e4]; decide +kernel) (by rw [e5]; exact hv1) (by rw [e5]; exact hv2), hPg.1, hPg.2, I.p0, by have := I.pl; omega, fun p hp => by
            obtain ⟨z, z1, z2⟩ := hpv' p hp
            obtain ⟨z', z3, z4⟩ := keep_kind hprq z1
            exact ⟨z', z3, by rw [z4]; exact z2⟩⟩
          dsimp only [kHp, kSet, kSeq, kIf, vNil]
          rw [e6] at this
          exact this
      case h =>
        have hp0v : ∃ z : Rw, Wd.rows[0]? = some z ∧ z.kind ≠ ("text" : Str) := hpv' 0 I.p0
        apply mid (fun m : { par' : Option Nat // ∀ p, par' = some p → p ∈ ps } => ⟨[some (.ref W.sl), some (.ref W.x), some (.ref W.ld), some (nt 0), some (.ref P), some (nt k), some (parV m.1), o3, o4], hp3⟩)
        case use =>
          intro rest2
          refine ⟨_, rfl, decide ((k : Int) = 0), rfl, _, rfl, fun e => ?_, fun e => ?_⟩
          · refine ⟨_, rfl, ?_⟩
            dsimp only [kHp, kSet, kSeq, vNil]
            exact rest2 ⟨some 0, fun p e => by cases e; exact I.p0⟩
          · refine ⟨_, rfl, ?_⟩
            dsimp only [kHp, kSet, kSeq, vNil]
            exact rest2 ⟨par, hpar⟩
        case rest =>
          rintro ⟨par', hpar'⟩
          refine ⟨_, rfl, by decide, fun D3 hD3 => ?_⟩
          obtain ⟨S4, f4⟩ := S3'.new hD3 (.list [.str "e", .str "f"])
          have hPe := f4.keep P _ hPd.1 hPd.2
          have fe := fd'.trans f4
          refine ⟨Wd, D3, _, S4, by rw [fe.esl], upd_self _ _ _, S3'.fresh D3 hD3, by simp, by simp, Ld.src, fun j3 x3 a3 b3 hp4 hx3 O4 S5 f5 => ?_⟩
          obtain ⟨v, rfl, hv1, hv2⟩ : ∃ v : Str, x3 = .str v ∧ PyData.strOk v = true ∧ PyData.strOk (("p:" : Str) ++ v) = true ∧ ("p:" : Str).length + v.length ≤ 100000 := by
            rcases j3 with _ | _ | j3 <;> simp at hx3
            · exact ⟨_, hx3.symm, by decide +kernel, by decide +kernel, by decide +kernel⟩
            · exact ⟨_, hx3.symm, by decide +kernel, by decide +kernel, by decide +kernel⟩
          have hPf := f5.keep P _ hPe.1 hPe.2
          have ff := fe.trans f5
          have Lf := Ld.setS O4
          refine ⟨_, rfl, _, _, _, rfl, by rw [← ff.ex]; exact S5.x, S5.d, notRows (by decide), _, rfl, _, rfl, hv2.2, _, rfl, Wd.setS a3 b3, par', _, _, _, S5, by rw [ff.ex], by show Wd.rows.length ≤ 800; omega, fun p e => ?_, fun q hp5 e1 e2 e3 e4 e5 e6 e7 S6 f6 => ?_⟩
          · obtain ⟨qp, g1, g2, g3⟩ := par_kind Lf (hpv' p (hpar' p e))
            exact ⟨qp, g1, g2, Nat.le_trans g3 (by show Wd.rows.length ≤ 900; omega)⟩
          · have hPg := f6.keep P _ hPf.1 hPf.2
            have hprq : ∀ p, q.par = some p → ∃ qp : Rw, (Wd.setS a3 b3).rows[p]? = some qp ∧ qp.kind ≠ ("text" : Str) := fun p e => hpv' p (hpar' p (by rw [← e6]; exact e))
            refine ⟨_, rfl, ⟨_, _, rfl, hPg.1⟩, _, rfl, _, _, _, rfl, hPg.1, by rw [List.length_map]; have := I.pl; omega, ?_⟩
            have S7 := S6.temp hPg.2 (.list (ps.map nt ++ [nt (Wd.setS a3 b3).rows.length]))
            have f7 : Fw W hp ((Wd.setS a3 b3).addChild q) (upd hp5 P (.list (ps.map nt ++ [nt (Wd.setS a3 b3).rows.length]))) := (ff.trans f6).temp hP0 _
            have hnew := new_at hprq
            have := rest ⟨Wd.setS a3 b3, _, q, some (.str v), ps ++ [Wd.rows.length], S7, f7, Lf, hlen', e7, .inl e1, hprq, SOK_of (by rw [e1]; decide +kernel) (by rw [e2]; exact hv2.1) (by rw [e3]; decide +kernel) (by rw [e4]; exact hv1) (by rw [e5]; decide +kernel) (by rw [e5]; decide +kernel), by rw [upd_self, List.map_append]; rfl, hPg.2, List.mem_append_left _ I.p0, by rw [List.length_append]; have := I.pl; simp; omega, fun p hp => by
              rcases List.mem_append.mp hp with hp | hp
              · obtain ⟨z, z1, z2⟩ := hpv' p hp
                obtain ⟨z', z3, z4⟩ := keep_kind hprq z1
                exact ⟨z', z3, by rw [z4]; exact z2⟩
              · rw [List.mem_singleton.mp hp]
                exact ⟨q, hnew, by rw [e1]; decide⟩⟩
            dsimp only [kHp, kSet, kSeq, kIf, vNil]
            rw [e6] at this
            exact this
    case rest =>
      rintro ⟨Wm, hpm, q, o, ps', Sm, fm, Lm, lenm, h2m, h3m, hprm, som, hPm, tPm, p0m, plm, pvm⟩
      obtain ⟨c1, c2, c3, c4, c5, c6⟩ := addChild_rest Wm q
      have crow := addChild_rows Wm q
      have exm : Wm.x = W.x := c4.symm.trans fm.ex
      have eld : (Wm.addChild q).ld = W.ld := fm.eld
      refine ⟨by decide, fun D4 hD4 => ?_⟩
      change hpm D4 = none at hD4
      obtain ⟨S7, f7⟩ := Sm.new hD4 (.list [])
      have hld7 := S7.ld
      rw [eld] at hld7
      refine ⟨_, rfl, _, rfl, W.ld, (Wm.rows.length : Int), rfl, rfl, .inr ⟨_, _, hld7, by rw [lsFrom_length, c1, Lm.ln]; omega, fun ep2 => ?_⟩⟩
      obtain ⟨S8, f8⟩ := Sm.addLs hD4 ep2
      have eput2 : aPut (lsFrom 0 (Wm.addChild q).ls) (Wm.rows.length : Int) (.ref D4) = lsFrom 0 ((Wm.addChild q).ls ++ [(D4, [])]) := by
        have := lsFrom_put (Wm.addChild q).ls D4
        rw [c1, Lm.ln] at this
        rw [c1]; exact this
      rw [eput2]
      rw [eld] at S8 f8
      have hP8 := f8.keep P _ hPm tPm
      have f08 := fm.trans f8
      have ls8 : ((Wm.addChild q).addLs D4 ep2).ls = Wm.ls ++ [(D4, [])] := by show (Wm.addChild q).ls ++ _ = _; rw [c1]
      have rows8 : ((Wm.addChild q).addLs D4 ep2).rows = addR Wm.rows q := crow
      cases hq : q.par with
      | none =>
        refine ⟨_, rfl, false, rfl, false, rfl, nofun, fun _ => ?_⟩
        have L8 : LI ((Wm.addChild q).addLs D4 ep2) := Lm.add h2m h3m hprm som rows8 (by rw [ls8]; simp) (fun j e he => by
          rw [ls8, List.getElem?_append] at he
          split at he
          · rename_i hj; rw [if_neg (by omega), hq, if_neg nofun, he]; rfl
          · have : j - Wm.ls.length = 0 := by
              cases x : j - Wm.ls.length with
              | zero => rfl
              | succ n => rw [x] at he; simp at he
            rw [this] at he; simp at he; subst he
            rw [if_pos (by omega)]) (by show SrcOK (Wm.addChild q); unfold SrcOK; rw [c2, c3]; exact Lm.src)
        refine ⟨_, _, _, _, _, _, ps', rfl, S8, f08, L8, by rw [rows8, addR_len]; omega, hP8.1, hP8.2, p0m, plm, fun p hp => by rw [rows8]; exact pvm p hp⟩
      | some p =>
        obtain ⟨qp, hqp, hkp⟩ := hprm p hq
        have hpl : p < Wm.ls.length := by rw [Lm.ln]; exact (List.getElem?_eq_some_iff.mp hqp).1
        obtain ⟨ep, hep⟩ : ∃ e, Wm.ls[p]? = some e := ⟨_, List.getElem?_eq_getElem hpl⟩
        have hep8 : ((Wm.addChild q).addLs D4 ep2).ls[p]? = some ep := by rw [ls8, List.getElem?_append_left hpl]; exact hep
        have hep2 : ep.2 = qp.ch := by obtain ⟨z, x1, x2⟩ := Lm.sy.ch p ep hep; rw [hqp] at x1; cases x1; exact x2
        have hl8 := (S8.lst p ep hep8).1
        have hlk := Lm.ok.ch_len hqp
        have it8 := lsItem S8 hep8
        rw [show ((Wm.addChild q).addLs D4 ep2).ld = W.ld from eld] at it8
        obtain ⟨S9, f9⟩ := S8.setLs hep8 (ep.2 ++ [Wm.rows.length])
        refine ⟨_, rfl, true, rfl, true, rfl, fun _ => ?_, nofun⟩
        refine ⟨_, rfl, _, rfl, .ref ep.1, it8, ⟨_, _, rfl, hl8⟩, _, rfl, _, _, _, rfl, hl8, by rw [List.length_map, hep2]; omega, ?_⟩
        have hP9 := f9.keep P _ hP8.1 hP8.2
        have ls9 : (((Wm.addChild q).addLs D4 ep2).setLs p ep.1 (ep.2 ++ [Wm.rows.length])).ls = (Wm.ls ++ [(D4, [])]).set p (ep.1, ep.2 ++ [Wm.rows.length]) := by show ((Wm.addChild q).addLs D4 ep2).ls.set _ _ = _; rw [ls8]
        have L9 : LI (((Wm.addChild q).addLs D4 ep2).setLs p ep.1 (ep.2 ++ [Wm.rows.length])) := Lm.add h2m h3m hprm som rows8 (by rw [ls9]; simp) (fun j e he => by
          rw [ls9, List.getElem?_set] at he
          split at he
          · rename_i x; subst x
            split at he
            · cases he
              rw [if_neg (by omega), hq, if_pos rfl, hep, Lm.ln]; rfl
            · cases he
          · rename_i x
            rw [List.getElem?_append] at he
            split at he
            · rename_i hj; rw [if_neg (by omega), hq, if_neg (fun y => x (by injection y)), he]; rfl
            · have : j - Wm.ls.length = 0 := by
                cases y : j - Wm.ls.length with
                | zero => rfl
                | succ n => rw [y] at he; simp at he
              rw [this] at he; simp at he; subst he
              rw [if_pos (by omega)]) (by show SrcOK (Wm.addChild q); unfold SrcOK; rw [c2, c3]; exact Lm.src)
        rw [List.map_append] at S9 f9 hP9
        refine ⟨_, _, _, _, _, _, ps', rfl, S9, f08.trans f9, L9, by show ((Wm.addChild q).addLs D4 ep2).rows.length = _; rw [rows8, addR_len]; omega, hP9.1, hP9.2, p0m, plm, fun p hp => by show ∃ z, ((Wm.addChild q).addLs D4 ep2).rows[p]? = _ ∧ _; rw [rows8]; exact pvm p hp⟩
  · rintro σ' ⟨W', hp', o1, o2, o3, o4, ps, rfl, I⟩
    exact ⟨trivial, _, rfl, h W' hp' I.L I.len I.S I.f⟩
end
end Mine

end

section
open PySem PySem.W PyProof.Rows PySem.Calls
set_option Elab.async false
set_option maxRecDepth 100000
set_option linter.unusedVariables false
namespace Mine

theorem up_trans {rows : List Rw} {a b : Nat} {c : Option Nat} (h : Up rows a (some b)) (h2 : Up rows b c) : Up rows a c := by
  induction h2 with
  | here => exact h
  | step hq _ ih => exact .step hq ih
theorem up_rk {rows : List Rw} {rk : Nat → Nat} (hrk : ∀ (i : Nat) (q : Rw) (p : Nat), rows[i]? = some q → q.par = some p → (∃ qp, rows[p]? = some qp) ∧ rk p < rk i) {a : Nat} : ∀ {b : Option Nat}, Up rows a b → ∀ i, b = some i → rk a ≤ rk i := by
  intro b h
  induction h with
  | here => intro i e; cases e; exact Nat.le_refl _
  | @step b q hq u ih =>
    intro i e; cases e
    cases hp : q.par with
    | none => rw [hp] at u; exact (up_none u).elim
    | some p => exact Nat.le_of_lt (Nat.lt_of_le_of_lt (ih p hp) (hrk b q p hq hp).2)
theorem up_child_of {rows : List Rw} (K : OK rows) {i c : Nat} {q : Rw} (hq : rows[i]? = some q) (hc : c ∈ q.ch) : Up rows i (some c) := by
  obtain ⟨z, h1, h2⟩ := K.dn i q c hq hc
  exact .step h1 (by rw [h2]; exact .here)
/-- no node is above what is above it -/
theorem no_cycle {rows : List Rw} (K : OK rows) {i p : Nat} {q : Rw} (hq : rows[i]? = some q) (hp : q.par = some p) : ¬ Up rows i (some p) := fun u => by
  obtain ⟨rk, hrk⟩ := K.ac
  have := up_rk hrk u p rfl
  have := (hrk i q p hq hp).2
  omega

/-- a walk downward: what is done, what is left -/
structure Front (rows : List Rw) (s : Nat) (don pend : List Nat) : Prop where
  nd : (don ++ pend).Nodup
  up : ∀ x, x ∈ don ∨ x ∈ pend → Up rows s (some x)
  pa : ∀ x, x ∈ don ∨ x ∈ pend → x = s ∨ ∃ p, p ∈ don ∧ ∃ z : Rw, rows[x]? = some z ∧ z.par = some p
  vl : ∀ x, x ∈ don ∨ x ∈ pend → ∃ z : Rw, rows[x]? = some z
theorem Front.start {rows : List Rw} {s : Nat} {z : Rw} (h : rows[s]? = some z) : Front rows s [] [s] :=
  ⟨by simp, fun x hx => by simp at hx; subst hx; exact .here, fun x hx => by simp at hx; exact .inl hx, fun x hx => by simp at hx; subst hx; exact ⟨z, h⟩⟩
theorem Front.perm {rows : List Rw} {s : Nat} {don pend don' pend' : List Nat} (F : Front rows s don pend) (h1 : don.Perm don') (h2 : pend.Perm pend') : Front rows s don' pend' := by
  have m : ∀ x, x ∈ don' ∨ x ∈ pend' → x ∈ don ∨ x ∈ pend := fun x hx => hx.imp h1.mem_iff.mpr h2.mem_iff.mpr
  refine ⟨((h1.append h2).nodup_iff).mp F.nd, fun x hx => F.up x (m x hx), fun x hx => (F.pa x (m x hx)).imp id fun ⟨p, hp, r⟩ => ⟨p, h1.mem_iff.mp hp, r⟩, fun x hx => F.vl x (m x hx)⟩
theorem Front.step {rows : List Rw} (K : OK rows) {s h : Nat} {don rest sub : List Nat} {q : Rw} (F : Front rows s don (h :: rest)) (hq : rows[h]? = some q) (hn : sub.Nodup) (hs : ∀ c ∈ sub, c ∈ q.ch) : Front rows s (h :: don) (sub ++ rest) := by
  have ndh : h ∉ don ∧ h ∉ rest ∧ (don ++ rest).Nodup := by
    have := F.nd
    rw [List.nodup_append, List.nodup_cons] at this
    obtain ⟨a, ⟨b, c⟩, d⟩ := this
    refine ⟨fun x => d h x h (.head _) rfl, b, ?_⟩
    rw [List.nodup_append]
    exact ⟨a, c, fun x hx y hy => d x hx y (.tail _ hy)⟩
  have up_h := F.up h (.inr (.head _))
  have new : ∀ c ∈ sub, c ∉ don ∧ c ≠ h ∧ c ∉ rest := by
    intro c hc
    obtain ⟨z, hz, hzp⟩ := K.dn h q c hq (hs c hc)
    have key : ¬ (c ∈ don ∨ c ∈ h :: rest) := fun hm => by
      rcases F.pa c hm with e | ⟨p, hp, z', hz', hzp'⟩
      · subst e; exact no_cycle K hz hzp up_h
      · rw [hz] at hz'; cases hz'
        rw [hzp] at hzp'; cases hzp'
        exact ndh.1 hp
    exact ⟨fun x => key (.inl x), fun e => key (.inr (e ▸ .head _)), fun x => key (.inr (.tail _ x))⟩
  refine ⟨?_, fun x hx => ?_, fun x hx => ?_, fun x hx => ?_⟩
  · rw [List.nodup_append, List.nodup_cons, List.nodup_append]
    have := ndh.2.2
    rw [List.nodup_append] at this
    refine ⟨⟨ndh.1, this.1⟩, ⟨hn, this.2.1, fun x hx y hy e => (new x hx).2.2 (e ▸ hy)⟩, fun x hx y hy e => ?_⟩
    subst e
    rcases List.mem_cons.mp hx with rfl | hx <;> rcases List.mem_append.mp hy with hy | hy
    · exact (new _ hy).2.1 rfl
    · exact ndh.2.1 hy
    · exact (new x hy).1 hx
    · exact this.2.2 x hx x hy rfl
  · rcases hx with hx | hx
    · rcases List.mem_cons.mp hx with rfl | hx
      · exact up_h
      · exact F.up x (.inl hx)
    · rcases List.mem_append.mp hx with hx | hx
      · exact up_trans up_h (up_child_of K hq (hs x hx))
      · exact F.up x (.inr (.tail _ hx))
  · have old : x ∈ don ∨ x ∈ h :: rest → x = s ∨ ∃ p, p ∈ h :: don ∧ ∃ z : Rw, rows[x]? = some z ∧ z.par = some p := fun hx => (F.pa x hx).imp id fun ⟨p, hp, r⟩ => ⟨p, .tail _ hp, r⟩
    rcases hx with hx | hx
    · rcases List.mem_cons.mp hx with rfl | hx
      · exact old (.inr (.head _))
      · exact old (.inl hx)
    · rcases List.mem_append.mp hx with hx | hx
      · obtain ⟨z, hz, hzp⟩ := K.dn h q x hq (hs x hx)
        exact .inr ⟨h, .head _, z, hz, hzp⟩
      · exact old (.inr (.tail _ hx))
  · rcases hx with hx | hx
    · rcases List.mem_cons.mp hx with rfl | hx
      · exact ⟨q, hq⟩
      · exact F.vl x (.inl hx)
    · rcases List.mem_append.mp hx with hx | hx
      · obtain ⟨z, hz, _⟩ := K.dn h q x hq (hs x hx)
        exact ⟨z, hz⟩
      · exact F.vl x (.inr (.tail _ hx))
theorem Front.len {rows : List Rw} {s : Nat} {don pend : List Nat} (F : Front rows s don pend) : don.length + pend.length ≤ rows.length := by
  have := nodup_le F.nd fun x hx => by
    obtain ⟨z, hz⟩ := F.vl x (List.mem_append.mp hx)
    exact (List.getElem?_eq_some_iff.mp hz).1
  rw [List.length_append] at this; exact this
end Mine

end

section
open PySem PySem.W PyProof.Rows PySem.Calls
set_option Elab.async false
set_option maxRecDepth 100000
set_option linter.unusedVariables false
namespace Mine

def st_lines_down : Option Stmt := stAt 6
def sc_lines_down : Scope := scopeIn (stAt 6)
theorem F_lines_down (P : Params) : FunIn (KK P) 60 ["tree", "node"] ["found"] (scopeIn (stAt 6)) (bodyOf (stAt 6)) (fnData (stAt 6) "lines_down" (Value.str (Str.ofString "markupmill.order") 241) 59) :=
  ⟨⟨_, rfl, rfl⟩, rfl, rfl, rfl, rfl, rfl, by rfl, (fun vals h => by rcases vals with _ | ⟨a0, _ | ⟨a1, _ | ⟨b, r⟩⟩⟩ <;> first | rfl | cases h), by decide, by rfl, by decide, rfl, rfl, rfl⟩
def st_beneath : Option Stmt := stAt 7
def sc_beneath : Scope := scopeIn (stAt 7)
theorem F_beneath (P : Params) : FunIn (KK P) 67 ["tree", "node"] ["found", "left", "here"] (scopeIn (stAt 7)) (bodyOf (stAt 7)) (fnData (stAt 7) "beneath" (Value.str (Str.ofString "markupmill.order") 241) 66) :=
  ⟨⟨_, rfl, rfl⟩, rfl, rfl, rfl, rfl, rfl, by rfl, (fun vals h => by rcases vals with _ | ⟨a0, _ | ⟨a1, _ | ⟨b, r⟩⟩⟩ <;> first | rfl | cases h), by decide, by rfl, by decide, rfl, rfl, rfl⟩

theorem kNe_nil {hp : HP} {a b : Addr} {xs : List AV} (ha : hp a = some (.list xs)) (hb : hp b = some (.list [])) : kNe (.ref a) (.ref b) hp (!xs.isEmpty) := by
  show kEqRef a b hp _
  cases xs with
  | nil => exact eqNil hp ha hb
  | cons x xs => exact neNil hp ha hb
section
variable {prog : Program} {w : World} {base : Heap} {mg mb : Str → Option Value}

inductive ILines (as : List AV) (hp : HP) (Q : AV → HP → Prop) (E : HP → Prop) : Prop
  | mk (W : Wd) (a : Option Nat) (h1 : St W hp) (h2 : as = [.ref W.x, parV a]) (h3 : OK W.rows) (h4 : W.rows.length ≤ 900) (h5 : Val W.rows a) (h6 : ∀ (D : Addr) (l : List Nat) (hp' : HP), St W hp' → Fw W hp W hp' → hp' D = some (.list (l.map nt)) → W.tag D = .no → l.length ≤ 900 → (∀ x ∈ l, ∃ q : Rw, W.rows[x]? = some q) → Q (.ref D) hp')
def cLines : CPT := ILines
inductive LinesI (W : Wd) (hp : HP) (rk : Nat → Nat) (F : Addr) (k : Nat) (σ : AS) : Prop
  | mk (a' : Option Nat) (hp' : HP) (l : List Nat) (e : σ = ⟨[some (.ref W.x), some (parV a'), some (.ref F)], hp'⟩) (S : St W hp') (f : Fw W hp W hp') (hF : hp' F = some (.list (l.map nt))) (tF : W.tag F = .no) (nd : l.Nodup) (hl : ∀ x ∈ l, (∃ q : Rw, W.rows[x]? = some q) ∧ ∀ i, a' = some i → rk i < rk x) (v : Val W.rows a') (ek : k = rkO rk a')
theorem C_lines_down (G : TopOK prog w base mg mb) : CallS prog w base 51 13 (.ref 60) cLines := by
  refine CodeS.call (fun_call (n := 12) G.X G.nolimit (F_lines_down w.params) (TB_cons (T_assign (At.s (At.s At.z)) (by decide) (T_list (by decide) TL_nil)) (TB_cons (T_while (TT_cmp C_isNot (by decide) (T_loc (At.s At.z) rfl rfl) T_cnone) (TB_cons (T_expr (T_methB PySem.F.plainAttrs_list PySem.F.slot_list_append ty_append G_list (T_loc (At.s (At.s At.z)) rfl rfl) (TL_cons (T_loc (At.s At.z) rfl rfl) TL_nil) O_append.call (by decide)) (fun _ => trivial)) (TB_cons (T_assign (At.s At.z) (by decide) (T_meth (CT := 282) (f := 237) G.X (by rfl) (by rfl) (by rfl) (by rfl) (T_loc At.z rfl rfl) (TL_cons (T_loc (At.s At.z) rfl rfl) TL_nil) (C_m_parent G) (by decide))) TB_nil))) (TB_cons (T_ret (T_rev (T_loc (At.s (At.s At.z)) rfl rfl) (T_neg T_cint))) TB_nil))) ?_)
  intro as hp Q E ⟨W, a, S, e, K, hz, hv, h⟩
  subst e
  obtain ⟨rk, hrk⟩ := K.ac
  refine ⟨rfl, by decide, fun F hF => ?_⟩
  change hp F = none at hF
  obtain ⟨S0, f0⟩ := S.new hF (.list [])
  refine ⟨LinesI W hp rk F,
    _, ⟨a, _, [], rfl, S0, f0, upd_self _ _ _, S.fresh F hF, List.nodup_nil, (fun x hx => nomatch hx), hv, rfl⟩, ?_⟩
  rintro k σ' ⟨a', hp', l, rfl, S', f', hl, tF, hn, hx, hv', rfl⟩
  have hlen : l.length ≤ 900 := Nat.le_trans (nodup_le hn fun x hxm => by
    obtain ⟨⟨q, hq⟩, _⟩ := hx x hxm
    exact (List.getElem?_eq_some_iff.mp hq).1) hz
  cases a' with
  | none =>
    refine ⟨_, rfl, false, rfl, false, rfl, nofun, fun _ => ?_⟩
    refine ⟨_, rfl, _, rfl, F, _, rfl, rfl, hl, by rw [List.length_map]; omega, fun D hD => ?_⟩
    change hp' D = none at hD
    obtain ⟨S2, f2⟩ := S'.new hD (.list (l.map nt).reverse)
    refine h D l.reverse _ S2 (f'.trans f2) ((upd_self _ _ _).trans (by rw [List.map_reverse])) (S'.fresh D hD) (by rw [List.length_reverse]; exact hlen) fun x hxm => (hx x (List.mem_reverse.mp hxm)).1
  | some i =>
    obtain ⟨q, hq⟩ := hv'
    refine ⟨_, rfl, true, rfl, true, rfl, fun _ => ?_, nofun⟩
    have S2 := S'.temp tF (.list (l.map nt ++ [nt i]))
    have f2 := f'.temp hF (.list (l.map nt ++ [nt i]))
    refine ⟨_, rfl, ⟨_, _, rfl, hl⟩, _, rfl, _, _, _, rfl, hl, by rw [List.length_map]; omega, ?_⟩
    refine ⟨_, rfl, _, _, _, rfl, S2.x, S2.d, notRows (by decide), _, rfl, W, i, q, S2, rfl, hq, hz, ?_⟩
    refine ⟨rkO rk q.par, ?_, q.par, _, l ++ [i], rfl, S2, f2, (upd_self _ _ _).trans (by rw [List.map_append]; rfl), tF, ?_, fun x hxm => ?_, K.val hq, rfl⟩
    · cases e : q.par with
      | none => exact Nat.succ_pos _
      | some p => exact Nat.succ_lt_succ (hrk i q p hq e).2
    · rw [List.nodup_append]
      refine ⟨hn, by simp, fun x hxm y hy e => ?_⟩
      rw [List.mem_singleton.mp hy] at e
      subst e
      exact Nat.lt_irrefl _ ((hx x hxm).2 x rfl)
    · rcases List.mem_append.mp hxm with hxm | hxm
      · refine ⟨(hx x hxm).1, fun p hp => ?_⟩
        exact Nat.lt_trans (hrk i q p hq hp).2 ((hx x hxm).2 i rfl)
      · rw [List.mem_singleton.mp hxm]
        exact ⟨⟨q, hq⟩, fun p hp => (hrk i q p hq hp).2⟩

inductive IBelow (as : List AV) (hp : HP) (Q : AV → HP → Prop) (E : HP → Prop) : Prop
  | mk (W : Wd) (s : Nat) (q : Rw) (h1 : St W hp) (h2 : as = [.ref W.x, nt s]) (h3 : OK W.rows) (h4 : W.rows.length ≤ 900) (h5 : W.rows[s]? = some q) (h6 : ∀ (D : Addr) (l : List Nat) (hp' : HP), St W hp' → Fw W hp W hp' → hp' D = some (.list (l.map nt)) → W.tag D = .no → hp D = none → l.length ≤ 900 → (∀ x ∈ l, ∃ z : Rw, W.rows[x]? = some z) → (∀ (x : Nat) (z : Rw), (x = s ∨ x ∈ l) → W.rows[x]? = some z → ∀ c ∈ z.ch, c ∈ l) → Q (.ref D) hp')
def cBelow : CPT := IBelow
inductive BelowI (W : Wd) (hp : HP) (s : Nat) (F : Addr) (k : Nat) (σ : AS) : Prop
  | mk (hp' : HP) (L : Addr) (fl pend : List Nat) (o : Option AV) (e : σ = ⟨[some (.ref W.x), some (nt s), some (.ref F), some (.ref L), o], hp'⟩) (S : St W hp') (f : Fw W hp W hp') (hL : hp' L = some (.list (pend.map nt).reverse)) (tL : W.tag L = .no) (hL0 : hp L = none) (ne : L ≠ F) (hF : hp' F = some (.list (fl.map nt))) (Fr : Front W.rows s (s :: fl) pend)
    (cl : ∀ (x : Nat) (z : Rw), (x = s ∨ x ∈ fl) → W.rows[x]? = some z → ∀ c ∈ z.ch, c ∈ fl ∨ c ∈ pend) (ek : k = W.rows.length - fl.length)
theorem C_beneath (G : TopOK prog w base mg mb) : CallS prog w base 51 13 (.ref 67) cBelow := by
  refine CodeS.call (fun_call (n := 12) G.X G.nolimit (F_beneath w.params) (TB_cons (T_assign (At.s (At.s At.z)) (by decide) (T_list (by decide) TL_nil)) (TB_cons (T_assign (At.s (At.s (At.s At.z))) (by decide) (T_rev (T_meth (CT := 282) (f := 244) G.X (by rfl) (by rfl) (by rfl) (by rfl) (T_loc At.z rfl rfl) (TL_cons (T_loc (At.s At.z) rfl rfl) TL_nil) (C_m_children G) (by decide)) (T_neg T_cint))) (TB_cons (T_while (TT_cmp C_ne (by decide) (T_loc (At.s (At.s (At.s At.z))) rfl rfl) (T_list (by decide) TL_nil)) (TB_cons (T_assign (At.s (At.s (At.s (At.s At.z)))) (by decide) (T_methB0 PySem.F.plainAttrs_list PySem.F.slot_list_pop ty_pop G_list (T_loc (At.s (At.s (At.s At.z))) rfl rfl) O_pop.call (by decide))) (TB_cons (T_expr (T_methB PySem.F.plainAttrs_list PySem.F.slot_list_append ty_append G_list (T_loc (At.s (At.s At.z)) rfl rfl) (TL_cons (T_loc (At.s (At.s (At.s (At.s At.z)))) rfl rfl) TL_nil) O_append.call (by decide)) (fun _ => trivial)) (TB_cons (T_assign (At.s (At.s (At.s At.z))) (by decide) (T_bin O_add (by decide) (T_loc (At.s (At.s (At.s At.z))) rfl rfl) (T_rev (T_meth (CT := 282) (f := 244) G.X (by rfl) (by rfl) (by rfl) (by rfl) (T_loc At.z rfl rfl) (TL_cons (T_loc (At.s (At.s (At.s (At.s At.z)))) rfl rfl) TL_nil) (C_m_children G) (by decide)) (T_neg T_cint)))) TB_nil)))) (TB_cons (T_ret (T_loc (At.s (At.s At.z)) rfl rfl)) TB_nil)))) ?_)
  intro as hp Q E ⟨W, s, q, S, e, K, hz, hq, h⟩
  subst e
  have hcl := K.ch_len hq
  refine ⟨rfl, by decide, fun F hF => ?_⟩
  change hp F = none at hF
  obtain ⟨S0, f0⟩ := S.new hF (.list [])
  have tF := S.fresh F hF
  refine ⟨_, rfl, _, _, _, rfl, S0.x, S0.d, notRows (by decide), _, rfl, W, s, q, S0, rfl, hq, hz, Nat.le_trans hcl hz, fun D1 hD1 => ?_⟩
  obtain ⟨S1, f1⟩ := S0.new hD1 (.list (q.ch.map nt))
  refine ⟨1, rfl, D1, _, rfl, rfl, upd_self _ _ _, by rw [List.length_map]; exact Nat.le_trans hcl (Nat.le_trans hz (by decide)), fun L hL => ?_⟩
  obtain ⟨S2, f2⟩ := S1.new hL (.list (q.ch.map nt).reverse)
  have tL := S1.fresh L hL
  have f02 := (f0.trans f1).trans f2
  have hF2 := f2.keep F _ (f1.keep F _ (upd_self _ _ _) tF).1 tF
  have hL0 : hp L = none := (f0.trans f1).dom L hL
  have Fr0 := (Front.start hq).step K hq (K.nd s q hq) (fun c hc => hc)
  rw [List.append_nil] at Fr0
  have hne0 : L ≠ F := fun e => by rw [e] at hL; exact absurd (hL.symm.trans ((f1.keep F _ (upd_self _ _ _) tF).1)) nofun
  have hcl0 : ∀ (x : Nat) (z : Rw), (x = s ∨ x ∈ ([] : List Nat)) → W.rows[x]? = some z → ∀ c ∈ z.ch, c ∈ ([] : List Nat) ∨ c ∈ q.ch := fun x z hx hxz c hc => by
    rcases hx with rfl | hx
    · rw [hq] at hxz; cases hxz; exact .inr hc
    · cases hx
  refine ⟨BelowI W hp s F, _,
    ⟨_, L, [], q.ch, none, rfl, S2, f02, upd_self _ _ _, tL, hL0, hne0, hF2.1, Fr0, hcl0, rfl⟩, ?_⟩
  rintro k σ' ⟨hp', L, fl, pend, o, rfl, S', f', hL', tL', hL0', hLF, hF', Fr, hcl', rfl⟩
  have hlen := Fr.len
  rw [List.length_cons] at hlen
  refine ⟨_, rfl, by decide, fun D2 hD2 => ?_⟩
  change hp' D2 = none at hD2
  obtain ⟨S3, f3⟩ := S'.new hD2 (.list [])
  have hL3 := f3.keep L _ hL' tL'
  have hF3 := f3.keep F _ hF' tF
  refine ⟨_, kNe_nil hL3.1 (upd_self _ _ _), _, rfl, fun e => ?_, fun e => ?_⟩
  · cases pend with
    | nil => simp at e
    | cons hd rest =>
      obtain ⟨z, hzd⟩ := Fr.vl hd (.inr (.head _))
      have hcz := K.ch_len hzd
      have Fr2 := (Fr.step K hzd (K.nd hd z hzd) fun c hc => hc).perm (don' := s :: (fl ++ [hd])) (pend' := z.ch ++ rest) (by
        refine (List.Perm.swap s hd fl).trans (List.Perm.cons s ?_)
        exact (List.perm_append_comm (l₁ := [hd]) (l₂ := fl))) (List.Perm.refl _)
      have hlen2 := Fr2.len
      simp only [List.length_cons, List.length_append, List.length_nil] at hlen2
      have hL4 : upd hp' D2 (.list []) L = some (.list ((rest.map nt).reverse ++ [nt hd])) := by rw [hL3.1]; simp
      refine ⟨_, rfl, ⟨_, _, rfl, hL4⟩, L, nt hd, (rest.map nt).reverse, rfl, hL4, by simp; simp at hlen; omega, ?_⟩
      have S4 := S3.temp tL' (.list (rest.map nt).reverse)
      have f4 := (f'.trans f3).temp hL0' (.list (rest.map nt).reverse)
      have hF4 : upd (upd hp' D2 (.list [])) L (.list (rest.map nt).reverse) F = some (.list (fl.map nt)) := by rw [upd_other (Ne.symm hLF)]; exact hF3.1
      refine ⟨_, rfl, ⟨_, _, rfl, hF4⟩, _, rfl, _, _, _, rfl, hF4, by rw [List.length_map]; omega, ?_⟩
      have S5 := S4.temp tF (.list (fl.map nt ++ [nt hd]))
      have f5 := f4.temp hF (.list (fl.map nt ++ [nt hd]))
      have hL5 : upd (upd (upd hp' D2 (.list [])) L (.list (rest.map nt).reverse)) F (.list (fl.map nt ++ [nt hd])) L = some (.list (rest.map nt).reverse) := by rw [upd_other hLF, upd_self]
      refine ⟨_, rfl, _, rfl, _, _, _, rfl, S5.x, S5.d, notRows (by decide), _, rfl, W, hd, z, S5, rfl, hzd, hz, Nat.le_trans hcz hz, fun D3 hD3 => ?_⟩
      obtain ⟨S6, f6⟩ := S5.new hD3 (.list (z.ch.map nt))
      refine ⟨1, rfl, D3, _, rfl, rfl, upd_self _ _ _, by rw [List.length_map]; exact Nat.le_trans hcz (Nat.le_trans hz (by decide)), fun D4 hD4 => ?_⟩
      obtain ⟨S7, f7⟩ := S6.new hD4 (.list (z.ch.map nt).reverse)
      have hL7 := f7.keep L _ (f6.keep L _ hL5 tL').1 tL'
      have hF7 := f7.keep F _ (f6.keep F _ (upd_self _ _ _) tF).1 tF
      refine ⟨_, _, hL7.1, upd_self _ _ _, by simp only [List.length_reverse, List.length_map]; omega, fun L2 hL2 => ?_⟩
      obtain ⟨S8, f8⟩ := S7.new hL2 (.list ((rest.map nt).reverse ++ (z.ch.map nt).reverse))
      have tL2 := S7.fresh L2 hL2
      have hF8 := f8.keep F _ hF7.1 tF
      have f08 := ((f5.trans f6).trans f7).trans f8
      have hne : L2 ≠ F := fun e => by rw [e] at hL2; exact absurd (hL2.symm.trans hF7.1) nofun
      refine ⟨W.rows.length - (fl ++ [hd]).length, by simp; simp at hlen; omega, _, L2, fl ++ [hd], z.ch ++ rest, _, rfl, S8, f08, (upd_self _ _ _).trans (by simp), tL2, ((f5.trans f6).trans f7).dom L2 hL2, hne, hF8.1.trans (by rw [List.map_append]; rfl), Fr2, fun x zx hx hxz c hc => ?_, rfl⟩
      have old : (x = s ∨ x ∈ fl) → c ∈ fl ++ [hd] ∨ c ∈ z.ch ++ rest := fun hx => by
        rcases hcl' x zx hx hxz c hc with h1 | h1
        · exact .inl (List.mem_append_left _ h1)
        · rcases List.mem_cons.mp h1 with rfl | h1
          · exact .inl (List.mem_append_right _ (.head _))
          · exact .inr (List.mem_append_right _ h1)
      rcases hx with hx | hx
      · exact old (.inl hx)
      · rcases List.mem_append.mp hx with hx | hx
        · exact old (.inr hx)
        · rw [List.mem_singleton.mp hx, hzd] at hxz
          cases hxz
          exact .inr (List.mem_append_left _ hc)
  · cases pend with
    | cons hd rest => simp at e
    | nil =>
      refine ⟨_, rfl, h F fl _ S3 (f'.trans f3) hF3.1 tF hF (by omega) (fun x hx => Fr.vl x (.inl (.tail _ hx))) fun x z hx hxz c hc => ?_⟩
      rcases hcl' x z hx hxz c hc with h1 | h1
      · exact h1
      · cases h1
end
end Mine

end

section
open PySem PySem.W PyProof.Rows PySem.Calls
set_option Elab.async false
set_option maxRecDepth 100000
set_option linter.unusedVariables false
namespace Mine

def st_scope_of : Option Stmt := stAt 8
def sc_scope_of : Scope := scopeIn (stAt 8)
theorem F_scope_of (P : Params) : FunIn (KK P) 74 ["tree", "element"] ["found", "above", "node", "prefix", "uri"] (scopeIn (stAt 8)) (bodyOf (stAt 8)) (fnData (stAt 8) "scope_of" (Value.str (Str.ofString "markupmill.order") 241) 73) :=
  ⟨⟨_, rfl, rfl⟩, rfl, rfl, rfl, rfl, rfl, by rfl, (fun vals h => by rcases vals with _ | ⟨a0, _ | ⟨a1, _ | ⟨b, r⟩⟩⟩ <;> first | rfl | cases h), by decide, by rfl, by decide, rfl, rfl, rfl⟩
def st_bring_names : Option Stmt := stAt 22
def sc_bring_names : Scope := scopeIn (stAt 22)
theorem F_bring_names (P : Params) : FunIn (KK P) 340 ["tree", "wanted", "element"] ["known", "prefix"] (scopeIn (stAt 22)) (bodyOf (stAt 22)) (fnData (stAt 22) "bring_names" (Value.str (Str.ofString "markupmill.edits") 584) 339) :=
  ⟨⟨_, rfl, rfl⟩, rfl, rfl, rfl, rfl, rfl, by rfl, (fun vals h => by rcases vals with _ | ⟨a0, _ | ⟨a1, _ | ⟨a2, _ | ⟨b, r⟩⟩⟩⟩ <;> first | rfl | cases h), by decide, by rfl, by decide, rfl, rfl, rfl⟩
def st_copy_head : Option Stmt := stAt 20
def sc_copy_head : Scope := scopeIn (stAt 20)
theorem F_copy_head (P : Params) : FunIn (KK P) 328 ["tree", "node", "parent"] ["row", "found", "other", "known"] (scopeIn (stAt 20)) (bodyOf (stAt 20)) (fnData (stAt 20) "copy_head" (Value.str (Str.ofString "markupmill.edits") 584) 327) :=
  ⟨⟨_, rfl, rfl⟩, rfl, rfl, rfl, rfl, rfl, by rfl, (fun vals h => by rcases vals with _ | ⟨a0, _ | ⟨a1, _ | ⟨a2, _ | ⟨b, r⟩⟩⟩⟩ <;> first | rfl | cases h), by decide, by rfl, by decide, rfl, rfl, rfl⟩

/-- the name of XML's own namespace (a name, as the program has it) -/
def xmlU : Str := "http://www.w3.org/XML/1998/namespace"
/-- a walk over nothing -/
theorem over_nothing {i : Nat} {b : PT AF} {l : List (Option AV)} {h : HP} {Q : AF → AS → Prop} {D : Addr} (hd : h D = some (.list [])) (q : Q .next ⟨l, h⟩) : kFor i b Q (.ref D) ⟨l, h⟩ :=
  ⟨.list D [], rfl, ⟨hd, by simp⟩, fun _ σ' => σ' = ⟨l, h⟩, rfl, fun k σ' x hx => by simp [Src.items] at hx, fun σ' e => by subst e; exact ⟨hd, q⟩⟩
section
variable {prog : Program} {w : World} {base : Heap} {mg mb : Str → Option Value}

inductive IScope (as : List AV) (hp : HP) (Q : AV → HP → Prop) (E : HP → Prop) : Prop
  | mk (W : Wd) (i : Nat) (q : Rw) (h1 : St W hp) (h2 : as = [.ref W.x, nt i]) (h3 : OK W.rows) (h4 : W.rows.length ≤ 900) (h5 : W.rows[i]? = some q) (h6 : ∀ (D : Addr) (hp' : HP), St W hp' → Fw W hp W hp' → hp' D = some (.sdict [("xml", .str xmlU)]) → W.tag D = .no → Q (.ref D) hp')
def cScope : CPT := IScope
theorem C_scope_of (G : TopOK prog w base mg mb) : CallS prog w base 51 15 (.ref 74) cScope := by
  refine CodeS.call (fun_call (n := 14) G.X G.nolimit (F_scope_of w.params) (TB_cons (T_assign (At.s (At.s At.z)) (by decide) (T_dict1 T_cstr (T_glob G.toGC (by rfl) (by rfl) (by rfl)))) (TB_cons (T_for G.low (At.s (At.s (At.s At.z))) (by decide) (T_call G.X (by rfl) (T_glob G.toGC (by rfl) (by rfl) (by rfl)) (told_ref _) (TL_cons (T_loc At.z rfl rfl) (TL_cons (T_loc (At.s At.z) rfl rfl) TL_nil)) (C_lines_down G) (by decide)) (TB_cons (T_for G.low (At.s (At.s (At.s (At.s At.z)))) (by decide) (T_meth (CT := 282) (f := 258) G.X (by rfl) (by rfl) (by rfl) (by rfl) (T_loc At.z rfl rfl) (TL_cons (T_loc (At.s (At.s (At.s At.z))) rfl rfl) TL_nil) (C_m_namespaces G) (by decide)) T_dead) TB_nil)) (TB_cons (T_ret (T_loc (At.s (At.s At.z)) rfl rfl)) TB_nil))) ?_)
  intro as hp Q E ⟨W, i, q, S, e, K, hz, hq, h⟩
  subst e
  refine ⟨rfl, _, rfl, fun F hF => ?_⟩
  change hp F = none at hF
  have hx : ab (.str (Str.ofString "http://www.w3.org/XML/1998/namespace") 243) = .str xmlU := rfl
  obtain ⟨S0, f0⟩ := S.new hF (.sdict [("xml", .str xmlU)])
  have tF := S.fresh F hF
  refine ⟨_, rfl, _, rfl, W, some i, S0, rfl, K, hz, ⟨q, hq⟩, fun D l hp1 S1 f1 hD tD hl hv => ?_⟩
  have hF1 := f1.keep F _ (upd_self _ _ _) tF
  refine ⟨.list D (l.map nt), rfl, ⟨hD, by rw [List.length_map]; omega⟩, fun k σ' => ∃ (o3 o4 o5 o6 : Option AV) (hp' : HP), σ' = ⟨[some (.ref W.x), some (nt i), some (.ref F), o3, o4, o5, o6], hp'⟩ ∧ St W hp' ∧ Fw W hp W hp' ∧ hp' F = some (.sdict [("xml", .str xmlU)]) ∧ hp' D = some (.list (l.map nt)), ?_, ?_, ?_⟩
  · exact ⟨_, _, _, _, _, rfl, S1, f0.trans f1, hF1.1, hD⟩
  · rintro k σ' y hy ⟨o3, o4, o5, o6, hp', rfl, S', f', hF', hD'⟩
    refine ⟨hD', ?_⟩
    obtain ⟨j, hj, rfl⟩ := map_get hy
    obtain ⟨z, hz2⟩ := hv j (List.mem_of_getElem? hj)
    refine ⟨_, rfl, _, _, _, rfl, S'.x, S'.d, notRows (by decide), _, rfl, W, j, z, S', rfl, hz2, hz, by simp, fun D2 hD2 => ?_⟩
    obtain ⟨S2, f2⟩ := S'.new hD2 (.list [])
    refine over_nothing (upd_self _ _ _) ?_
    exact ⟨_, _, _, _, _, rfl, S2, f'.trans f2, (f2.keep F _ hF' tF).1, (f2.keep D _ hD' tD).1⟩
  · rintro σ' ⟨o3, o4, o5, o6, hp', rfl, S', f', hF', hD'⟩
    exact ⟨hD', _, rfl, h F hp' S' f' hF' tF⟩

inductive IBring (as : List AV) (hp : HP) (Q : AV → HP → Prop) (E : HP → Prop) : Prop
  | mk (W : Wd) (D : Addr) (i : Nat) (q : Rw) (h1 : St W hp) (h2 : as = [.ref W.x, .ref D, nt i]) (h3 : OK W.rows) (h4 : W.rows.length ≤ 900) (h5 : W.rows[i]? = some q) (h6 : hp D = some (.sdict [("xml", .str xmlU)])) (h7 : W.tag D = .no) (h8 : ∀ (hp' : HP), St W hp' → Fw W hp W hp' → Q .none hp')
def cBring : CPT := IBring
theorem C_bring_names (G : TopOK prog w base mg mb) : CallS prog w base 51 17 (.ref 340) cBring := by
  refine CodeS.call (fun_call (n := 16) G.X G.nolimit (F_bring_names w.params) (TB_cons (T_assign (At.s (At.s (At.s At.z))) (by decide) (T_call G.X (by rfl) (T_glob G.toGC (by rfl) (by rfl) (by rfl)) (told_ref _) (TL_cons (T_loc At.z rfl rfl) (TL_cons (T_loc (At.s (At.s At.z)) rfl rfl) TL_nil)) (C_scope_of G) (by decide))) (TB_cons (T_for G.low (At.s (At.s (At.s (At.s At.z)))) (by decide) (T_callB (T_bltn G.toGC (by rfl) Boot.«sorted» (by decide) (by rfl) (by rfl)) (TL_cons (T_loc (At.s At.z) rfl rfl) TL_nil) (O_sorted G.low).call (by decide)) (TB_cons (T_if (TT_cmp C_ne (by decide) (T_methB PySem.F.plainAttrs_dict PySem.F.slot_dict_get ty_get G_sdict (T_loc (At.s (At.s (At.s At.z))) rfl rfl) (TL_cons (T_loc (At.s (At.s (At.s (At.s At.z)))) rfl rfl) TL_nil) (O_get G.low).call (by decide)) (T_item (T_loc (At.s At.z) rfl rfl) (T_loc (At.s (At.s (At.s (At.s At.z)))) rfl rfl))) T_dead TB_nil) TB_nil)) (TB_cons (T_if (TT_bool (TA_and (TT_cmp (C_in G.low) (by decide) T_cstr (T_loc (At.s (At.s (At.s At.z))) rfl rfl)) (TA_and (TT_cmp (C_notIn G.low) (by decide) T_cstr (T_loc (At.s At.z) rfl rfl)) TA_andNil))) T_dead TB_nil) TB_nil))) ?_)
  intro as hp Q E ⟨W, D, i, q, S, e, K, hz, hq, hD, tD, h⟩
  subst e
  refine ⟨rfl, _, rfl, _, rfl, W, i, q, S, rfl, K, hz, hq, fun F hp1 S1 f1 hF tF => ?_⟩
  have hD1 := (f1.keep D _ hD tD).1
  refine ⟨_, rfl, D, rfl, .inr ⟨_, _, hD1, fun L hL => ?_⟩⟩
  obtain ⟨S2, f2⟩ := S1.new hL (.list [.str "xml"])
  have hD2 := (f2.keep D _ hD1 tD).1
  have hF2 := (f2.keep F _ hF tF).1
  refine ⟨.list L [.str "xml"], rfl, ⟨upd_self _ _ _, by simp⟩, fun k σ' => ∃ (o4 : Option AV), σ' = ⟨[some (.ref W.x), some (.ref D), some (nt i), some (.ref F), o4], upd hp1 L (.list [.str "xml"])⟩, ?_, ?_, ?_⟩
  · exact ⟨_, rfl⟩
  · rintro k σ' y hy ⟨o4, rfl⟩
    refine ⟨upd_self _ _ _, ?_⟩
    have : y = .str "xml" := by
      rcases k with _ | k <;> simp [Src.items] at hy
      exact hy.symm
    subst this
    refine ⟨_, rfl, ⟨_, _, rfl, hF2⟩, _, rfl, _, _, _, rfl, hF2, _, rfl, _, rfl, .str xmlU, ⟨_, hD2, rfl⟩, false, (decide_eq_true rfl).symm, false, rfl, nofun, fun _ => ?_⟩
    exact ⟨_, rfl⟩
  · rintro σ' ⟨o4, rfl⟩
    refine ⟨upd_self _ _ _, _, rfl, false, ⟨_, hF2, rfl⟩, false, rfl, nofun, fun _ => ⟨nofun, fun _ => ?_⟩⟩
    exact h _ S2 (f1.trans f2)

inductive IHead (as : List AV) (hp : HP) (Q : AV → HP → Prop) (E : HP → Prop) : Prop
  | mk (W : Wd) (i : Nat) (q : Rw) (p : Nat) (h1 : St W hp) (h2 : as = [.ref W.x, nt i, nt p]) (h3 : W.rows.length ≤ 800) (h4 : W.rows[i]? = some q) (h5 : OK W.rows) (h6 : (∃ qp : Rw, W.rows[p]? = some qp ∧ (qp.kind = ("root" : Str) ∨ qp.kind = ("element" : Str)))) (h7 : ∀ (q' : Rw) (hp' : HP), q'.kind = q.kind → q'.name = q.name → q'.uri = q.uri → q'.loc = q.loc → q'.val = q.val → q'.par = some p → q'.ch = [] → St (W.addChild q') hp' → Fw W hp (W.addChild q') hp' → Q (nt W.rows.length) hp')
def cHead : CPT := IHead
theorem add_old {rows : List Rw} {q : Rw} {i : Nat} {z : Rw} (h : rows[i]? = some z) : ∃ z' : Rw, (addR rows q)[i]? = some z' ∧ z'.r = z.r ∧ z'.d = z.d ∧ z'.a = z.a ∧ z'.n = z.n := by
  have hl : i < rows.length := (List.getElem?_eq_some_iff.mp h).1
  cases e : q.par with
  | none => rw [addR_none e, push_get, if_pos hl]; exact ⟨z, h, rfl, rfl, rfl, rfl⟩
  | some p =>
    cases hp : rows[p]? with
    | none =>
      have : addR rows q = rows ++ [q] := by unfold addR; rw [e]; simp only [hp]
      rw [this, push_get, if_pos hl]; exact ⟨z, h, rfl, rfl, rfl, rfl⟩
    | some qp =>
      rw [addR_get e hp]
      by_cases x : i = p
      · subst x; rw [hp] at h; cases h; rw [if_pos rfl]; exact ⟨_, rfl, rfl, rfl, rfl, rfl⟩
      · rw [if_neg x, if_pos hl]; exact ⟨z, h, rfl, rfl, rfl, rfl⟩
theorem C_copy_head (G : TopOK prog w base mg mb) : CallS prog w base 51 13 (.ref 328) cHead := by
  refine CodeS.call (fun_call (n := 12) G.X G.nolimit (F_copy_head w.params) (TB_cons (T_assign (At.s (At.s (At.s At.z))) (by decide) (T_meth (CT := 282) (f := 125) G.X (by rfl) (by rfl) (by rfl) (by rfl) (T_loc At.z rfl rfl) (TL_cons (T_loc (At.s At.z) rfl rfl) TL_nil) (C_m_row G) (by decide))) (TB_cons (T_assign (At.s (At.s (At.s (At.s At.z)))) (by decide) (T_meth (CT := 282) (f := 139) G.X (by rfl) (by rfl) (by rfl) (by rfl) (T_loc At.z rfl rfl) (TL_cons (T_loc (At.s (At.s At.z)) rfl rfl) (TL_cons (T_attr G.X (attr_kind _) (T_loc (At.s (At.s (At.s At.z))) rfl rfl)) (TL_cons (T_attr G.X (attr_name _) (T_loc (At.s (At.s (At.s At.z))) rfl rfl)) (TL_cons (T_attr G.X (attr_uri _) (T_loc (At.s (At.s (At.s At.z))) rfl rfl)) (TL_cons (T_attr G.X (attr_local _) (T_loc (At.s (At.s (At.s At.z))) rfl rfl)) (TL_cons (T_attr G.X (attr_value _) (T_loc (At.s (At.s (At.s At.z))) rfl rfl)) TL_nil)))))) (C_m_add_child G) (by decide))) (TB_cons (T_for G.low (At.s (At.s (At.s (At.s (At.s At.z))))) (by decide) (T_attr G.X (attr_namespaces _) (T_loc (At.s (At.s (At.s At.z))) rfl rfl)) T_dead) (TB_cons (T_for G.low (At.s (At.s (At.s (At.s (At.s At.z))))) (by decide) (T_attr G.X (attr_attributes _) (T_loc (At.s (At.s (At.s At.z))) rfl rfl)) T_dead) (TB_cons (T_ret (T_loc (At.s (At.s (At.s (At.s At.z)))) rfl rfl)) TB_nil))))) ?_)
  intro as hp Q E ⟨W, i, q, p, S, e, hz, hq, K, ⟨qp, hqp, hk⟩, h⟩
  subst e
  have R := S.row i q hq
  refine ⟨rfl, _, rfl, _, _, _, rfl, S.x, S.d, notRows (by decide), _, rfl, W, i, q, S, rfl, hq, by omega, ?_⟩
  refine ⟨_, rfl, _, _, _, rfl, S.x, S.d, notRows (by decide), _, rfl, _, rfl, _, _, _, _, rfl, R.r, R.d, rfl, rfl, _, rfl, _, _, _, _, rfl, R.r, R.d, rfl, rfl, _, rfl, _, _, _, _, rfl, R.r, R.d, rfl, rfl, _, rfl, _, _, _, _, rfl, R.r, R.d, rfl, rfl, _, rfl, _, _, _, _, rfl, R.r, R.d, rfl, rfl, ?_⟩
  refine ⟨W, some p, _, _, _, _, _, S, rfl, hz, fun p' e => ?_, fun q' hp' e1 e2 e3 e4 e5 e6 e7 S' f' => ?_⟩
  · cases e; exact ⟨qp, hqp, hk, Nat.le_trans (K.ch_len hqp) (by omega)⟩
  obtain ⟨z, hz', zr, zd, za, zn⟩ := add_old (q := q') hq
  have R' := S'.row i z (by rw [addChild_rows]; exact hz')
  have r1 : hp' q.r = some (.inst 93 z.d) := by rw [← zr]; exact R'.r
  have a1 := R'.a
  have n1 := R'.n
  refine ⟨_, rfl, _, _, _, _, rfl, r1, R'.d, rfl, rfl, over_nothing n1 ?_⟩
  refine ⟨_, rfl, _, _, _, _, rfl, r1, R'.d, rfl, rfl, over_nothing a1 ?_⟩
  exact ⟨_, rfl, h q' hp' e1 e2 e3 e4 e5 e6 e7 S' f'⟩
end
end Mine

end

section
open PySem PySem.W PyProof.Rows PySem.Calls
set_option Elab.async false
set_option maxRecDepth 100000
set_option linter.unusedVariables false
namespace Mine

/-- two rows of one head -/
structure Same (q z : Rw) : Prop where
  k : z.kind = q.kind
  n : z.name = q.name
  u : z.uri = q.uri
  l : z.loc = q.loc
  v : z.val = q.val
inductive F2 (R : Nat → Nat → Prop) : List Nat → List Nat → Prop
  | nil : F2 R [] []
  | cons {a b : Nat} {as bs : List Nat} : R a b → F2 R as bs → F2 R (a :: as) (b :: bs)
theorem F2.mono {R R' : Nat → Nat → Prop} (h : ∀ a b, R a b → R' a b) {as bs : List Nat} (x : F2 R as bs) : F2 R' as bs := by
  induction x with
  | nil => exact .nil
  | cons h1 _ ih => exact .cons (h _ _ h1) ih
theorem F2.snoc {R : Nat → Nat → Prop} {a b : Nat} (h : R a b) {as bs : List Nat} (x : F2 R as bs) : F2 R (as ++ [a]) (bs ++ [b]) := by
  induction x with
  | nil => exact .cons h .nil
  | cons h1 _ ih => exact .cons h1 ih

/-- copying under way -/
structure CP (rows : List Rw) (i p : Nat) (rows' : List Rw) (don pend : List (Nat × Nat)) : Prop where
  ok : OK rows'
  ln : rows'.length = rows.length + don.length
  old : ∀ j, j < rows.length → rows'[j]? = if j = p then (rows[p]?).map (fun qp => { qp with ch := qp.ch ++ [rows.length] }) else rows[j]?
  pr : ∀ o c, (o, c) ∈ don → rows.length ≤ c ∧ c < rows'.length ∧ ∃ (q z : Rw) (l1 l2 : List Nat), rows[o]? = some q ∧ rows'[c]? = some z ∧ Same q z ∧ q.ch = l1 ++ l2 ∧ F2 (fun a b => (a, b) ∈ don) l1 z.ch ∧ (pend.filter (fun e => e.2 == c)).map (·.1) = l2
  pe : ∀ h c, (h, c) ∈ pend → ∃ (o : Nat) (q : Rw), (o, c) ∈ don ∧ rows[o]? = some q ∧ h ∈ q.ch
  fr : Front rows i (don.map (·.1)) (pend.map (·.1))
  top : (i, rows.length) ∈ don ∧ ∃ z : Rw, rows'[rows.length]? = some z ∧ z.par = some p
  so : ∀ (j : Nat) (z : Rw), rows'[j]? = some z → SOK z

theorem SOK.same {q z : Rw} (h : SOK q) (s : Same q z) : SOK z := by
  unfold SOK at h ⊢
  rw [s.k, s.n, s.u, s.l, s.v]; exact h
theorem filter_self (l : List Nat) (c : Nat) : ((l.map fun x => (x, c)).filter fun e => e.2 == c).map (·.1) = l := by
  induction l with
  | nil => rfl
  | cons a l ih => rw [List.map_cons, List.filter_cons_of_pos (by simp), List.map_cons, ih]
theorem filter_other (l : List Nat) {c d : Nat} (h : d ≠ c) : ((l.map fun x => (x, d)).filter fun e => e.2 == c) = [] := by
  induction l with
  | nil => rfl
  | cons a l ih => rw [List.map_cons, List.filter_cons_of_neg (by simp; exact h), ih]
theorem Front.ne_root {rows : List Rw} (K : OK rows) {i : Nat} {don pend : List Nat} (F : Front rows i don pend) {q : Rw} (hq : rows[i]? = some q) (hk : q.kind ≠ ("root" : Str)) {x : Nat} (hx : x ∈ don ∨ x ∈ pend) {z : Rw} (hz : rows[x]? = some z) : z.kind ≠ ("root" : Str) := by
  rcases F.pa x hx with rfl | ⟨p, _, z', h1, h2⟩
  · rw [hq] at hz; cases hz; exact hk
  · rw [hz] at h1; cases h1
    intro e
    have := (K.kd x z hz).2.2 e
    rw [this] at h2; cases h2
theorem CP.start {rows : List Rw} (K : OK rows) (so : ∀ (j : Nat) (z : Rw), rows[j]? = some z → SOK z) {i p : Nat} {q qp q' : Rw} (hq : rows[i]? = some q) (hqp : rows[p]? = some qp) (hk : q.kind ≠ ("root" : Str)) (hkp : qp.kind ≠ ("text" : Str)) (hu : ¬ Up rows i (some p))
    (s : Same q q') (h1 : q'.par = some p) (h2 : q'.ch = []) : CP rows i p (addR rows q') [(i, rows.length)] (q.ch.map fun x => (x, rows.length)) := by
  have hnr : q'.kind ≠ ("root" : Str) := by rw [s.k]; exact hk
  have hi : i < rows.length := (List.getElem?_eq_some_iff.mp hq).1
  have hpl : p < rows.length := (List.getElem?_eq_some_iff.mp hqp).1
  have hnew : (addR rows q')[rows.length]? = some q' := by rw [addR_get h1 hqp, if_neg (by omega), if_neg (by omega), if_pos rfl]
  refine ⟨K.add h2 (by rw [s.k]; exact (K.kd i q hq).1) (fun e => absurd e hnr) fun p' e => ?_, by rw [addR_len]; rfl, fun j hj => ?_, fun o c hc => ?_, fun h c hc => ?_, ?_, ⟨.head _, q', hnew, h1⟩, fun j z hz => ?_⟩
  · rw [h1] at e; cases e; exact ⟨qp, hqp, hkp⟩
  · rw [addR_get h1 hqp]
    by_cases e : j = p
    · rw [if_pos e, if_pos e, hqp]; rfl
    · rw [if_neg e, if_neg e, if_pos hj]
  · rw [List.mem_singleton] at hc
    cases hc
    refine ⟨Nat.le_refl _, by rw [addR_len]; omega, q, q', [], q.ch, hq, hnew, s, rfl, by rw [h2]; exact .nil, filter_self _ _⟩
  · obtain ⟨x, hx, e⟩ := List.mem_map.mp hc
    cases e
    exact ⟨i, q, .head _, hq, hx⟩
  · have F := (Front.start hq).step K hq (K.nd i q hq) fun c hc => hc
    rw [List.append_nil] at F
    rw [List.map_map]
    have : ((fun x : Nat × Nat => x.1) ∘ fun x => (x, rows.length)) = id := rfl
    rw [this, List.map_id]
    exact F
  · rw [addR_get h1 hqp] at hz
    split at hz
    · cases hz
      have := so p qp hqp
      exact this
    · split at hz
      · exact so j z hz
      · split at hz
        · cases hz; exact (so i q hq).same s
        · cases hz
theorem CP.step {rows : List Rw} (K : OK rows) {i p : Nat} {q0 : Rw} (hq0 : rows[i]? = some q0) (hk0 : q0.kind ≠ ("root" : Str)) {rows' : List Rw} {don rest : List (Nat × Nat)} {h c : Nat} (C : CP rows i p rows' don ((h, c) :: rest)) {q q' : Rw} (hq : rows[h]? = some q) (hpl : p < rows.length)
    (s : Same q q') (h1 : q'.par = some c) (h2 : q'.ch = []) (hso : SOK q) : CP rows i p (addR rows' q') ((h, rows'.length) :: don) ((q.ch.map fun x => (x, rows'.length)) ++ rest) := by
  obtain ⟨o, qo, hoc, hqo, hho⟩ := C.pe h c (.head _)
  obtain ⟨hc1, hc2, qo', zc, l1, l2, g1, g2, g3, g4, g5, g6⟩ := C.pr o c hoc
  rw [hqo] at g1; cases g1
  have hnr : q'.kind ≠ ("root" : Str) := by
    rw [s.k]
    exact C.fr.ne_root K hq0 hk0 (.inr (.head _)) hq
  have hzc : zc.kind ≠ ("text" : Str) := fun e => by
    have := (K.kd o qo hqo).2.1 (by rw [← g3.k]; exact e)
    rw [this] at hho; cases hho
  have hnew : (addR rows' q')[rows'.length]? = some q' := by rw [addR_get h1 g2, if_neg (by omega), if_neg (by omega), if_pos rfl]
  have hln := C.ln
  refine ⟨C.ok.add h2 (by rw [s.k]; exact (K.kd h q hq).1) (fun e => absurd e hnr) fun p' e => ?_, by rw [addR_len, C.ln]; rfl, fun j hj => ?_, fun o' c' hc' => ?_, fun h' c' hc' => ?_, ?_, ⟨.tail _ C.top.1, ?_⟩, fun j z hz => ?_⟩
  · rw [h1] at e; cases e; exact ⟨zc, g2, hzc⟩
  · rw [addR_get h1 g2, if_neg (by omega), if_pos (by omega)]
    exact C.old j hj
  · rcases List.mem_cons.mp hc' with e | hc'
    · cases e
      refine ⟨by omega, by rw [addR_len]; omega, q, q', [], q.ch, hq, hnew, s, rfl, by rw [h2]; exact .nil, ?_⟩
      rw [List.filter_append, List.map_append, filter_self]
      have : rest.filter (fun e => e.2 == rows'.length) = [] := by
        rw [List.filter_eq_nil_iff]
        rintro ⟨a, b⟩ hab
        obtain ⟨o2, q2, x1, _⟩ := C.pe a b (.tail _ hab)
        have := (C.pr o2 b x1).2.1
        simp; omega
      rw [this]; simp
    · obtain ⟨k1, k2, qx, zx, m1, m2, x1, x2, x3, x4, x5, x6⟩ := C.pr o' c' hc'
      have mono : ∀ a b : Nat, (a, b) ∈ don → (a, b) ∈ (h, rows'.length) :: don := fun a b hab => .tail _ hab
      have hne : rows'.length ≠ c' := by omega
      refine ⟨k1, by rw [addR_len]; omega, ?_⟩
      by_cases e : c' = c
      · subst e
        rw [g2] at x2; cases x2
        rw [List.filter_cons_of_pos (by simp)] at x6
        cases m2 with
        | nil => simp at x6
        | cons y m2 =>
          simp only [List.map_cons, List.cons.injEq] at x6
          obtain ⟨y1, y2⟩ := x6
          subst y1
          refine ⟨qx, { zc with ch := zc.ch ++ [rows'.length] }, m1 ++ [h], m2, x1, by rw [addR_get h1 g2, if_pos rfl], ⟨x3.k, x3.n, x3.u, x3.l, x3.v⟩, by rw [x4]; simp, (x5.mono mono).snoc (.head _), ?_⟩
          rw [List.filter_append, filter_other _ hne, List.nil_append]
          exact y2
      · refine ⟨qx, zx, m1, m2, x1, by rw [addR_get h1 g2, if_neg e, if_pos k2]; exact x2, x3, x4, x5.mono mono, ?_⟩
        rw [List.filter_cons_of_neg (by simp; exact fun e' => e e'.symm)] at x6
        rw [List.filter_append, filter_other _ hne, List.nil_append]
        exact x6
  · rcases List.mem_append.mp hc' with hc' | hc'
    · obtain ⟨x, hx, e⟩ := List.mem_map.mp hc'
      cases e
      exact ⟨h, q, .head _, hq, hx⟩
    · obtain ⟨a, b, x1, x2⟩ := C.pe h' c' (.tail _ hc')
      exact ⟨a, b, .tail _ x1, x2⟩
  · have F := C.fr
    rw [List.map_cons] at F
    have F2 := F.step K hq (K.nd h q hq) fun c hc => hc
    rw [List.map_append, List.map_map]
    have : ((fun x : Nat × Nat => x.1) ∘ fun x => (x, rows'.length)) = id := rfl
    rw [this, List.map_id]
    exact F2
  · obtain ⟨z, z1, z2⟩ := C.top.2
    rw [addR_get h1 g2]
    by_cases e : rows.length = c
    · rw [if_pos e]
      rw [e] at z1
      rw [g2] at z1; cases z1
      exact ⟨_, rfl, z2⟩
    · rw [if_neg e, if_pos (by omega)]
      exact ⟨z, z1, z2⟩
  · rw [addR_get h1 g2] at hz
    split at hz
    · cases hz
      have := C.so c zc g2
      exact this
    · split at hz
      · exact C.so j z hz
      · split at hz
        · cases hz; exact hso.same s
        · cases hz
theorem CP.small {rows : List Rw} {i p : Nat} {rows' : List Rw} {don pend : List (Nat × Nat)} (C : CP rows i p rows' don pend) : don.length + pend.length ≤ rows.length := by
  have := C.fr.len
  rwa [List.length_map, List.length_map] at this
end Mine

end

section
open PySem PySem.W PyProof.Rows PySem.Calls
set_option Elab.async false
set_option maxRecDepth 100000
set_option linter.unusedVariables false
namespace Mine

theorem aGet_aPut {κ : Type} [DecidableEq κ] (es : List (κ × AV)) (k k' : κ) (v : AV) : aGet (aPut es k v) k' = if k' = k then some v else aGet es k' := by
  have gm : ∀ l : List (κ × AV), aGet (l.map fun p => if p.1 = k then (p.1, v) else p) k' = if k' = k then (if l.any (fun p => decide (p.1 = k)) then some v else none) else aGet l k' := by
    intro l
    induction l with
    | nil => simp [aGet]
    | cons a l ih =>
      unfold aGet at ih ⊢
      rw [List.map_cons, List.find?_cons, List.find?_cons]
      by_cases h1 : a.1 = k
      · rw [if_pos h1]
        by_cases h2 : k' = k
        · subst h2; simp [h1]
        · have : ¬ a.1 = k' := fun e => h2 (e.symm.trans h1)
          simp only [this, decide_false, if_neg h2]
          rw [ih, if_neg h2]
      · rw [if_neg h1]
        by_cases h2 : k' = k
        · subst h2
          simp only [h1, decide_false, List.any_cons, Bool.false_or]
          rw [ih, if_pos rfl]; simp
        · by_cases h3 : a.1 = k'
          · simp [h3, h2]
          · simp only [h3, decide_false, if_neg h2]
            rw [ih, if_neg h2]
  unfold aPut
  split
  · rename_i h
    rw [gm, if_pos h]
  · rename_i h
    unfold aGet
    rw [List.find?_append]
    by_cases h2 : k' = k
    · subst h2
      have : es.find? (fun p => decide (p.1 = k')) = none := by
        rw [List.find?_eq_none]
        intro x hx e
        exact h (List.any_eq_true.mpr ⟨x, hx, e⟩)
      rw [this]; simp
    · have : ¬ k = k' := fun e => h2 e.symm
      rw [if_neg h2]
      simp [this]

/-- pairs that stand as tuples -/
inductive TP (W : Wd) (hp : HP) : List Addr → List (Nat × Nat) → Prop
  | nil : TP W hp [] []
  | cons {a : Addr} {pr : Nat × Nat} {as : List Addr} {ps : List (Nat × Nat)} : hp a = some (.tup [nt pr.1, nt pr.2]) → W.tag a = .no → TP W hp as ps → TP W hp (a :: as) (pr :: ps)
theorem TP.len {W : Wd} {hp : HP} {as : List Addr} {ps : List (Nat × Nat)} (h : TP W hp as ps) : as.length = ps.length := by
  induction h with
  | nil => rfl
  | cons _ _ _ ih => simp [ih]
theorem TP.fw {W : Wd} {hp : HP} {W' : Wd} {hp' : HP} (f : Fw W hp W' hp') {as : List Addr} {ps : List (Nat × Nat)} (h : TP W hp as ps) : TP W' hp' as ps := by
  induction h with
  | nil => exact .nil
  | cons h1 h2 _ ih => exact .cons (f.keep _ _ h1 h2).1 (f.keep _ _ h1 h2).2 ih
theorem TP.upd {W : Wd} {hp : HP} {L : Addr} {xs : List AV} (hL : hp L = some (.list xs)) (o : AObj) {as : List Addr} {ps : List (Nat × Nat)} (h : TP W hp as ps) : TP W (upd hp L o) as ps := by
  induction h with
  | nil => exact .nil
  | cons h1 h2 _ ih => exact .cons (by rw [upd_other fun e => by rw [e, hL] at h1; cases h1]; exact h1) h2 ih
theorem TP.app {W : Wd} {hp : HP} {as bs : List Addr} {ps qs : List (Nat × Nat)} (h : TP W hp as ps) (g : TP W hp bs qs) : TP W hp (as ++ bs) (ps ++ qs) := by
  induction h with
  | nil => exact g
  | cons h1 h2 _ ih => exact .cons h1 h2 ih
theorem TP.last {W : Wd} {hp : HP} {as : List Addr} : ∀ {ps : List (Nat × Nat)} {pr : Nat × Nat}, TP W hp as (ps ++ [pr]) → ∃ bs T, as = bs ++ [T] ∧ TP W hp bs ps ∧ hp T = some (.tup [nt pr.1, nt pr.2]) ∧ W.tag T = .no
  | [], pr, h => by
    cases h with
    | cons h1 h2 h3 => cases h3; exact ⟨[], _, rfl, .nil, h1, h2⟩
  | p :: ps, pr, h => by
    cases h with
    | cons h1 h2 h3 =>
      obtain ⟨bs, T, rfl, g1, g2, g3⟩ := h3.last
      exact ⟨_ :: bs, T, rfl, .cons h1 h2 g1, g2, g3⟩
/-- [(child, c) for child in ..] -/
inductive PairsI (W : Wd) (hp1 : HP) (xs : List Nat) (c : Nat) (k : Nat) (outs : List AV) (hp' : HP) : Prop
  | mk (stk : List Addr) (e : outs = stk.map .ref) (S : St W hp') (f : Fw W hp1 W hp') (T : TP W hp' stk ((xs.take k).map fun x => (x, c)))
theorem pairs_inv {W : Wd} (loc : List (Option AV)) {hp1 : HP} {js : List Nat} {c : Nat} {L : Addr} {xs : List Nat} (hc : caps ⟨loc, hp1⟩ js = [some (nt c)]) (S : St W hp1) (hL : hp1 L = some (.list (xs.map nt))) (tL : W.tag L = .no) :
    ∃ I : Nat → List AV → HP → Prop, I 0 [] hp1 ∧ CompInv ⟨loc, hp1⟩ js (.list L (xs.map nt)) (vB true) (vOp oTup (vConsL (vLoc 0) (vConsL (vLoc 1) vNilL))) I ∧
      (∀ outs hp, I (Src.list L (xs.map nt)).items.length outs hp → hp L = some (.list (xs.map nt)) ∧ ∃ stk, outs = stk.map .ref ∧ St W hp ∧ Fw W hp1 W hp ∧ TP W hp stk (xs.map fun x => (x, c))) := by
  refine ⟨PairsI W hp1 xs c, ⟨[], rfl, S, .refl .., .nil⟩, ?_, ?_⟩
  · rintro k outs hp' y hy ⟨stk, rfl, S', f', T'⟩
    obtain ⟨x, hx, rfl⟩ := map_get hy
    refine ⟨(f'.keep L _ hL tL).1, rfl, nofun, fun _ => ?_⟩
    rw [hc]
    refine ⟨_, rfl, _, rfl, by simp, fun T hT => ?_⟩
    change hp' T = none at hT
    obtain ⟨S2, f2⟩ := S'.new hT (.tup [nt x, nt c])
    refine ⟨rfl, stk ++ [T], by simp, S2, f'.trans f2, ?_⟩
    rw [List.take_add_one, hx, List.map_append]
    exact (T'.fw f2).app (.cons (upd_self _ _ _) (S'.fresh T hT) .nil)
  · rintro outs hp' ⟨stk, rfl, S', f', T'⟩
    refine ⟨(f'.keep L _ hL tL).1, stk, rfl, S', f', ?_⟩
    have : (Src.list L (xs.map nt)).items.length = xs.length := by show (xs.map nt).length = _; rw [List.length_map]
    rw [this, List.take_length] at T'
    exact T'

def st_copy_into : Option Stmt := stAt 21
def sc_copy_into : Scope := scopeIn (stAt 21)
theorem F_copy_into (P : Params) : FunIn (KK P) 333 ["tree", "node", "parent"] ["kind", "row", "child", "inner", "found", "left", "here", "above", "copied"] (scopeIn (stAt 21)) (bodyOf (stAt 21)) (fnData (stAt 21) "copy_into" (Value.str (Str.ofString "markupmill.edits") 584) 332) :=
  ⟨⟨_, rfl, rfl⟩, rfl, rfl, rfl, rfl, rfl, by rfl, (fun vals h => by rcases vals with _ | ⟨a0, _ | ⟨a1, _ | ⟨a2, _ | ⟨b, r⟩⟩⟩⟩ <;> first | rfl | cases h), by decide, by rfl, by decide, rfl, rfl, rfl⟩
section
variable {prog : Program} {w : World} {base : Heap} {mg mb : Str → Option Value}

/-- the children that were there ahead of the copying -/
def Inn (W : Wd) (hp : HP) (tag : Addr → Tg) (es : List (Int × AV)) (i : Nat) (l : List Nat) (L : Option Addr) : Prop :=
  ∀ x z, (x = i ∨ x ∈ l) → W.rows[x]? = some z → ∃ D, aGet es (x : Int) = some (.ref D) ∧ hp D = some (.list (z.ch.map nt)) ∧ tag D = .no ∧ some D ≠ L
inductive ICopy (as : List AV) (hp : HP) (Q : AV → HP → Prop) (E : HP → Prop) : Prop
  | mk (W : Wd) (i p : Nat) (q qp : Rw) (h1 : St W hp) (h2 : as = [.ref W.x, nt i, nt p]) (h3 : OK W.rows) (h4 : W.rows.length ≤ 300) (h5 : W.rows[i]? = some q) (h6 : q.kind ≠ ("root" : Str)) (h7 : W.rows[p]? = some qp) (h8 : qp.kind ≠ ("text" : Str)) (h9 : ¬ Up W.rows i (some p)) (h10 : (∀ (j : Nat) (z : Rw), W.rows[j]? = some z → SOK z)) (h11 : ∀ (W' : Wd) (hp' : HP) (don : List (Nat × Nat)), CP W.rows i p W'.rows don [] → W'.ls = W.ls → W'.s0 = W.s0 → W'.s1 = W.s1 → St W' hp' → Fw W hp W' hp' → Q (nt W.rows.length) hp')
def cCopy : CPT := ICopy
structure CI (W : Wd) (hp : HP) (i p : Nat) (l : List Nat) (es : List (Int × AV)) (ep : Nat) (IN : Addr) (W' : Wd) (hp' : HP) (L : Addr) (stk : List Addr) (don pend : List (Nat × Nat)) : Prop where
  S : St W' hp'
  f : Fw W hp W' hp'
  C : CP W.rows i p W'.rows don pend
  hL : hp' L = some (.list (stk.map .ref))
  tL : W'.tag L = .no
  hL0 : hp L = none
  T : TP W' hp' stk pend.reverse
  hIN : hp' IN = some (.idict ep es)
  tIN : W'.tag IN = .no
  inn : Inn W hp' W'.tag es i l (some L)
  sub : ∀ o c, (o, c) ∈ don → o = i ∨ o ∈ l
  ls : W'.ls = W.ls
  s0 : W'.s0 = W.s0
  s1 : W'.s1 = W.s1
theorem Inn.fw {W W1 W2 : Wd} {hp1 hp2 : HP} (f : Fw W1 hp1 W2 hp2) {es : List (Int × AV)} {i : Nat} {l : List Nat} {L L' : Option Addr} (h : Inn W hp1 W1.tag es i l L) (hl : ∀ D o, hp1 D = some o → some D ≠ L → some D ≠ L') : Inn W hp2 W2.tag es i l L' := fun x z hx hz => by
  obtain ⟨D, d1, d2, d3, d4⟩ := h x z hx hz
  exact ⟨D, d1, (f.keep D _ d2 d3).1, (f.keep D _ d2 d3).2, hl D _ d2 d4⟩
theorem Inn.upd {W W1 : Wd} {hp1 : HP} {es : List (Int × AV)} {i : Nat} {l : List Nat} {L : Addr} (h : Inn W hp1 W1.tag es i l (some L)) (o : AObj) : Inn W (upd hp1 L o) W1.tag es i l (some L) := fun x z hx hz => by
  obtain ⟨D, d1, d2, d3, d4⟩ := h x z hx hz
  exact ⟨D, d1, by rw [upd_other fun e => d4 (by rw [e])]; exact d2, d3, d4⟩
inductive CopyI (W : Wd) (hp : HP) (i p : Nat) (q : Rw) (l : List Nat) (es : List (Int × AV)) (ep : Nat) (IN : Addr) (k : Nat) (σ : AS) : Prop
  | mk (W' : Wd) (hp' : HP) (L : Addr) (stk : List Addr) (don pend : List (Nat × Nat)) (o5 o9 o10 o11 : Option AV) (e : σ = ⟨[some (.ref W.x), some (nt i), some (nt p), some (.str q.kind), none, o5, some (.ref IN), some (nt W.rows.length), some (.ref L), o9, o10, o11], hp'⟩) (I : CI W hp i p l es ep IN W' hp' L stk don pend) (ek : k = W.rows.length - don.length)
structure InnI (W : Wd) (hp : HP) (i : Nat) (l : List Nat) (D3 : Addr) (k : Nat) (outs : List (Int × AV)) (hp' : HP) : Prop where
  S : St W hp'
  f : Fw W hp W hp'
  hD : hp' D3 = some (.list ((i :: l).map nt))
  ho : ∀ j x, j < k → (i :: l)[j]? = some x → ∀ z, W.rows[x]? = some z → ∃ D, aGet outs (x : Int) = some (.ref D) ∧ hp' D = some (.list (z.ch.map nt)) ∧ W.tag D = .no
theorem C_copy_into (G : TopOK prog w base mg mb) : CallS prog w base 51 19 (.ref 333) cCopy := by
  refine CodeS.call (fun_call (n := 18) G.X G.nolimit (F_copy_into w.params) (TB_cons (T_assign (At.s (At.s (At.s At.z))) (by decide) (T_meth (CT := 282) (f := 202) G.X (by rfl) (by rfl) (by rfl) (by rfl) (T_loc At.z rfl rfl) (TL_cons (T_loc (At.s At.z) rfl rfl) TL_nil) (C_m_kind G) (by decide))) (TB_cons (T_if (TT_cmp C_eq (by decide) (T_loc (At.s (At.s (At.s At.z))) rfl rfl) T_cstr) T_dead TB_nil) (TB_cons (T_if (TT_cmp C_eq (by decide) (T_loc (At.s (At.s (At.s At.z))) rfl rfl) T_cstr) T_dead TB_nil) (TB_cons (T_if (TT_cmp C_eq (by decide) (T_loc (At.s (At.s (At.s At.z))) rfl rfl) T_cstr) T_dead TB_nil) (TB_cons (T_dcompSet G.low (x := "one") (capt := ["tree"]) (js := [0]) ⟨by rfl, by rfl, by decide, by rfl, by rfl, by decide, (.cons At.z .nil), by rfl, by decide⟩ (At.s (At.s (At.s (At.s (At.s (At.s At.z)))))) (by decide) (T_bin O_add (by decide) (T_list (by decide) (TL_cons (T_loc (At.s At.z) rfl rfl) TL_nil)) (T_call G.X (by rfl) (T_glob G.toGC (by rfl) (by rfl) (by rfl)) (told_ref _) (TL_cons (T_loc At.z rfl rfl) (TL_cons (T_loc (At.s At.z) rfl rfl) TL_nil)) (C_beneath G) (by decide))) TI_nil (T_loc At.z rfl rfl) (T_meth (CT := 282) (f := 244) G.X (by rfl) (by rfl) (by rfl) (by rfl) (T_loc (At.s At.z) rfl rfl) (TL_cons (T_loc At.z rfl rfl) TL_nil) (C_m_children G) (by decide)) (fun env he => by (cases env; dsimp only at he; subst he; rfl))) (TB_cons (T_assign (At.s (At.s (At.s (At.s (At.s (At.s (At.s At.z))))))) (by decide) (T_call G.X (by rfl) (T_glob G.toGC (by rfl) (by rfl) (by rfl)) (told_ref _) (TL_cons (T_loc At.z rfl rfl) (TL_cons (T_loc (At.s At.z) rfl rfl) (TL_cons (T_loc (At.s (At.s At.z)) rfl rfl) TL_nil))) (C_copy_head G) (by decide))) (TB_cons (T_if (TT_cmp C_eq (by decide) (T_loc (At.s (At.s (At.s At.z))) rfl rfl) T_cstr) (TB_cons (T_expr (T_call G.X (by rfl) (T_glob G.toGC (by rfl) (by rfl) (by rfl)) (told_ref _) (TL_cons (T_loc At.z rfl rfl) (TL_cons (T_call G.X (by rfl) (T_glob G.toGC (by rfl) (by rfl) (by rfl)) (told_ref _) (TL_cons (T_loc At.z rfl rfl) (TL_cons (T_loc (At.s At.z) rfl rfl) TL_nil)) (C_scope_of G) (by decide)) (TL_cons (T_loc (At.s (At.s (At.s (At.s (At.s (At.s (At.s At.z))))))) rfl rfl) TL_nil))) (C_bring_names G) (by decide)) (fun _ => trivial)) TB_nil) TB_nil) (TB_cons (T_compSet G.low (x := "child") (capt := ["found"]) (js := [7]) ⟨by rfl, by rfl, by decide, by rfl, by rfl, by decide, (.cons (At.s (At.s (At.s (At.s (At.s (At.s (At.s At.z))))))) .nil), by rfl, by decide⟩ (At.s (At.s (At.s (At.s (At.s (At.s (At.s (At.s At.z)))))))) (by decide) (T_rev (T_item (T_loc (At.s (At.s (At.s (At.s (At.s (At.s At.z)))))) rfl rfl) (T_loc (At.s At.z) rfl rfl)) (T_neg T_cint)) TI_nil (T_tup (by decide) (TL_cons (T_loc At.z rfl rfl) (TL_cons (T_loc (At.s At.z) rfl rfl) TL_nil))) (fun env he => by (cases env; dsimp only at he; subst he; rfl))) (TB_cons (T_while (TT_cmp C_ne (by decide) (T_loc (At.s (At.s (At.s (At.s (At.s (At.s (At.s (At.s At.z)))))))) rfl rfl) (T_list (by decide) TL_nil)) (TB_cons (T_unp2 (At.s (At.s (At.s (At.s (At.s (At.s (At.s (At.s (At.s At.z))))))))) (At.s (At.s (At.s (At.s (At.s (At.s (At.s (At.s (At.s (At.s At.z)))))))))) (by decide) (by decide) (T_methB0 PySem.F.plainAttrs_list PySem.F.slot_list_pop ty_pop G_list (T_loc (At.s (At.s (At.s (At.s (At.s (At.s (At.s (At.s At.z)))))))) rfl rfl) O_pop.call (by decide))) (TB_cons (T_assign (At.s (At.s (At.s (At.s (At.s (At.s (At.s (At.s (At.s (At.s (At.s At.z))))))))))) (by decide) (T_call G.X (by rfl) (T_glob G.toGC (by rfl) (by rfl) (by rfl)) (told_ref _) (TL_cons (T_loc At.z rfl rfl) (TL_cons (T_loc (At.s (At.s (At.s (At.s (At.s (At.s (At.s (At.s (At.s At.z))))))))) rfl rfl) (TL_cons (T_loc (At.s (At.s (At.s (At.s (At.s (At.s (At.s (At.s (At.s (At.s At.z)))))))))) rfl rfl) TL_nil))) (C_copy_head G) (by decide))) (TB_cons (T_assign (At.s (At.s (At.s (At.s (At.s (At.s (At.s (At.s At.z)))))))) (by decide) (T_bin O_add (by decide) (T_loc (At.s (At.s (At.s (At.s (At.s (At.s (At.s (At.s At.z)))))))) rfl rfl) (T_comp G.low (x := "child") (capt := ["copied"]) (js := [11]) ⟨by rfl, by rfl, by decide, by rfl, by rfl, by decide, (.cons (At.s (At.s (At.s (At.s (At.s (At.s (At.s (At.s (At.s (At.s (At.s At.z))))))))))) .nil), by rfl, by decide⟩ (T_rev (T_item (T_loc (At.s (At.s (At.s (At.s (At.s (At.s At.z)))))) rfl rfl) (T_loc (At.s (At.s (At.s (At.s (At.s (At.s (At.s (At.s (At.s At.z))))))))) rfl rfl)) (T_neg T_cint)) TI_nil (T_tup (by decide) (TL_cons (T_loc At.z rfl rfl) (TL_cons (T_loc (At.s At.z) rfl rfl) TL_nil)))))) TB_nil)))) (TB_cons (T_ret (T_loc (At.s (At.s (At.s (At.s (At.s (At.s (At.s At.z))))))) rfl rfl)) TB_nil)))))))))) ?_)
  intro as hp Q E ⟨W, i, p, q, qp, S, e, K, hz, hq, hk, hqp, hkp, hu, hso, h⟩
  subst e
  have hk12 := kind_not K hq
  have hpl : p < W.rows.length := (List.getElem?_eq_some_iff.mp hqp).1
  refine ⟨rfl, _, rfl, _, _, _, rfl, S.x, S.d, notRows (by decide), _, rfl, W, i, q, S, rfl, hq, by omega, ?_⟩
  refine ⟨_, rfl, false, (decide_eq_false hk12.1).symm, false, rfl, nofun, fun _ => ?_⟩
  refine ⟨_, rfl, false, (decide_eq_false hk12.2).symm, false, rfl, nofun, fun _ => ?_⟩
  refine ⟨_, rfl, false, (decide_eq_false hk).symm, false, rfl, nofun, fun _ => ?_⟩
  -- inner
  refine ⟨_, rfl, by simp, fun D1 hD1 => ?_⟩
  change hp D1 = none at hD1
  obtain ⟨S1, f1⟩ := S.new hD1 (.list [nt i])
  refine ⟨_, rfl, _, rfl, W, i, q, S1, rfl, K, by omega, hq, fun D2 l hp2 S2 f2 hD2 tD2 hD20 hl hv hcl => ?_⟩
  have hD12 := (f2.keep D1 _ (upd_self _ _ _) (S.fresh D1 hD1)).1
  refine ⟨_, _, hD12, hD2, by simp; omega, fun D3 hD3 => ?_⟩
  obtain ⟨S3, f3⟩ := S2.new hD3 (.list ((i :: l).map nt))
  have tD3 := S2.fresh D3 hD3
  have f03 := (f1.trans f2).trans f3
  refine ⟨.list D3 ((i :: l).map nt), rfl, ⟨upd_self _ _ _, by simp; omega⟩, InnI W hp i l D3, ?_, ?_, ?_⟩
  · exact ⟨S3, f03, upd_self _ _ _, fun j x hj => absurd hj (Nat.not_lt_zero _)⟩
  · rintro k outs hp' y hy ⟨S', f', hD', ho⟩
    obtain ⟨x, hx, rfl⟩ := map_get hy
    refine ⟨hD', rfl, nofun, fun _ => ?_⟩
    obtain ⟨z, hxz⟩ : ∃ z : Rw, W.rows[x]? = some z := by
      rcases List.mem_cons.mp (List.mem_of_getElem? hx) with rfl | hm
      · exact ⟨q, hq⟩
      · exact hv x hm
    have hcz := K.ch_len hxz
    refine ⟨_, rfl, rfl, _, rfl, _, rfl, _, _, _, rfl, S'.x, S'.d, notRows (by decide), _, rfl, W, x, z, S', rfl, hxz, by omega, Nat.le_trans hcz (by omega), fun D hD => ?_⟩
    obtain ⟨S4, f4⟩ := S'.new hD (.list (z.ch.map nt))
    refine ⟨rfl, S4, f'.trans f4, (f4.keep D3 _ hD' tD3).1, fun j x' hj hx' z' hz' => ?_⟩
    rw [aGet_aPut]
    by_cases e : x' = x
    · subst e
      rw [if_pos rfl]
      rw [hxz] at hz'; cases hz'
      exact ⟨D, rfl, upd_self _ _ _, S'.fresh D hD⟩
    · rw [if_neg (by omega)]
      have : j ≠ k := fun e2 => by subst e2; rw [hx] at hx'; cases hx'; exact e rfl
      obtain ⟨D', d1, d2, d3⟩ := ho j x' (by omega) hx' z' hz'
      exact ⟨D', d1, (f4.keep D' _ d2 d3).1, d3⟩
  rintro es hp4 ⟨S4, f4, hD4, ho⟩
  refine ⟨hD4, fun IN ep hIN => ?_⟩
  change hp4 IN = none at hIN
  have hinn : Inn W hp4 W.tag es i l none := fun x z hx hz' => by
    have hm : x ∈ i :: l := hx.elim (fun e => e ▸ .head _) fun h => .tail _ h
    obtain ⟨j, hj⟩ := List.getElem?_of_mem hm
    have hjl : j < (Src.list D3 ((i :: l).map nt)).items.length := by
      show j < ((i :: l).map nt).length
      rw [List.length_map]; exact (List.getElem?_eq_some_iff.mp hj).1
    obtain ⟨D, d1, d2, d3⟩ := ho j x hjl hj z hz'
    exact ⟨D, d1, d2, d3, nofun⟩
  obtain ⟨S5, f5⟩ := S4.new hIN (.idict ep es)
  have tIN := S4.fresh IN hIN
  have f05 := f4.trans f5
  have hinn5 : Inn W (upd hp4 IN (.idict ep es)) W.tag es i l none := fun x z hx hz' => by
    obtain ⟨D, d1, d2, d3, d4⟩ := hinn x z hx hz'
    exact ⟨D, d1, (f5.keep D _ d2 d3).1, d3, d4⟩
  have kpe : qp.kind = ("root" : Str) ∨ qp.kind = ("element" : Str) := by
    rcases (K.kd p qp hqp).1 with e | e | e
    · exact .inl e
    · exact .inr e
    · exact absurd e hkp
  -- found
  refine ⟨_, rfl, _, rfl, _, rfl, W, i, q, p, S5, rfl, by omega, hq, K, ⟨qp, hqp, kpe⟩, fun q1 hp6 e1 e2 e3 e4 e5 e6 e7 S6 f6 => ?_⟩
  have C1 := CP.start K hso hq hqp hk hkp hu ⟨e1, e2, e3, e4, e5⟩ e6 e7
  rw [← addChild_rows] at C1
  obtain ⟨c1, c2, c3, c4, c5, c6⟩ := addChild_rest W q1
  have f06 := f05.trans f6
  have hIN6 := f6.keep IN _ (upd_self _ _ _) tIN
  have hinn6 : Inn W hp6 (W.addChild q1).tag es i l none := fun x z hx hz' => by
    obtain ⟨D, d1, d2, d3, d4⟩ := hinn5 x z hx hz'
    exact ⟨D, d1, (f6.keep D _ d2 d3).1, (f6.keep D _ d2 d3).2, d4⟩
  have hxM : ∃ z : Rw, (W.addChild q1).rows[W.rows.length]? = some z := C1.top.2.elim fun z hz => ⟨z, hz.1⟩
  have lnC := C1.ln
  have lnC' : (W.addChild q1).rows.length = W.rows.length + 1 := lnC
  apply mid (fun m : { hp7 : HP // St (W.addChild q1) hp7 ∧ Fw W hp (W.addChild q1) hp7 ∧ (hp7 IN = some (.idict ep es)) ∧ Inn W hp7 (W.addChild q1).tag es i l none } => ⟨[some (.ref W.x), some (nt i), some (nt p), some (.str q.kind), none, none, some (.ref IN), some (nt W.rows.length), none, none, none, none], m.1⟩)
  case use =>
    intro rest
    refine ⟨_, rfl, decide (q.kind = ("element" : Str)), rfl, _, rfl, fun e => ?_, fun e => ?_⟩
    · skip
      obtain ⟨zi, hzi⟩ : ∃ z : Rw, (W.addChild q1).rows[i]? = some z := by
        have hi : i < (W.addChild q1).rows.length := by rw [lnC']; have := (List.getElem?_eq_some_iff.mp hq).1; omega
        exact ⟨_, List.getElem?_eq_getElem hi⟩
      obtain ⟨zM, hzM⟩ := hxM
      refine ⟨_, rfl, _, rfl, _, rfl, W.addChild q1, i, zi, S6, by rw [f6.ex], C1.ok, by omega, hzi, fun D hp7 S7 f7 hD tD => ?_⟩
      refine ⟨_, rfl, W.addChild q1, D, W.rows.length, zM, S7, by rw [f6.ex], C1.ok, by omega, hzM, hD, tD, fun hp8 S8 f8 => ?_⟩
      have f78 := f7.trans f8
      have := rest ⟨hp8, S8, f06.trans f78, (f78.keep IN _ hIN6.1 hIN6.2).1, fun x z hx hz' => by
        obtain ⟨D', d1, d2, d3, d4⟩ := hinn6 x z hx hz'
        exact ⟨D', d1, (f78.keep D' _ d2 d3).1, d3, d4⟩⟩
      dsimp only [kHp, kDo, kSet, kSeq, vNil]
      exact this
    · exact rest ⟨hp6, S6, f06, hIN6.1, hinn6⟩
  case rest =>
    rintro ⟨hp7, S7, f7, hIN7, hinn7⟩
    have tIN7 := hIN6.2
    obtain ⟨D, d1, d2, d3, _⟩ := hinn7 i q (.inl rfl) hq
    have hcq := K.ch_len hq
    -- left
    refine ⟨_, rfl, _, rfl, .ref D, .inr ⟨_, _, hIN7, d1⟩, 1, rfl, D, _, rfl, rfl, d2, by rw [List.length_map]; omega, fun L1 hL1 => ?_⟩
    change hp7 L1 = none at hL1
    obtain ⟨S8, f8⟩ := S7.new hL1 (.list (q.ch.map nt).reverse)
    have tL1 := S7.fresh L1 hL1
    have hL8 : (upd hp7 L1 (.list (q.ch.map nt).reverse)) L1 = some (.list (q.ch.reverse.map nt)) := (upd_self _ _ _).trans (by rw [List.map_reverse])
    obtain ⟨I0, hI0, hI1, hI2⟩ := pairs_inv (W := W.addChild q1) (c := W.rows.length) (xs := q.ch.reverse) (js := [7]) [some (.ref W.x), some (nt i), some (nt p), some (.str q.kind), none, none, some (.ref IN), some (nt W.rows.length), none, none, none, none] rfl S8 hL8 tL1
    refine ⟨.list L1 (q.ch.reverse.map nt), rfl, ⟨hL8, by rw [List.length_map, List.length_reverse]; omega⟩, I0, hI0, hI1, fun outs hp9 hI3 => ?_⟩
    obtain ⟨hL9, stk, rfl, S9, f9', T9⟩ := hI2 outs hp9 hI3
    refine ⟨hL9, fun L hL => ?_⟩
    have f9 : Fw (W.addChild q1) (upd hp7 L1 (.list (q.ch.map nt).reverse)) (W.addChild q1) hp9 := f9'
    obtain ⟨S10, f10⟩ := S9.new hL (.list (stk.map .ref))
    have f70 := (f8.trans f9).trans f10
    have f00 := f7.trans f70
    have hIN0 := f70.keep IN _ hIN7 tIN7
    refine ⟨CopyI W hp i p q l es ep IN, _,
      ⟨W.addChild q1, _, L, stk, _, _, none, none, none, none, rfl, ⟨S10, f00, C1, upd_self _ _ _, S9.fresh L hL, ((f7.trans f8).trans f9).dom L hL, ?_, hIN0.1, hIN0.2, ?_, ?_, c1, c2, c3⟩, rfl⟩, ?_⟩
    · have := T9.fw f10
      rw [List.map_reverse] at this
      exact this
    · refine (Inn.fw (L' := none) (f8.trans f9) hinn7 fun D o hD _ e => by cases e).fw f10 (L := none) fun D o hD _ e => ?_
      cases e
      rw [hD] at hL; cases hL
    · intro o c hoc
      rw [List.mem_singleton] at hoc
      cases hoc; exact .inl rfl
    -- the loop
    rintro k σ' ⟨W', hp', L, stk, don, pend, o5, o9, o10, o11, rfl, I, rfl⟩
    have hsm := I.C.small
    have hlnI := I.C.ln
    refine ⟨_, rfl, by decide, fun D2 hD2 => ?_⟩
    change hp' D2 = none at hD2
    obtain ⟨S3, f3⟩ := I.S.new hD2 (.list [])
    have hL3 := f3.keep L _ I.hL I.tL
    have hTl := I.T.len
    rw [List.length_reverse] at hTl
    refine ⟨_, kNe_nil hL3.1 (upd_self _ _ _), _, rfl, fun e => ?_, fun e => ?_⟩
    · cases pend with
      | nil => 
        have : stk = [] := by cases stk with | nil => rfl | cons a b => simp at hTl
        subst this; simp at e
      | cons hd rest =>
        obtain ⟨hh, c⟩ := hd
        have hT3 := I.T.fw f3
        rw [List.reverse_cons] at hT3
        obtain ⟨stk0, T, rfl, hT4, hT5, tT5⟩ := hT3.last
        have hL4 : upd hp' D2 (.list []) L = some (.list (stk0.map .ref ++ [.ref T])) := by rw [hL3.1]; simp
        simp only [List.length_cons] at hsm
        have hl0 : stk0.length ≤ 300 := by simp at hTl; omega
        refine ⟨_, rfl, ⟨_, _, rfl, hL4⟩, L, .ref T, stk0.map .ref, rfl, hL4, by rw [List.length_map]; omega, ?_⟩
        have S4 := S3.temp I.tL (.list (stk0.map .ref))
        have f4 := (I.f.trans f3).temp I.hL0 (.list (stk0.map .ref))
        have hT6 : upd (upd hp' D2 (.list [])) L (.list (stk0.map .ref)) T = some (.tup [nt hh, nt c]) := by rw [upd_other fun e => by rw [e, hL4] at hT5; cases hT5]; exact hT5
        have hTP := hT4.upd hL4 (.list (stk0.map .ref))
        have hinn4 : Inn W (upd (upd hp' D2 (.list [])) L (.list (stk0.map .ref))) W'.tag es i l (some L) := (I.inn.fw f3 fun _ _ _ h => h).upd _
        have hIN4 : upd (upd hp' D2 (.list [])) L (.list (stk0.map .ref)) IN = some (.idict ep es) := by
          have := (f3.keep IN _ I.hIN I.tIN).1
          rw [upd_other fun e => by rw [e, hL4] at this; cases this]; exact this
        refine ⟨T, nt hh, nt c, rfl, hT6, ?_⟩
        obtain ⟨o, qo, hoc, hqo, hho⟩ := I.C.pe hh c (.head _)
        obtain ⟨g1, g2, qo', zc, l1, l2, g3, g4, g5, _, _, _⟩ := I.C.pr o c hoc
        rw [hqo] at g3; cases g3
        obtain ⟨qh, hqh⟩ := I.C.fr.vl hh (.inr (.head _))
        have hhl : hh < W.rows.length := (List.getElem?_eq_some_iff.mp hqh).1
        have hhp : hh ≠ p := fun e => hu (e ▸ I.C.fr.up hh (.inr (.head _)))
        have hqh' : W'.rows[hh]? = some qh := by rw [I.C.old hh hhl, if_neg hhp]; exact hqh
        have kzc : zc.kind = ("root" : Str) ∨ zc.kind = ("element" : Str) := by
          rcases (I.C.ok.kd c zc g4).1 with e | e | e
          · exact .inl e
          · exact .inr e
          · rw [(K.kd o qo hqo).2.1 (by rw [← g5.k]; exact e)] at hho; cases hho
        have hso' : SOK qh := hso hh qh hqh
        refine ⟨_, rfl, _, rfl, _, rfl, W', hh, qh, c, S4, by rw [f4.ex], by omega, hqh', I.C.ok, ⟨zc, g4, kzc⟩, fun q2 hp5 e1 e2 e3 e4 e5 e6 e7 S5 f5 => ?_⟩
        have C2 := I.C.step K hq hk hqh hpl ⟨e1, e2, e3, e4, e5⟩ e6 e7 hso'
        rw [← addChild_rows] at C2
        obtain ⟨x1, x2, x3, x4, x5, x6⟩ := addChild_rest W' q2
        have hinn5 : Inn W hp5 (W'.addChild q2).tag es i l (some L) := hinn4.fw f5 fun _ _ _ h => h
        have hIN5 := f5.keep IN _ hIN4 I.tIN
        have hTP5 := hTP.fw f5
        have hL5 := f5.keep L _ (upd_self _ _ _) I.tL
        have f05 := f4.trans f5
        have hol : o = i ∨ o ∈ l := I.sub o c hoc
        have hhl2 : hh ∈ l := hcl o qo hol hqo hh hho
        obtain ⟨D, d1, d2, d3, d4⟩ := hinn5 hh qh (.inr hhl2) hqh
        have hcqh := K.ch_len hqh
        refine ⟨_, rfl, _, rfl, _, rfl, .ref D, .inr ⟨_, _, hIN5.1, d1⟩, 1, rfl, D, _, rfl, rfl, d2, by rw [List.length_map]; omega, fun L1 hL1 => ?_⟩
        change hp5 L1 = none at hL1
        obtain ⟨S6, f6⟩ := S5.new hL1 (.list (qh.ch.map nt).reverse)
        have hL6 : (upd hp5 L1 (.list (qh.ch.map nt).reverse)) L1 = some (.list (qh.ch.reverse.map nt)) := (upd_self _ _ _).trans (by rw [List.map_reverse])
        obtain ⟨I0, hI0, hI1, hI2⟩ := pairs_inv (W := W'.addChild q2) (c := W'.rows.length) (xs := qh.ch.reverse) (js := [11]) [some (.ref W.x), some (nt i), some (nt p), some (.str q.kind), none, o5, some (.ref IN), some (nt W.rows.length), some (.ref L), some (nt hh), some (nt c), some (nt W'.rows.length)] rfl S6 hL6 (S5.fresh L1 hL1)
        refine ⟨.list L1 (qh.ch.reverse.map nt), rfl, ⟨hL6, by rw [List.length_map, List.length_reverse]; omega⟩, I0, hI0, hI1, fun outs hp7 hI3 => ?_⟩
        obtain ⟨hL7, stk2, rfl, S7, f7', T7⟩ := hI2 outs hp7 hI3
        refine ⟨hL7, fun L2 hL2 => ?_⟩
        have f7 : Fw (W'.addChild q2) (upd hp5 L1 (.list (qh.ch.map nt).reverse)) (W'.addChild q2) hp7 := f7'
        obtain ⟨S8, f8⟩ := S7.new hL2 (.list (stk2.map .ref))
        have f58 := (f6.trans f7).trans f8
        have hL8 := f58.keep L _ hL5.1 hL5.2
        have hl2 := T7.len
        rw [List.length_map, List.length_reverse] at hl2
        refine ⟨_, _, hL8.1, upd_self _ _ _, by rw [List.length_map, List.length_map]; omega, fun L3 hL3' => ?_⟩
        change upd hp7 L2 (.list (stk2.map .ref)) L3 = none at hL3'
        obtain ⟨S9, f9⟩ := S8.new hL3' (.list (stk0.map .ref ++ stk2.map .ref))
        have f59 := f58.trans f9
        have hIN9 := f59.keep IN _ hIN5.1 hIN5.2
        have hsm2 := C2.small
        simp only [List.length_cons] at hsm2
        refine ⟨W.rows.length - ((hh, W'.rows.length) :: don).length, by simp only [List.length_cons]; omega, W'.addChild q2, _, L3, stk0 ++ stk2, _, _, _, _, _, _, rfl, ⟨S9, f05.trans f59, C2, (upd_self _ _ _).trans (by rw [List.map_append]), S8.fresh L3 hL3', (f05.trans f58).dom L3 hL3', ?_, hIN9.1, hIN9.2, ?_, ?_, x1.trans I.ls, x2.trans I.s0, x3.trans I.s1⟩, rfl⟩
        · rw [List.reverse_append]
          refine (hTP5.fw f59).app ?_
          have := T7.fw (f8.trans f9)
          rw [List.map_reverse] at this
          exact this
        · refine (hinn5.fw f58 (L' := none) fun D o hD _ e => by cases e).fw f9 fun D o hD _ e => ?_
          cases e
          rw [hD] at hL3'; cases hL3'
        · intro o' c' hoc'
          rcases List.mem_cons.mp hoc' with e | hoc'
          · cases e; exact .inr hhl2
          · exact I.sub o' c' hoc'
    · cases pend with
      | cons hd rest => 
        have : stk = [] := by cases stk with | nil => rfl | cons a b => simp at e
        subst this; simp at hTl
      | nil => exact ⟨_, rfl, h W' _ don I.C I.ls I.s0 I.s1 S3 (I.f.trans f3)⟩
end
end Mine

end

section
open PySem PySem.W PyProof.Rows PySem.Calls
set_option Elab.async false
set_option maxRecDepth 100000
set_option linter.unusedVariables false
namespace Mine

def st_law_shape : Option Stmt := stAt 35
def sc_law_shape : Scope := scopeIn (stAt 35)
theorem F_law_shape (P : Params) : FunIn (KK P) 420 ["tree", "node"] ["beneath_here"] (scopeIn (stAt 35)) (bodyOf (stAt 35)) (fnData (stAt 35) "_law_shape" (Value.str (Str.ofString "law_nu0066_01") 678) 419) :=
  ⟨⟨_, rfl, rfl⟩, rfl, rfl, rfl, rfl, rfl, by rfl, (fun vals h => by rcases vals with _ | ⟨a0, _ | ⟨a1, _ | ⟨b, r⟩⟩⟩ <;> first | rfl | cases h), by decide, by rfl, by decide, rfl, rfl, rfl⟩
def st_law_text : Option Stmt := stAt 36
def sc_law_text : Scope := scopeIn (stAt 36)
theorem F_law_text (P : Params) : FunIn (KK P) 425 ["tree", "node"] [] (scopeIn (stAt 36)) (bodyOf (stAt 36)) (fnData (stAt 36) "_law_text" (Value.str (Str.ofString "law_nu0066_01") 678) 424) :=
  ⟨⟨_, rfl, rfl⟩, rfl, rfl, rfl, rfl, rfl, by rfl, (fun vals h => by rcases vals with _ | ⟨a0, _ | ⟨a1, _ | ⟨b, r⟩⟩⟩ <;> first | rfl | cases h), by decide, by rfl, by decide, rfl, rfl, rfl⟩

/-- not deeper than told -/
def HT (rows : List Rw) : Nat → Nat → Prop
  | 0, _ => False
  | k + 1, i => ∀ q : Rw, rows[i]? = some q → ∀ c ∈ q.ch, HT rows k c
theorem HT.succ {rows : List Rw} : ∀ {k i : Nat}, HT rows k i → HT rows (k + 1) i
  | 0, _, h => h.elim
  | k + 1, i, h => fun q hq c hc => (h q hq c hc).succ
theorem HT.le {rows : List Rw} {k m i : Nat} (h : HT rows k i) (hm : k ≤ m) : HT rows m i := by
  induction hm with
  | refl => exact h
  | step _ ih => exact ih.succ
theorem HT.path {rows : List Rw} (K : OK rows) : ∀ (k i : Nat) (P : List Nat) (q : Rw), rows[i]? = some q → P.Nodup → (∀ x ∈ P, x < rows.length ∧ Up rows x (some i) ∧ x ≠ i) → rows.length ≤ P.length + k → HT rows k i
  | 0, i, P, q, hq, hn, hP, hk => by
    have hi : i ∉ P := fun h => (hP i h).2.2 rfl
    have := nodup_le (l := i :: P) (n := rows.length) (List.nodup_cons.mpr ⟨hi, hn⟩) fun x hx => by
      rcases List.mem_cons.mp hx with rfl | hx
      · exact (List.getElem?_eq_some_iff.mp hq).1
      · exact (hP x hx).1
    simp at this; omega
  | k + 1, i, P, q, hq, hn, hP, hk => fun q' hq' c hc => by
    rw [hq] at hq'; cases hq'
    have hi : i ∉ P := fun h => (hP i h).2.2 rfl
    obtain ⟨z, hz, hzp⟩ := K.dn i q c hq hc
    have hic : Up rows i (some c) := up_child_of K hq hc
    have hnc : ∀ x, Up rows x (some i) → x ≠ c := fun x hx e => no_cycle K hz hzp (e ▸ hx)
    refine HT.path K k c (i :: P) z hz (List.nodup_cons.mpr ⟨hi, hn⟩) (fun x hx => ?_) (by simp; omega)
    rcases List.mem_cons.mp hx with rfl | hx
    · exact ⟨(List.getElem?_eq_some_iff.mp hq).1, hic, hnc _ .here⟩
    · exact ⟨(hP x hx).1, up_trans (hP x hx).2.1 hic, hnc _ (hP x hx).2.1⟩
theorem HT.all {rows : List Rw} (K : OK rows) {i m : Nat} {q : Rw} (hq : rows[i]? = some q) (hm : rows.length ≤ m) : HT rows m i :=
  (HT.path K rows.length i [] q hq List.nodup_nil (fun x hx => nomatch hx) (by simp)).le hm

/-- the shape of what is beneath -/
def shp (rows : List Rw) : Nat → Nat → PyData
  | 0, _ => .none
  | k + 1, i => match rows[i]? with
    | none => .none
    | some q => .tuple [.str q.kind, .str q.name, .str q.uri, .str q.loc, .str q.val, .list (q.ch.map (shp rows k))]
theorem shp_eq {rows : List Rw} {k i : Nat} {q : Rw} (h : rows[i]? = some q) : shp rows (k + 1) i = .tuple [.str q.kind, .str q.name, .str q.uri, .str q.loc, .str q.val, .list (q.ch.map (shp rows k))] := by
  show (match rows[i]? with | none => _ | some q => _) = _
  rw [h]
theorem shp_ok {rows : List Rw} (so : ∀ (j : Nat) (z : Rw), rows[j]? = some z → SOK z) : ∀ (k i : Nat), (shp rows k i).canLay0 = true ∧ (shp rows k i).depth ≤ 2 * k
  | 0, i => ⟨by simp [shp, PyData.canLay0], by simp [shp, PyData.depth]⟩
  | k + 1, i => by
    cases h : rows[i]? with
    | none =>
      have : shp rows (k + 1) i = .none := by show (match rows[i]? with | none => _ | some q => _) = _; rw [h]
      rw [this]; exact ⟨by simp [PyData.canLay0], by simp [PyData.depth]⟩
    | some q =>
      rw [shp_eq h]
      obtain ⟨s1, s2, s3, s4, s5, _⟩ := so i q h
      have hl : ∀ l : List Nat, PyData.canLayAll0 (l.map (shp rows k)) = true ∧ PyData.depthAll (l.map (shp rows k)) ≤ 2 * k := by
        intro l
        induction l with
        | nil => exact ⟨by simp [PyData.canLayAll0], by simp [PyData.depthAll]⟩
        | cons a l ih =>
          obtain ⟨x1, x2⟩ := shp_ok so k a
          refine ⟨by simp only [List.map_cons, PyData.canLayAll0, x1, ih.1, Bool.and_self], ?_⟩
          simp only [List.map_cons, PyData.depthAll]
          have := ih.2
          omega
      have s1' : PyData.strOk q.kind = true := s1
      have s2' : PyData.strOk q.name = true := s2
      have s3' : PyData.strOk q.uri = true := s3
      have s4' : PyData.strOk q.loc = true := s4
      have s5' : PyData.strOk q.val = true := s5
      have h1 := (hl q.ch).1
      have h2 := (hl q.ch).2
      refine ⟨by simp [PyData.canLay0, PyData.canLayAll0, s1, s2, s3, s4, s5, h1], ?_⟩
      simp only [PyData.depth, PyData.depthAll]
      omega

mutual
theorem DR.mono {hp hp' : HP} (H : ∀ a o, hp a = some o → hp' a = some o) : ∀ {x : AV} {d : PyData}, DR hp x d → DR hp' x d
  | _, _, .none => .none
  | _, _, .bool b => .bool b
  | _, _, .int i => .int i
  | _, _, .str x => .str x
  | _, _, .list h hs => .list (H _ _ h) (hs.mono H)
  | _, _, .tup h hs => .tup (H _ _ h) (hs.mono H)
theorem DRs.mono {hp hp' : HP} (H : ∀ a o, hp a = some o → hp' a = some o) : ∀ {xs : List AV} {ds : List PyData}, DRs hp xs ds → DRs hp' xs ds
  | _, _, .nil => .nil
  | _, _, .cons h hs => .cons (h.mono H) (hs.mono H)
end
theorem DRs.app {hp : HP} : ∀ {xs ys : List AV} {ds es : List PyData}, DRs hp xs ds → DRs hp ys es → DRs hp (xs ++ ys) (ds ++ es)
  | _, _, _, _, .nil, g => g
  | _, _, _, _, .cons h hs, g => .cons h (hs.app g)
/-- what is beside the world -/
def tmp (W : Wd) (hp : HP) : HP := fun a => if W.tag a = .no then hp a else none
theorem tmp_of {W : Wd} {hp : HP} {a : Addr} {o : AObj} (h : hp a = some o) (t : W.tag a = .no) : tmp W hp a = some o := by unfold tmp; rw [if_pos t]; exact h
theorem tmp_fw {W W' : Wd} {hp hp' : HP} (f : Fw W hp W' hp') (a : Addr) (o : AObj) (h : tmp W hp a = some o) : tmp W' hp' a = some o := by
  unfold tmp at h
  split at h
  · rename_i t
    have := f.keep a o h t
    exact tmp_of this.1 this.2
  · cases h
theorem tmp_sub {W : Wd} {hp : HP} (a : Addr) (o : AObj) (h : tmp W hp a = some o) : hp a = some o := by
  unfold tmp at h
  split at h
  · exact h
  · cases h

/-- the text of what is beneath -/
def txt (rows : List Rw) : Nat → Nat → List Nat
  | 0, _ => []
  | k + 1, i => match rows[i]? with
    | none => []
    | some q => q.val.cps.toList ++ (q.ch.map (txt rows k)).flatten
theorem txt_eq {rows : List Rw} {k i : Nat} {q : Rw} (h : rows[i]? = some q) : txt rows (k + 1) i = q.val.cps.toList ++ (q.ch.map (txt rows k)).flatten := by
  show (match rows[i]? with | none => _ | some q => _) = _
  rw [h]
def mkS (l : List Nat) : Str := ⟨l.toArray⟩
theorem mkS_app (x : Str) (l : List Nat) : x ++ mkS l = mkS (x.cps.toList ++ l) := by
  show Str.append x (mkS l) = _
  unfold Str.append mkS
  congr 1
  apply Array.toList_inj.mp; simp
theorem mkS_len (l : List Nat) : (mkS l).length = l.length := by unfold mkS Str.length; simp
theorem join_mk : ∀ ls : List (List Nat), Txt.join ("" : Str) (ls.map mkS) = mkS ls.flatten := by
  intro ls
  refine (StrLaws.glued_eq_join _ _).trans ?_
  induction ls with
  | nil => rfl
  | cons a r ih =>
    cases r with
    | nil => show mkS a = _; simp
    | cons b r =>
      show mkS a ++ ("" : Str) ++ Str.join ("" : Str) ((b :: r).map mkS) = _
      rw [ih]
      have e : mkS a ++ ("" : Str) = mkS a := by
        show Str.append _ _ = _
        unfold Str.append
        have : ("" : Str).cps = #[] := by rfl
        rw [this]; unfold mkS; simp
      rw [e, mkS_app]
      show mkS ((mkS a).cps.toList ++ _) = _
      unfold mkS
      simp

section
variable {prog : Program} {w : World} {base : Heap} {mg mb : Str → Option Value}

inductive IShape (k : Nat) (as : List AV) (hp : HP) (Q : AV → HP → Prop) (E : HP → Prop) : Prop
  | mk (W : Wd) (i : Nat) (q : Rw) (h1 : St W hp) (h2 : as = [.ref W.x, nt i]) (h3 : OK W.rows) (h4 : W.rows.length ≤ 900) (h5 : W.rows[i]? = some q) (h6 : HT W.rows k i) (h7 : ∀ (D : Addr) (hp' : HP), St W hp' → Fw W hp W hp' → DR (tmp W hp') (.ref D) (shp W.rows k i) → Q (.ref D) hp')
def cShape (k : Nat) : CPT := IShape k
theorem CallS.dead {n : Nat} {f : Value} {κ : CPT} (h : ∀ as hp Q E, ¬ κ as hp Q E) : CallS prog w base 51 n f κ := fun c σ s vs Q E ok S q => (h _ _ _ _ q).elim
structure ShI (W : Wd) (hp : HP) (D : Addr) (q : Rw) (k : Nat) (j : Nat) (outs : List AV) (hp' : HP) : Prop where
  S : St W hp'
  f : Fw W hp W hp'
  hD : hp' D = some (.list (q.ch.map nt))
  h : DRs (tmp W hp') outs ((q.ch.take j).map (shp W.rows k))
theorem C_law_shape_k (G : TopOK prog w base mg mb) : ∀ k : Nat, CallS prog w base 51 (12 + k) (.ref 420) (cShape k)
  | 0 => .dead fun as hp Q E ⟨W, i, q, S, e, K, hz, hq, ht, h⟩ => ht
  | k + 1 => by
    have ih := C_law_shape_k G k
    refine CodeS.call (fun_call (n := 12 + k) G.X G.nolimit (F_law_shape w.params) (TB_cons (T_compSet G.low (x := "child") (capt := ["tree"]) (js := [0]) ⟨by rfl, by rfl, by decide, by rfl, by rfl, by decide, (.cons At.z .nil), by rfl, by decide⟩ (At.s (At.s At.z)) (by first | decide | omega) (T_meth (CT := 282) (f := 244) G.X (by rfl) (by rfl) (by rfl) (by rfl) (T_loc At.z rfl rfl) (TL_cons (T_loc (At.s At.z) rfl rfl) TL_nil) (C_m_children G) (by first | decide | omega)) TI_nil (T_call G.X (by rfl) (T_glob G.toGC (by rfl) (by rfl) (by rfl)) (told_ref _) (TL_cons (T_loc (At.s At.z) rfl rfl) (TL_cons (T_loc At.z rfl rfl) TL_nil)) ih (by first | decide | omega)) (fun env he => by (cases env; dsimp only at he; subst he; rfl))) (TB_cons (T_ret (T_tup (by first | decide | omega) (TL_cons (T_meth (CT := 282) (f := 202) G.X (by rfl) (by rfl) (by rfl) (by rfl) (T_loc At.z rfl rfl) (TL_cons (T_loc (At.s At.z) rfl rfl) TL_nil) (C_m_kind G) (by first | decide | omega)) (TL_cons (T_meth (CT := 282) (f := 209) G.X (by rfl) (by rfl) (by rfl) (by rfl) (T_loc At.z rfl rfl) (TL_cons (T_loc (At.s At.z) rfl rfl) TL_nil) (C_m_name G) (by first | decide | omega)) (TL_cons (T_meth (CT := 282) (f := 216) G.X (by rfl) (by rfl) (by rfl) (by rfl) (T_loc At.z rfl rfl) (TL_cons (T_loc (At.s At.z) rfl rfl) TL_nil) (C_m_uri G) (by first | decide | omega)) (TL_cons (T_meth (CT := 282) (f := 223) G.X (by rfl) (by rfl) (by rfl) (by rfl) (T_loc At.z rfl rfl) (TL_cons (T_loc (At.s At.z) rfl rfl) TL_nil) (C_m_local G) (by first | decide | omega)) (TL_cons (T_meth (CT := 282) (f := 230) G.X (by rfl) (by rfl) (by rfl) (by rfl) (T_loc At.z rfl rfl) (TL_cons (T_loc (At.s At.z) rfl rfl) TL_nil) (C_m_value G) (by first | decide | omega)) (TL_cons (T_loc (At.s (At.s At.z)) rfl rfl) TL_nil)))))))) TB_nil)) ?_)
    intro as hp Q E ⟨W, i, q, S, e, K, hz, hq, ht, h⟩
    subst e
    have hcl := K.ch_len hq
    refine ⟨rfl, _, rfl, _, _, _, rfl, S.x, S.d, notRows (by decide), _, rfl, W, i, q, S, rfl, hq, hz, Nat.le_trans hcl hz, fun D hD => ?_⟩
    change hp D = none at hD
    obtain ⟨S1, f1⟩ := S.new hD (.list (q.ch.map nt))
    have tD := S.fresh D hD
    refine ⟨.list D (q.ch.map nt), rfl, ⟨upd_self _ _ _, by rw [List.length_map]; omega⟩, ShI W hp D q k, ⟨S1, f1, upd_self _ _ _, .nil⟩, ?_, ?_⟩
    · rintro j outs hp' y hy ⟨S', f', hD', hs⟩
      obtain ⟨x, hx, rfl⟩ := map_get hy
      have hxm := List.mem_of_getElem? hx
      obtain ⟨z, hzx, _⟩ := K.dn i q x hq hxm
      refine ⟨hD', rfl, nofun, fun _ => ?_⟩
      refine ⟨_, rfl, _, rfl, W, x, z, S', rfl, K, hz, hzx, ht q hq x hxm, fun D2 hp2 S2 f2 hdr => ⟨rfl, S2, f'.trans f2, (f2.keep D _ hD' tD).1, ?_⟩⟩
      rw [List.take_add_one, hx, List.map_append]
      exact (hs.mono (tmp_fw f2)).app (.cons hdr .nil)
    · rintro outs hp' ⟨S', f', hD', hs⟩
      have : (Src.list D (q.ch.map nt)).items.length = q.ch.length := by show (q.ch.map nt).length = _; rw [List.length_map]
      rw [this, List.take_length] at hs
      refine ⟨hD', fun B hB => ?_⟩
      change hp' B = none at hB
      obtain ⟨S2, f2⟩ := S'.new hB (.list outs)
      have tB := S'.fresh B hB
      refine ⟨_, rfl, _, _, _, rfl, S2.x, S2.d, notRows (by decide), _, rfl, W, i, q, S2, rfl, hq, hz, ?_⟩
      refine ⟨_, rfl, _, _, _, rfl, S2.x, S2.d, notRows (by decide), _, rfl, W, i, q, S2, rfl, hq, hz, ?_⟩
      refine ⟨_, rfl, _, _, _, rfl, S2.x, S2.d, notRows (by decide), _, rfl, W, i, q, S2, rfl, hq, hz, ?_⟩
      refine ⟨_, rfl, _, _, _, rfl, S2.x, S2.d, notRows (by decide), _, rfl, W, i, q, S2, rfl, hq, hz, ?_⟩
      refine ⟨_, rfl, _, _, _, rfl, S2.x, S2.d, notRows (by decide), _, rfl, W, i, q, S2, rfl, hq, hz, ?_⟩
      refine ⟨_, rfl, by simp, fun T hT => ?_⟩
      change upd hp' B (.list outs) T = none at hT
      obtain ⟨S3, f3⟩ := S2.new hT (.tup [.str q.kind, .str q.name, .str q.uri, .str q.loc, .str q.val, .ref B])
      refine h T _ S3 ((f'.trans f2).trans f3) ?_
      rw [shp_eq hq]
      refine .tup (tmp_of (upd_self _ _ _) (S2.fresh T hT)) (.cons (.str _) (.cons (.str _) (.cons (.str _) (.cons (.str _) (.cons (.str _) (.cons ?_ .nil))))))
      exact .list (tmp_fw f3 _ _ (tmp_of (upd_self _ _ _) tB)) (hs.mono (tmp_fw (f2.trans f3)))
inductive IText (k : Nat) (as : List AV) (hp : HP) (Q : AV → HP → Prop) (E : HP → Prop) : Prop
  | mk (W : Wd) (i : Nat) (q : Rw) (h1 : St W hp) (h2 : as = [.ref W.x, nt i]) (h3 : OK W.rows) (h4 : W.rows.length ≤ 900) (h5 : W.rows[i]? = some q) (h6 : HT W.rows k i) (h7 : (txt W.rows k i).length ≤ 50000) (h8 : ∀ (hp' : HP), St W hp' → Fw W hp W hp' → Q (.str (mkS (txt W.rows k i))) hp')
def cText (k : Nat) : CPT := IText k
theorem flat_le {ls : List (List Nat)} {a : List Nat} (h : a ∈ ls) : a.length ≤ ls.flatten.length := by
  induction ls with
  | nil => cases h
  | cons b r ih =>
    rw [List.flatten_cons, List.length_append]
    rcases List.mem_cons.mp h with rfl | h
    · omega
    · have := ih h; omega
structure TxI (W : Wd) (hp : HP) (D : Addr) (q : Rw) (k : Nat) (j : Nat) (outs : List AV) (hp' : HP) : Prop where
  S : St W hp'
  f : Fw W hp W hp'
  hD : hp' D = some (.list (q.ch.map nt))
  h : outs = ((q.ch.take j).map fun c => .str (mkS (txt W.rows k c)))
theorem C_law_text_k (G : TopOK prog w base mg mb) : ∀ k : Nat, CallS prog w base 51 (12 + k) (.ref 425) (cText k)
  | 0 => .dead fun as hp Q E ⟨W, i, q, S, e, K, hz, hq, ht, _, _⟩ => ht
  | k + 1 => by
    have ih := C_law_text_k G k
    refine CodeS.call (fun_call (n := 12 + k) G.X G.nolimit (F_law_text w.params) (TB_cons (T_ret (T_bin O_add (by first | decide | omega) (T_meth (CT := 282) (f := 230) G.X (by rfl) (by rfl) (by rfl) (by rfl) (T_loc At.z rfl rfl) (TL_cons (T_loc (At.s At.z) rfl rfl) TL_nil) (C_m_value G) (by first | decide | omega)) (T_methB PySem.F.plainAttrs_str PySem.F.slot_str_join ty_join G_str T_cstr (TL_cons (T_comp G.low (x := "child") (capt := ["tree"]) (js := [0]) ⟨by rfl, by rfl, by decide, by rfl, by rfl, by decide, (.cons At.z .nil), by rfl, by decide⟩ (T_meth (CT := 282) (f := 244) G.X (by rfl) (by rfl) (by rfl) (by rfl) (T_loc At.z rfl rfl) (TL_cons (T_loc (At.s At.z) rfl rfl) TL_nil) (C_m_children G) (by first | decide | omega)) TI_nil (T_call G.X (by rfl) (T_glob G.toGC (by rfl) (by rfl) (by rfl)) (told_ref _) (TL_cons (T_loc (At.s At.z) rfl rfl) (TL_cons (T_loc At.z rfl rfl) TL_nil)) ih (by first | decide | omega))) TL_nil) O_join.call (by first | decide | omega)))) TB_nil) ?_)
    intro as hp Q E ⟨W, i, q, S, e, K, hz, hq, ht, hl, h⟩
    subst e
    have hcl := K.ch_len hq
    rw [txt_eq hq] at hl h
    rw [List.length_append] at hl
    refine ⟨rfl, _, rfl, _, _, _, rfl, S.x, S.d, notRows (by decide), _, rfl, W, i, q, S, rfl, hq, hz, ⟨_, rfl⟩, _, rfl, _, _, _, rfl, S.x, S.d, notRows (by decide), _, rfl, W, i, q, S, rfl, hq, hz, Nat.le_trans hcl hz, fun D hD => ?_⟩
    change hp D = none at hD
    obtain ⟨S1, f1⟩ := S.new hD (.list (q.ch.map nt))
    have tD := S.fresh D hD
    refine ⟨.list D (q.ch.map nt), rfl, ⟨upd_self _ _ _, by rw [List.length_map]; omega⟩, TxI W hp D q k, ⟨S1, f1, upd_self _ _ _, rfl⟩, ?_, ?_⟩
    · rintro j outs hp' y hy ⟨S', f', hD', hs⟩
      obtain ⟨x, hx, rfl⟩ := map_get hy
      have hxm := List.mem_of_getElem? hx
      obtain ⟨z, hzx, _⟩ := K.dn i q x hq hxm
      have hb := flat_le (List.mem_map.mpr ⟨x, hxm, rfl⟩ : txt W.rows k x ∈ q.ch.map (txt W.rows k))
      refine ⟨hD', rfl, nofun, fun _ => ?_⟩
      refine ⟨_, rfl, _, rfl, W, x, z, S', rfl, K, hz, hzx, ht q hq x hxm, by omega, fun hp2 S2 f2 => ⟨rfl, S2, f'.trans f2, (f2.keep D _ hD' tD).1, ?_⟩⟩
      rw [List.take_add_one, hx, List.map_append, hs]; rfl
    · rintro outs hp' ⟨S', f', hD', hs⟩
      have : (Src.list D (q.ch.map nt)).items.length = q.ch.length := by show (q.ch.map nt).length = _; rw [List.length_map]
      rw [this, List.take_length] at hs
      refine ⟨hD', fun B hB => ?_⟩
      change hp' B = none at hB
      obtain ⟨S2, f2⟩ := S'.new hB (.list outs)
      have e1 : (((q.ch.map (txt W.rows k)).map mkS).map fun x : Str => x.length).sum = (q.ch.map (txt W.rows k)).flatten.length := by
        rw [List.length_flatten, List.map_map]
        congr 1
      refine ⟨("" : Str), B, (q.ch.map (txt W.rows k)).map mkS, rfl, ?_, ?_, ?_⟩
      · refine (upd_self _ _ _).trans ?_
        rw [hs, List.map_map, List.map_map]; rfl
      · have e2 : ("" : Str).length = 0 := by rfl
        rw [e1, e2]; omega
      · have e2 : q.val.length = q.val.cps.toList.length := by simp [Str.length]
        rw [join_mk]
        refine ⟨by rw [mkS_len, e2]; omega, ?_⟩
        rw [mkS_app]
        exact h _ S2 (f'.trans f2)
end
end Mine

end

section
open PySem PySem.W PyProof.Rows PySem.Calls
set_option Elab.async false
set_option maxRecDepth 100000
set_option linter.unusedVariables false
namespace Mine

theorem F2.map_eq {R : Nat → Nat → Prop} {α : Type} {f g : Nat → α} (h : ∀ a b, R a b → g b = f a) {as bs : List Nat} (x : F2 R as bs) : bs.map g = as.map f := by
  induction x with
  | nil => rfl
  | cons h1 _ ih => rw [List.map_cons, List.map_cons, h _ _ h1, ih]
/-- a copy has the shape of what it is of -/
theorem CP.shape {rows rows' : List Rw} {i p : Nat} {don : List (Nat × Nat)} (C : CP rows i p rows' don []) : ∀ k o c, (o, c) ∈ don → shp rows' k c = shp rows k o
  | 0, _, _, _ => rfl
  | k + 1, o, c, h => by
    obtain ⟨_, _, q, z, l1, l2, hq, hz, s, hch, hf, hp⟩ := C.pr o c h
    simp at hp
    subst hp
    rw [List.append_nil] at hch
    rw [shp_eq hq, shp_eq hz, s.k, s.n, s.u, s.l, s.v, hch, hf.map_eq (f := shp rows k) fun a b hab => C.shape k a b hab]
/-- the copy taken away: what stood, stands -/
theorem CP.back {rows rows' : List Rw} (K : OK rows) {i p : Nat} {don : List (Nat × Nat)} (C : CP rows i p rows' don []) {qp z qp' : Rw} (hqp : rows[p]? = some qp) (hz : rows'[rows.length]? = some z) (hp' : rows'[p]? = some qp') :
    ∀ j, j < rows.length → (rmR rows' rows.length z p qp')[j]? = rows[j]? := by
  intro j hj
  have hpl : p < rows.length := (List.getElem?_eq_some_iff.mp hqp).1
  rw [rm_get hz hp', if_neg (by omega)]
  have ho := C.old p hpl
  rw [if_pos rfl, hp', hqp] at ho
  injection ho with ho
  subst ho
  by_cases e : j = p
  · subst e
    rw [if_pos rfl, hqp]
    dsimp only
    have hn : rows.length ∉ qp.ch := fun h => absurd (K.ch_lt hqp _ h) (Nat.lt_irrefl _)
    rw [List.erase_append_right _ hn]
    simp
  · rw [if_neg e, C.old j hj, if_neg e]
theorem CP.sync {W W' : Wd} (L : LI W) {i p : Nat} {don : List (Nat × Nat)} (C : CP W.rows i p W'.rows don []) {qp z qp' : Rw} (hqp : W.rows[p]? = some qp) (hz : W'.rows[W.rows.length]? = some z) (hp' : W'.rows[p]? = some qp') (hl : W'.ls = W.ls) :
    Sync (W'.rows' (rmR W'.rows W.rows.length z p qp')) := by
  have B := C.back L.ok hqp hz hp'
  have hln := L.ln
  have lt : ∀ {k : Nat} {e : Addr × List Nat}, W.ls[k]? = some e → k < W.rows.length := fun h => by rw [← hln]; exact (List.getElem?_eq_some_iff.mp h).1
  refine ⟨?_, fun k e he => ?_, fun k q a hk hq ha => ?_⟩
  · show W'.ls.length ≤ (rmR W'.rows _ _ _ _).length
    rw [rm_len, hl, C.ln]; omega
  · change W'.ls[k]? = some e at he
    rw [hl] at he
    obtain ⟨q, h1, h2⟩ := L.sy.ch k e he
    exact ⟨q, (B k (lt he)).trans h1, h2⟩
  · change k < W'.ls.length at hk
    rw [hl, hln] at hk
    change (rmR W'.rows _ _ _ _)[k]? = some q at hq
    rw [B k hk] at hq
    show a < W'.ls.length
    rw [hl]
    exact L.sy.cl k q a (by rw [hln]; exact hk) hq ha
end Mine

end

section
open PySem PySem.W PyProof.Rows PySem.Calls
set_option Elab.async false
set_option maxRecDepth 100000
set_option linter.unusedVariables false
namespace Mine

def st_law_copied_right : Option Stmt := stAt 37
def sc_law_copied_right : Scope := scopeIn (stAt 37)
theorem F_law_copied_right (P : Params) : FunIn (KK P) 430 ["source", "tree", "lists"] ["node", "some", "parent", "due", "many", "copy"] (scopeIn (stAt 37)) (bodyOf (stAt 37)) (fnData (stAt 37) "_law_copied_right" (Value.str (Str.ofString "law_nu0066_01") 678) 429) :=
  ⟨⟨_, rfl, rfl⟩, rfl, rfl, rfl, rfl, rfl, by rfl, (fun vals h => by rcases vals with _ | ⟨a0, _ | ⟨a1, _ | ⟨a2, _ | ⟨b, r⟩⟩⟩⟩ <;> first | rfl | cases h), by decide, by rfl, by decide, rfl, rfl, rfl⟩
theorem ls_item {ld : Addr} {ep : Nat} {ls : List (Addr × List Nat)} {k : Nat} {y : AV} (hy : (Src.dict ld ep (lsFrom 0 ls)).items[k]? = some y) : k < ls.length ∧ y = nt k := by
  have hy' : ((lsFrom 0 ls).map fun p => AV.int p.1)[k]? = some y := hy
  have hk : k < ls.length := by
    have := (List.getElem?_eq_some_iff.mp hy').1
    rw [List.length_map, lsFrom_length] at this; exact this
  refine ⟨hk, ?_⟩
  have e2 : (lsFrom 0 ls).map (fun p => AV.int p.1) = ((lsFrom 0 ls).map (·.1)).map AV.int := by rw [List.map_map]; rfl
  rw [e2, lsFrom_keys, List.map_map] at hy'
  rw [List.getElem?_map, List.getElem?_range' hk] at hy'
  simp at hy'
  exact hy'.symm
theorem ls_items {ld : Addr} {ep : Nat} {ls : List (Addr × List Nat)} : (Src.dict ld ep (lsFrom 0 ls)).items.length = ls.length := by
  show ((lsFrom 0 ls).map _).length = _; rw [List.length_map, lsFrom_length]
theorem nopar {q : Rw} {p : Nat} {R : Prop} (h : q.par = some p) : q.par = none → R := fun e => by rw [h] at e; cases e
section
variable {prog : Program} {w : World} {base : Heap} {mg mb : Str → Option Value}

theorem C_law_shape (G : TopOK prog w base mg mb) : CallS prog w base 51 26 (.ref 420) (cShape 14) := C_law_shape_k G 14

inductive ICopied (as : List AV) (hp : HP) (Q : AV → HP → Prop) (E : HP → Prop) : Prop
  | mk (W : Wd) (h1 : St W hp) (h2 : as = [.ref W.sl, .ref W.x, .ref W.ld]) (h3 : LI W) (h4 : W.rows.length = 7) (h5 : ∀ (W' : Wd) (hp' : HP), OK W'.rows → Sync W' → W'.rows.length ≤ 14 → (∀ j, j < 7 → W'.rows[j]? = W.rows[j]?) → (∀ (j : Nat) (z : Rw), W'.rows[j]? = some z → SOK z) → St W' hp' → Fw W hp W' hp' → Q (.bool true) hp')
def cCopied : CPT := ICopied
inductive NodesI (W : Wd) (hp : HP) (k : Nat) (outs : List AV) (hp' : HP) : Prop
  | mk (e : hp' = hp) (l : List Nat) (eo : outs = l.map nt) (h1 : l.length ≤ k) (h2 : 2 ≤ k → l ≠ []) (h3 : ∀ x ∈ l, ∃ z : Rw, W.rows[x]? = some z ∧ z.kind ≠ ("root" : Str))
inductive SomeI (W : Wd) (a b : Int) (hp1 : HP) (i : Nat) (k : Nat) (outs : List AV) (hp' : HP) : Prop
  | mk (S : St (W.setS a b) hp') (f : Fw (W.setS a b) hp1 (W.setS a b) hp') (l : List Nat) (eo : outs = l.map nt) (h1 : l.length ≤ k) (h2 : 1 ≤ k → l ≠ []) (h3 : ∀ x ∈ l, ∃ z : Rw, W.rows[x]? = some z ∧ z.kind ≠ ("text" : Str) ∧ ¬ Up W.rows i (some x))
theorem C_law_copied_right (G : TopOK prog w base mg mb) : CallS prog w base 51 28 (.ref 430) cCopied := by
  refine CodeS.call (fun_call (n := 27) G.X G.nolimit (F_law_copied_right w.params) (TB_cons (T_assign (At.s (At.s (At.s At.z))) (by decide) (T_call G.X (by rfl) (T_glob G.toGC (by rfl) (by rfl) (by rfl)) (told_ref _) (TL_cons (T_loc At.z rfl rfl) (TL_cons (T_comp G.low (x := "one") (capt := ["tree"]) (js := [1]) ⟨by rfl, by rfl, by decide, by rfl, by rfl, by decide, (.cons (At.s At.z) .nil), by rfl, by decide⟩ (T_loc (At.s (At.s At.z)) rfl rfl) (TI_one (TT_cmp C_ne (by decide) (T_meth (CT := 282) (f := 202) G.X (by rfl) (by rfl) (by rfl) (by rfl) (T_loc (At.s At.z) rfl rfl) (TL_cons (T_loc At.z rfl rfl) TL_nil) (C_m_kind G) (by decide)) T_cstr)) (T_loc At.z rfl rfl)) TL_nil)) (C_law_one G) (by decide))) (TB_cons (T_compSet G.low (x := "one") (capt := ["tree", "lists", "node"]) (js := [1, 2, 3]) ⟨by rfl, by rfl, by decide, by rfl, by rfl, by decide, (.cons (At.s At.z) (.cons (At.s (At.s At.z)) (.cons (At.s (At.s (At.s At.z))) .nil))), by rfl, by decide⟩ (At.s (At.s (At.s (At.s At.z)))) (by decide) (T_loc (At.s (At.s At.z)) rfl rfl) (TI_one (TT_bool (TA_and (TT_cmp C_ne (by decide) (T_meth (CT := 282) (f := 202) G.X (by rfl) (by rfl) (by rfl) (by rfl) (T_loc (At.s At.z) rfl rfl) (TL_cons (T_loc At.z rfl rfl) TL_nil) (C_m_kind G) (by decide)) T_cstr) (TA_and (TT_not (TT_val (T_call G.X (by rfl) (T_glob G.toGC (by rfl) (by rfl) (by rfl)) (told_ref _) (TL_cons (T_loc (At.s (At.s At.z)) rfl rfl) (TL_cons (T_loc At.z rfl rfl) (TL_cons (T_loc (At.s (At.s (At.s At.z))) rfl rfl) TL_nil))) (C_law_is_beneath G) (by decide)))) TA_andNil)))) (T_loc At.z rfl rfl) (fun env he => by (cases env; dsimp only at he; subst he; rfl))) (TB_cons (T_assign (At.s (At.s (At.s (At.s (At.s At.z))))) (by decide) (T_call G.X (by rfl) (T_glob G.toGC (by rfl) (by rfl) (by rfl)) (told_ref _) (TL_cons (T_loc At.z rfl rfl) (TL_cons (T_loc (At.s (At.s (At.s (At.s At.z)))) rfl rfl) TL_nil)) (C_law_one G) (by decide))) (TB_cons (T_swp2 (At.s (At.s (At.s (At.s (At.s (At.s At.z)))))) (At.s (At.s (At.s (At.s (At.s (At.s (At.s At.z))))))) (by decide) (by decide) (T_tup (by decide) (TL_cons (T_call G.X (by rfl) (T_glob G.toGC (by rfl) (by rfl) (by rfl)) (told_ref _) (TL_cons (T_loc (At.s At.z) rfl rfl) (TL_cons (T_loc (At.s (At.s (At.s At.z))) rfl rfl) TL_nil)) (C_law_shape G) (by decide)) (TL_cons (T_callB (T_bltn G.toGC (by rfl) Boot.«len» (by decide) (by rfl) (by rfl)) (TL_cons (T_meth (CT := 282) (f := 244) G.X (by rfl) (by rfl) (by rfl) (by rfl) (T_loc (At.s At.z) rfl rfl) (TL_cons (T_loc (At.s (At.s (At.s (At.s (At.s At.z))))) rfl rfl) TL_nil) (C_m_children G) (by decide)) TL_nil) (O_len G.low).call (by decide)) TL_nil))) (fun env he => by (cases env; dsimp only at he; subst he; rfl))) (TB_cons (T_assign (At.s (At.s (At.s (At.s (At.s (At.s (At.s (At.s At.z)))))))) (by decide) (T_call G.X (by rfl) (T_glob G.toGC (by rfl) (by rfl) (by rfl)) (told_ref _) (TL_cons (T_loc (At.s At.z) rfl rfl) (TL_cons (T_loc (At.s (At.s (At.s At.z))) rfl rfl) (TL_cons (T_loc (At.s (At.s (At.s (At.s (At.s At.z))))) rfl rfl) TL_nil))) (C_copy_into G) (by decide))) (TB_cons (T_if (TT_bool (TA_or (TT_cmp (C_in G.low) (by decide) (T_loc (At.s (At.s (At.s (At.s (At.s (At.s (At.s (At.s At.z)))))))) rfl rfl) (T_loc (At.s (At.s At.z)) rfl rfl)) (TA_or (TT_cmp C_ne (by decide) (T_from (T_meth (CT := 282) (f := 244) G.X (by rfl) (by rfl) (by rfl) (by rfl) (T_loc (At.s At.z) rfl rfl) (TL_cons (T_loc (At.s (At.s (At.s (At.s (At.s At.z))))) rfl rfl) TL_nil) (C_m_children G) (by decide)) (T_loc (At.s (At.s (At.s (At.s (At.s (At.s (At.s At.z))))))) rfl rfl)) (T_list (by decide) (TL_cons (T_loc (At.s (At.s (At.s (At.s (At.s (At.s (At.s (At.s At.z)))))))) rfl rfl) TL_nil))) (TA_or (TT_cmp C_ne (by decide) (T_call G.X (by rfl) (T_glob G.toGC (by rfl) (by rfl) (by rfl)) (told_ref _) (TL_cons (T_loc (At.s At.z) rfl rfl) (TL_cons (T_loc (At.s (At.s (At.s (At.s (At.s (At.s (At.s (At.s At.z)))))))) rfl rfl) TL_nil)) (C_law_shape G) (by decide)) (T_loc (At.s (At.s (At.s (At.s (At.s (At.s At.z)))))) rfl rfl)) TA_orNil)))) (TB_cons (T_ret T_cbool) TB_nil) TB_nil) (TB_cons (T_expr (T_call G.X (by rfl) (T_glob G.toGC (by rfl) (by rfl) (by rfl)) (told_ref _) (TL_cons (T_loc (At.s At.z) rfl rfl) (TL_cons (T_loc (At.s (At.s (At.s (At.s (At.s (At.s (At.s (At.s At.z)))))))) rfl rfl) TL_nil)) (C_remove G) (by decide)) (fun _ => trivial)) (TB_cons (T_ret (T_call G.X (by rfl) (T_glob G.toGC (by rfl) (by rfl) (by rfl)) (told_ref _) (TL_cons (T_loc (At.s At.z) rfl rfl) (TL_cons (T_loc (At.s (At.s At.z)) rfl rfl) TL_nil)) (C_law_same G) (by decide))) TB_nil)))))))) ?_)
  intro as hp Q E ⟨W, S, e, L, hlen, h⟩
  subst e
  obtain ⟨q0, hq0, hk0⟩ := L.r0
  have hll : W.ls.length = 7 := L.ln.trans hlen
  have row : ∀ k, k < W.ls.length → ∃ q : Rw, W.rows[k]? = some q := fun k hk => ⟨_, List.getElem?_eq_getElem (by rw [← L.ln]; exact hk)⟩
  -- node
  refine ⟨rfl, _, rfl, _, rfl, .dict W.ld W.ep (lsFrom 0 W.ls), rfl, ⟨S.ld, by rw [lsFrom_length]; omega⟩, NodesI W hp, ⟨rfl, [], rfl, Nat.zero_le _, by omega, nofun⟩, ?_, ?_⟩
  · rintro k outs hp' y hy ⟨rfl, l, rfl, hl1, hl2, hl3⟩
    obtain ⟨hk, rfl⟩ := ls_item hy
    obtain ⟨q, hq⟩ := row k hk
    refine ⟨S.ld, ?_⟩
    refine ⟨_, rfl, _, _, _, rfl, S.x, S.d, notRows (by decide), _, rfl, W, k, q, S, rfl, hq, by omega, !decide (q.kind = ("root" : Str)), by simp, _, rfl, rfl, fun e => ⟨rfl, l, rfl, by omega, fun h2 => ?_, hl3⟩, fun e => ⟨_, rfl, rfl, rfl, l ++ [k], by rw [List.map_append]; rfl, by simp; omega, fun _ => by simp, fun x hx => ?_⟩⟩
    · by_cases h3 : 2 ≤ k
      · exact hl2 h3
      · have e' : q.kind = ("root" : Str) := by simpa using e
        have := L.nr k q hq e'
        omega
    · rcases List.mem_append.mp hx with hx | hx
      · exact hl3 x hx
      · rw [List.mem_singleton.mp hx]
        exact ⟨q, hq, by simpa using e⟩
  rintro outs hp' ⟨rfl, l, rfl, hl1, hl2, hl3⟩
  rw [ls_items, hll] at hl1 hl2
  refine ⟨S.ld, fun D hD => ?_⟩
  change hp' D = none at hD
  obtain ⟨S1, f1⟩ := S.new hD (.list (l.map nt))
  refine ⟨W, D, _, S1, rfl, upd_self _ _ _, S.fresh D hD, by simpa using hl2 (by omega), by rw [List.length_map]; omega, L.src, fun j x a b hp1 hx O1 S2 f2 => ?_⟩
  obtain ⟨i, hi, rfl⟩ := map_get hx
  obtain ⟨q, hq, hk⟩ := hl3 i (List.mem_of_getElem? hi)
  have L1 := L.setS O1
  have f02 := f1.trans f2
  have K := L.ok
  have hroot : ¬ Up W.rows i (some 0) := fun u => by
    rcases (up_some hq0).mp u with e | u
    · subst e; rw [hq0] at hq; cases hq; exact hk hk0
    · rw [(K.kd 0 q0 hq0).2.2 hk0] at u; exact up_none u
  -- some
  refine ⟨_, rfl, .dict W.ld W.ep (lsFrom 0 W.ls), rfl, ⟨S2.ld, by rw [lsFrom_length]; omega⟩, SomeI W a b hp1 i, ⟨S2, .refl .., [], rfl, Nat.zero_le _, by omega, nofun⟩, ?_, ?_⟩
  · rintro k outs hp2 y hy ⟨S3, f3, l2, rfl, hm1, hm2, hm3⟩
    obtain ⟨hk', rfl⟩ := ls_item hy
    obtain ⟨z, hz⟩ := row k hk'
    refine ⟨S3.ld, ?_⟩
    refine ⟨_, rfl, _, _, _, rfl, S3.x, S3.d, notRows (by decide), _, rfl, W.setS a b, k, z, S3, rfl, hz, ?_, !decide (z.kind = ("text" : Str)), by simp, _, rfl, fun e => ?_, fun e => ?_⟩
    · show W.rows.length ≤ 900
      omega
    · have hzk : z.kind ≠ ("text" : Str) := by simpa using e
      refine ⟨_, rfl, _, rfl, _, rfl, W.setS a b, some k, i, S3, rfl, K, L1.sy, ?_, fun j hj => by cases hj; exact hk', fun r hp3 hr S4 f4 => ⟨r, rfl, fun er => ⟨rfl, nofun, fun _ => ⟨_, rfl, rfl, S4, f3.trans f4, l2 ++ [k], by rw [List.map_append]; rfl, by simp; omega, fun _ => by simp, fun x hx => ?_⟩⟩, fun er => ⟨rfl, fun _ => ⟨S4, f3.trans f4, l2, rfl, by omega, fun h1 => ?_, hm3⟩, nofun⟩⟩⟩
      · show W.ls.length ≤ 900
        omega
      · rcases List.mem_append.mp hx with hx | hx
        · exact hm3 x hx
        · rw [List.mem_singleton.mp hx]
          exact ⟨z, hz, hzk, fun u => by rw [hr.mpr u] at er; cases er⟩
      · by_cases h0 : k = 0
        · subst h0
          have : r = true := by cases r with | true => rfl | false => cases er
          exact absurd (hr.mp this) hroot
        · exact hm2 (by omega)
    · refine ⟨rfl, fun _ => ⟨S3, f3, l2, rfl, by omega, fun h1 => ?_, hm3⟩, nofun⟩
      have hzk : z.kind = ("text" : Str) := by simpa using e
      by_cases h0 : k = 0
      · subst h0
        rw [hq0] at hz; cases hz
        rw [hk0] at hzk; exact absurd hzk (by decide)
      · exact hm2 (by omega)
  rintro outs hp2 ⟨S3, f3, l2, rfl, hm1, hm2, hm3⟩
  rw [ls_items, hll] at hm1 hm2
  refine ⟨S3.ld, fun D2 hD2 => ?_⟩
  change hp2 D2 = none at hD2
  obtain ⟨S4, f4⟩ := S3.new hD2 (.list (l2.map nt))
  -- parent
  refine ⟨_, rfl, _, rfl, W.setS a b, D2, _, S4, rfl, upd_self _ _ _, S3.fresh D2 hD2, by simpa using hm2 (by omega), by rw [List.length_map]; omega, O1, fun j2 x2 a2 b2 hp3 hx2 O2 S5 f5 => ?_⟩
  obtain ⟨p, hpi, rfl⟩ := map_get hx2
  obtain ⟨qp, hqp, hkp, hu⟩ := hm3 p (List.mem_of_getElem? hpi)
  have L2 := L1.setS O2
  have f05 := ((f02.trans f3).trans f4).trans f5
  have hch : qp.ch.length ≤ 7 := by rw [← hlen]; exact K.ch_len hqp
  -- due, many
  refine ⟨_, rfl, _, rfl, (W.setS a b).setS a2 b2, i, q, S5, rfl, K, ?_, hq, HT.all K hq ?_, fun D3 hp4 S6 f6 hdr => ?_⟩
  · show W.rows.length ≤ 900
    omega
  · show W.rows.length ≤ 14
    omega
  refine ⟨_, rfl, _, _, _, rfl, S6.x, S6.d, notRows (by decide), _, rfl, (W.setS a b).setS a2 b2, p, qp, S6, rfl, hqp, ?_, by show qp.ch.length ≤ 900; omega, fun D4 hD4 => ?_⟩
  · show W.rows.length ≤ 900
    omega
  change hp4 D4 = none at hD4
  obtain ⟨S7, f7⟩ := S6.new hD4 (.list (qp.ch.map nt))
  refine ⟨_, rfl, .inl ⟨_, upd_self _ _ _, by rw [List.length_map]; show qp.ch.length ≤ 1000; omega, ?_⟩⟩
  refine ⟨by simp, fun T hT => ?_⟩
  change upd hp4 D4 (.list (qp.ch.map nt)) T = none at hT
  obtain ⟨S8, f8⟩ := S7.new hT (.tup [.ref D3, .int ((qp.ch.map nt).length : Int)])
  refine ⟨T, _, _, rfl, upd_self _ _ _, ?_⟩
  -- copy
  refine ⟨_, rfl, _, rfl, _, rfl, (W.setS a b).setS a2 b2, i, p, q, qp, S8, rfl, K, ?_, hq, hk, hqp, hkp, hu, L.so, fun W3 hp5 don C h1 h2 h3 S9 f9 => ?_⟩
  · show W.rows.length ≤ 300
    omega
  have f09 := ((((f05.trans f6).trans f7).trans f8).trans f9)
  have hrl : ((W.setS a b).setS a2 b2).rows.length = 7 := hlen
  change CP W.rows i p W3.rows don [] at C
  change W3.ls = W.ls at h1
  have hsm := C.small
  have hln3 := C.ln
  simp at hsm
  have hld := S9.ld
  rw [f09.eld] at hld
  refine ⟨_, rfl, _, rfl, false, .inl ⟨_, _, hld, ?_⟩, _, rfl, nofun, fun _ => ?_⟩
  · rw [lsFrom_keys, h1, hll]
    symm
    rw [decide_eq_false_iff_not]
    intro hm
    obtain ⟨n, hn, e⟩ := List.mem_map.mp hm
    rw [List.mem_range'_1] at hn
    have e' : (n : Int) = ((W.rows.length : Nat) : Int) := e
    rw [hlen] at e'
    omega
  -- the children behind
  have hp3 : W3.rows[p]? = some { qp with ch := qp.ch ++ [W.rows.length] } := by
    rw [C.old p (List.getElem?_eq_some_iff.mp hqp).1, if_pos rfl, hqp]; rfl
  obtain ⟨_, z, hz, hzp⟩ := C.top
  have hx3 : W3.x = W.x := f09.ex
  refine ⟨_, rfl, _, _, _, rfl, by rw [← hx3]; exact S9.x, S9.d, notRows (by decide), _, rfl, W3, p, _, S9, by rw [hx3], hp3, by omega, by simp; omega, fun D5 hD5 => ?_⟩
  change hp5 D5 = none at hD5
  obtain ⟨S10, f10⟩ := S9.new hD5 (.list ((qp.ch ++ [W.rows.length]).map nt))
  refine ⟨_, rfl, D5, _, _, rfl, rfl, by omega, upd_self _ _ _, by simp; omega, fun D6 hD6 => ?_⟩
  change upd hp5 D5 (.list ((qp.ch ++ [W.rows.length]).map nt)) D6 = none at hD6
  have edrop : ((qp.ch ++ [W.rows.length]).map nt).drop ((qp.ch.map nt).length : Int).toNat = [W.rows.length].map nt := by
    rw [Int.toNat_natCast, List.map_append, List.drop_append_of_le_length (Nat.le_refl _), List.drop_length]; rfl
  rw [edrop]
  obtain ⟨S11, f11⟩ := S10.new hD6 (.list ([W.rows.length].map nt))
  refine ⟨_, rfl, by simp, fun D7 hD7 => ?_⟩
  change upd (upd hp5 D5 (.list ((qp.ch ++ [W.rows.length]).map nt))) D6 (.list ([W.rows.length].map nt)) D7 = none at hD7
  obtain ⟨S12, f12⟩ := S11.new hD7 (.list ([W.rows.length].map nt))
  have hD67 := (upd_fresh hD7).1
  refine ⟨false, eqInts _ ((upd_other (Ne.symm hD67)).trans (upd_self _ _ _)) (upd_self _ _ _), _, rfl, nofun, fun _ => ?_⟩
  -- the shapes
  have hmem := C.top.1
  refine ⟨_, rfl, _, rfl, W3, W.rows.length, z, S12, by rw [hx3]; rfl, C.ok, by omega, hz, HT.all C.ok hz (by omega), fun D8 hp6 S13 f13 hdr2 => ?_⟩
  have fD3 := ((((((f7.trans f8).trans f9).trans f10).trans f11).trans f12).trans f13)
  have hdr' := (hdr.mono (tmp_fw fD3)).mono tmp_sub
  have hdr2' := hdr2.mono tmp_sub
  rw [C.shape 14 i W.rows.length hmem] at hdr2'
  obtain ⟨g1, g2⟩ := shp_ok L.so 14 i
  refine ⟨_, rfl, false, .inr ⟨_, _, hdr2', hdr', g1, g1, by omega, (PySem.SeqAt.eqv_refl _ g1).symm⟩, _, rfl, nofun, fun _ => ⟨nofun, fun _ => ?_⟩⟩
  -- remove
  refine ⟨_, rfl, _, rfl, W3, W.rows.length, z, S13, by rw [hx3]; rfl, by omega, C.ok, hz, nopar hzp, fun p' qp' hp7 e1 e2 S14 f14 => ?_⟩
  rw [hzp] at e1; cases e1
  have hB := C.back K hqp hz e2
  -- same
  refine ⟨_, rfl, _, rfl, W3.rows' (rmR W3.rows W.rows.length z p qp'), S14, ?_, C.ok.rm hz hzp e2, C.sync L hqp hz e2 h1, ?_, fun hp8 S15 f15 => ?_⟩
  · show [AV.ref W.x, AV.ref W.ld] = [AV.ref W3.x, AV.ref W3.ld]
    rw [hx3, f09.eld]
  · show (rmR _ _ _ _ _).length ≤ 900
    rw [rm_len]; omega
  have f10' := ((((f10.trans f11).trans f12).trans f13).trans f14).trans f15
  refine h _ hp8 (C.ok.rm hz hzp e2) (C.sync L hqp hz e2 h1) ?_ (fun j hj => hB j (by omega)) (fun j zz hj => ?_) S15 (f09.trans f10')
  · show (rmR _ _ _ _ _).length ≤ 14
    rw [rm_len]; omega
  · obtain ⟨z0, x1, x2, x3, x4, x5, x6⟩ := (heads_rm hz e2).2 j zz hj
    exact (C.so j z0 x1).same ⟨x2, x3, x4, x5, x6⟩
end
end Mine

end

section
open PySem PySem.W PyProof.Rows PySem.Calls
set_option Elab.async false
set_option maxRecDepth 100000
set_option linter.unusedVariables false
namespace Mine

/-! how long the text is -/
theorem up_two {rows : List Rw} {a b : Nat} : ∀ {o : Option Nat}, Up rows a o → Up rows b o → Up rows a (some b) ∨ Up rows b (some a) := by
  intro o h
  induction h with
  | here => exact fun h2 => .inr h2
  | @step x q hq u ih =>
    intro h2
    rcases (up_some hq).mp h2 with e | h2
    · subst e; exact .inl (.step hq u)
    · exact ih h2
theorem up_sib {rows : List Rw} (K : OK rows) {i c d : Nat} {zc zd : Rw} (hc : rows[c]? = some zc) (hcp : zc.par = some i) (hd : rows[d]? = some zd) (hdp : zd.par = some i) (u : Up rows c (some d)) : c = d := by
  rcases (up_some hd).mp u with e | u
  · exact e.symm
  · rw [hdp] at u; exact absurd u (no_cycle K hc hcp)
def pre (rows : List Rw) : Nat → Nat → List Nat
  | 0, _ => []
  | k + 1, i => match rows[i]? with
    | none => []
    | some q => i :: (q.ch.map (pre rows k)).flatten
theorem pre_eq {rows : List Rw} {k i : Nat} {q : Rw} (h : rows[i]? = some q) : pre rows (k + 1) i = i :: (q.ch.map (pre rows k)).flatten := by
  show (match rows[i]? with | none => _ | some q => _) = _
  rw [h]
theorem pre_mem {rows : List Rw} (K : OK rows) : ∀ (k i x : Nat), x ∈ pre rows k i → Up rows i (some x) ∧ x < rows.length
  | 0, _, _, h => nomatch h
  | k + 1, i, x, h => by
    cases hq : rows[i]? with
    | none =>
      have : pre rows (k + 1) i = [] := by show (match rows[i]? with | none => _ | some q => _) = _; rw [hq]
      rw [this] at h; cases h
    | some q =>
      rw [pre_eq hq] at h
      rcases List.mem_cons.mp h with rfl | h
      · exact ⟨.here, (List.getElem?_eq_some_iff.mp hq).1⟩
      · obtain ⟨l, hl, hx⟩ := List.mem_flatten.mp h
        obtain ⟨c, hc, rfl⟩ := List.mem_map.mp hl
        obtain ⟨u, hlt⟩ := pre_mem K k c x hx
        exact ⟨up_trans (up_child_of K hq hc) u, hlt⟩
theorem pre_nodup {rows : List Rw} (K : OK rows) : ∀ (k i : Nat), (pre rows k i).Nodup
  | 0, _ => List.nodup_nil
  | k + 1, i => by
    cases hq : rows[i]? with
    | none =>
      have : pre rows (k + 1) i = [] := by show (match rows[i]? with | none => _ | some q => _) = _; rw [hq]
      rw [this]; exact List.nodup_nil
    | some q =>
      rw [pre_eq hq, List.nodup_cons]
      refine ⟨fun h => ?_, ?_⟩
      · obtain ⟨l, hl, hx⟩ := List.mem_flatten.mp h
        obtain ⟨c, hc, rfl⟩ := List.mem_map.mp hl
        obtain ⟨z, hz, hzp⟩ := K.dn i q c hq hc
        exact no_cycle K hz hzp (pre_mem K k c i hx).1
      · have sub : ∀ l : List Nat, l.Nodup → (∀ c ∈ l, c ∈ q.ch) → ((l.map (pre rows k)).flatten).Nodup := by
          intro l
          induction l with
          | nil => intro _ _; exact List.nodup_nil
          | cons c l ih =>
            intro hn hm
            rw [List.map_cons, List.flatten_cons, List.nodup_append]
            rw [List.nodup_cons] at hn
            refine ⟨pre_nodup K k c, ih hn.2 fun d hd => hm d (.tail _ hd), fun x hx y hy e => ?_⟩
            subst e
            obtain ⟨l', hl, hx'⟩ := List.mem_flatten.mp hy
            obtain ⟨d, hd, rfl⟩ := List.mem_map.mp hl
            obtain ⟨zc, hzc, hcp⟩ := K.dn i q c hq (hm c (.head _))
            obtain ⟨zd, hzd, hdp⟩ := K.dn i q d hq (hm d (.tail _ hd))
            have hcd : c ≠ d := fun e => hn.1 (e ▸ hd)
            rcases up_two (pre_mem K k c x hx).1 (pre_mem K k d x hx').1 with u | u
            · exact hcd (up_sib K hzc hcp hzd hdp u)
            · exact hcd (up_sib K hzd hdp hzc hcp u).symm
        exact sub q.ch (K.nd i q hq) fun _ h => h
theorem txt_le_pre {rows : List Rw} (hv : ∀ (j : Nat) (z : Rw), rows[j]? = some z → z.val.length ≤ 1) : ∀ (k i : Nat), (txt rows k i).length ≤ (pre rows k i).length
  | 0, _ => Nat.le_refl _
  | k + 1, i => by
    cases hq : rows[i]? with
    | none =>
      have : txt rows (k + 1) i = [] := by show (match rows[i]? with | none => _ | some q => _) = _; rw [hq]
      rw [this]; exact Nat.zero_le _
    | some q =>
      rw [pre_eq hq, txt_eq hq, List.length_append, List.length_cons]
      have h1 : q.val.cps.toList.length ≤ 1 := by have := hv i q hq; simpa [Str.length] using this
      have h2 : ∀ l : List Nat, ((l.map (txt rows k)).flatten).length ≤ ((l.map (pre rows k)).flatten).length := by
        intro l
        induction l with
        | nil => exact Nat.le_refl _
        | cons c l ih =>
          rw [List.map_cons, List.flatten_cons, List.length_append, List.map_cons, List.flatten_cons, List.length_append]
          have := txt_le_pre hv k c
          omega
      have := h2 q.ch
      omega
theorem txt_le {rows : List Rw} (K : OK rows) (hv : ∀ (j : Nat) (z : Rw), rows[j]? = some z → z.val.length ≤ 1) (k i : Nat) : (txt rows k i).length ≤ rows.length :=
  Nat.le_trans (txt_le_pre hv k i) (nodup_le (pre_nodup K k i) fun x hx => (pre_mem K k i x hx).2)

/-! what joining does to the text -/
theorem flat_erase {f : Nat → List Nat} {i : Nat} (h : f i = []) : ∀ l : List Nat, ((l.erase i).map f).flatten = (l.map f).flatten
  | [] => rfl
  | a :: l => by
    rw [List.erase_cons]
    split
    · rename_i e
      have : a = i := by simpa using e
      rw [List.map_cons, List.flatten_cons, this, h]; rfl
    · rw [List.map_cons, List.map_cons, List.flatten_cons, List.flatten_cons, flat_erase h l]
theorem map_flat_congr {f g : Nat → List Nat} {l : List Nat} (h : ∀ c ∈ l, f c = g c) : (l.map f).flatten = (l.map g).flatten := by
  rw [List.map_congr_left h]
/-- an empty text taken away -/
theorem txt_rm {rows : List Rw} (K : OK rows) {i h : Nat} {q qh : Rw} (hq : rows[i]? = some q) (hk : q.kind = ("text" : Str)) (hv : q.val = ("" : Str)) (hqh : rows[h]? = some qh) :
    ∀ k x, txt (rmR rows i q h qh) k x = txt rows k x
  | 0, _ => rfl
  | k + 1, x => by
    have ih := txt_rm K hq hk hv hqh k
    have he : txt rows k i = [] := by
      cases k with
      | zero => rfl
      | succ k =>
        rw [txt_eq hq, (K.kd i q hq).2.1 hk, hv]; rfl
    have G := rm_get hq hqh x
    have ihl : ∀ l : List Nat, (l.map (txt (rmR rows i q h qh) k)).flatten = (l.map (txt rows k)).flatten := fun l => map_flat_congr fun c _ => ih c
    by_cases e1 : x = i
    · subst e1
      rw [if_pos rfl] at G
      rw [txt_eq G, txt_eq hq, ihl]
    · rw [if_neg e1] at G
      by_cases e2 : x = h
      · subst e2
        rw [if_pos rfl] at G
        rw [txt_eq G, txt_eq hqh, ihl, flat_erase he]
      · rw [if_neg e2] at G
        cases hx : rows[x]? with
        | none =>
          rw [hx] at G
          show (match (rmR rows i q h qh)[x]? with | none => _ | some q => _) = (match rows[x]? with | none => _ | some q => _)
          rw [hx, G]
        | some z =>
          rw [hx] at G
          rw [txt_eq G, txt_eq hx, ihl]
/-- two texts joined -/
theorem txt_join {rows : List Rw} (K : OK rows) {a c h : Nat} {qa qc qh : Rw} {l1 l2 : List Nat} (hqa : rows[a]? = some qa) (hka : qa.kind = ("text" : Str)) (hqc : rows[c]? = some qc) (hkc : qc.kind = ("text" : Str)) (hqh : rows[h]? = some qh) (hch : qh.ch = l1 ++ a :: c :: l2) {rows' : List Rw}
    (G : ∀ x, rows'[x]? = if x = c then some { qc with par := none } else if x = h then some { qh with ch := l1 ++ a :: l2 } else if x = a then some { qa with val := qa.val ++ qc.val } else rows[x]?) :
    ∀ k x, x ≠ a → txt rows' k x = txt rows k x
  | 0, _, _ => rfl
  | k + 1, x, hxa => by
    have ih := txt_join K hqa hka hqc hkc hqh hch G k
    have hca : qc.ch = [] := (K.kd c qc hqc).2.1 hkc
    have haa : qa.ch = [] := (K.kd a qa hqa).2.1 hka
    have nd := K.nd h qh hqh
    rw [hch] at nd
    have hmc : c ∈ qh.ch := by rw [hch]; simp
    have hma : a ∈ qh.ch := by rw [hch]; simp
    have hac : a ≠ c := fun e => by
      subst e
      rw [List.nodup_append] at nd
      exact (List.nodup_cons.mp nd.2.1).1 (.head _)
    have hah : a ≠ h := fun e => by subst e; rw [hqh] at hqa; cases hqa; rw [haa] at hma; cases hma
    have hch' : c ≠ h := fun e => by subst e; rw [hqh] at hqc; cases hqc; rw [hca] at hmc; cases hmc
    have g := G x
    by_cases e1 : x = c
    · subst e1
      rw [if_pos rfl] at g
      rw [txt_eq g, txt_eq hqc]
      dsimp only
      rw [hca]; rfl
    rw [if_neg e1] at g
    by_cases e2 : x = h
    · subst e2
      rw [if_pos rfl] at g
      rw [txt_eq g, txt_eq hqh]
      dsimp only
      rw [hch]
      congr 1
      have n1 : ∀ y ∈ l1, y ≠ a := fun y hy e => by
        rw [List.nodup_append] at nd
        exact nd.2.2 y hy a (.head _) e
      have n2 : ∀ y ∈ l2, y ≠ a := fun y hy e => by
        rw [List.nodup_append] at nd
        exact (List.nodup_cons.mp nd.2.1).1 (e ▸ .tail _ hy)
      simp only [List.map_append, List.map_cons, List.flatten_append, List.flatten_cons]
      rw [map_flat_congr fun y hy => ih y (n1 y hy), map_flat_congr fun y hy => ih y (n2 y hy)]
      congr 1
      rw [← List.append_assoc]
      congr 1
      cases k with
      | zero => rfl
      | succ k =>
        have ga := G a
        rw [if_neg hac, if_neg hah, if_pos rfl] at ga
        rw [txt_eq ga, txt_eq hqa, txt_eq hqc]
        dsimp only
        rw [haa, hca]
        show (Str.append qa.val qc.val).cps.toList ++ _ = _
        unfold Str.append
        simp
    rw [if_neg e2, if_neg hxa] at g
    cases hx : rows[x]? with
    | none =>
      rw [hx] at g
      show (match rows'[x]? with | none => _ | some q => _) = (match rows[x]? with | none => _ | some q => _)
      rw [hx, g]
    | some z =>
      rw [hx] at g
      rw [txt_eq g, txt_eq hx]
      congr 1
      refine map_flat_congr fun y hy => ih y fun e => ?_
      subst e
      obtain ⟨za, h1, h2⟩ := K.dn x z y hx hy
      obtain ⟨zb, h3, h4⟩ := K.dn h qh y hqh hma
      rw [h1] at h3; cases h3
      rw [h2] at h4; cases h4
      exact e2 rfl
end Mine

end

section
open PySem PySem.W PyProof.Rows PySem.Calls
set_option Elab.async false
set_option maxRecDepth 100000
set_option linter.unusedVariables false
namespace Mine

/-- no two texts beside one another, no empty one -/
structure Tidy (rows : List Rw) (l : List Nat) : Prop where
  adj : ∀ (j a b : Nat) (za zb : Rw), l[j]? = some a → l[j + 1]? = some b → rows[a]? = some za → rows[b]? = some zb → za.kind = ("text" : Str) → zb.kind ≠ ("text" : Str)
  ne : ∀ c ∈ l, ∀ z : Rw, rows[c]? = some z → z.kind = ("text" : Str) → z.val ≠ ("" : Str)
theorem Tidy.nil {rows : List Rw} : Tidy rows [] := ⟨fun j a b za zb h => by simp at h, nofun⟩
theorem Tidy.congr {rows rows' : List Rw} {l : List Nat} (t : Tidy rows l) (h : ∀ c ∈ l, ∀ z' : Rw, rows'[c]? = some z' → ∃ z : Rw, rows[c]? = some z ∧ z'.kind = z.kind ∧ (z'.kind = ("text" : Str) → z'.val = ("" : Str) → z.val = ("" : Str))) : Tidy rows' l := by
  refine ⟨fun j a b za zb h1 h2 h3 h4 k1 => ?_, fun c hc z hz hk e => ?_⟩
  · obtain ⟨za0, a1, a2, _⟩ := h a (List.mem_of_getElem? h1) za h3
    obtain ⟨zb0, b1, b2, _⟩ := h b (List.mem_of_getElem? h2) zb h4
    rw [b2]
    exact t.adj j a b za0 zb0 h1 h2 a1 b1 (a2 ▸ k1)
  · obtain ⟨z0, a1, a2, a3⟩ := h c hc z hz
    exact t.ne c hc z0 a1 (a2 ▸ hk) (a3 hk e)
theorem Tidy.snoc {rows : List Rw} {l : List Nat} (t : Tidy rows l) {c : Nat} {zc : Rw} (hc : rows[c]? = some zc) (h1 : zc.kind = ("text" : Str) → ∀ (a : Nat) (za : Rw), l.getLast? = some a → rows[a]? = some za → za.kind ≠ ("text" : Str)) (h2 : zc.kind = ("text" : Str) → zc.val ≠ ("" : Str)) : Tidy rows (l ++ [c]) := by
  refine ⟨fun j a b za zb g1 g2 g3 g4 k1 k2 => ?_, fun d hd z hz hk => ?_⟩
  · by_cases hj : j + 1 < l.length
    · rw [List.getElem?_append_left (by omega)] at g1
      rw [List.getElem?_append_left hj] at g2
      exact t.adj j a b za zb g1 g2 g3 g4 k1 k2
    · by_cases hj2 : j + 1 = l.length
      · rw [List.getElem?_append_left (by omega)] at g1
        rw [hj2, List.getElem?_append_right (Nat.le_refl _)] at g2
        simp at g2; subst g2
        rw [hc] at g4; cases g4
        refine h1 k2 a za ?_ g3 k1
        rw [List.getLast?_eq_getElem?, ← hj2]; exact g1
      · rw [List.getElem?_eq_none (by simp; omega)] at g2; cases g2
  · rcases List.mem_append.mp hd with hd | hd
    · exact t.ne d hd z hz hk
    · rw [List.mem_singleton.mp hd, hc] at hz; cases hz
      exact h2 hk
theorem drop_of_get {α : Type} {l : List α} {j : Nat} {c : α} (h : l[j]? = some c) : l.drop j = c :: l.drop (j + 1) := by
  obtain ⟨h1, h2⟩ := List.getElem?_eq_some_iff.mp h
  rw [← h2]; exact List.drop_eq_getElem_cons h1
/-- a row of another value -/
def wv (q : Rw) (v : Str) : Rw := { q with val := v }
theorem OK.setVal {rows : List Rw} (K : OK rows) {a : Nat} {q : Rw} (h : rows[a]? = some q) (v : Str) : OK (rows.set a (wv q v)) := by
  have G : ∀ (j : Nat) (z : Rw), (rows.set a (wv q v))[j]? = some z → ∃ z0 : Rw, rows[j]? = some z0 ∧ z.kind = z0.kind ∧ z.par = z0.par ∧ z.ch = z0.ch := by
    intro j z hz
    rw [List.getElem?_set] at hz
    split at hz
    · rename_i e; subst e
      split at hz
      · cases hz; exact ⟨q, h, rfl, rfl, rfl⟩
      · cases hz
    · exact ⟨z, hz, rfl, rfl, rfl⟩
  have N : ∀ (j : Nat) (z0 : Rw), rows[j]? = some z0 → ∃ z : Rw, (rows.set a (wv q v))[j]? = some z ∧ z.par = z0.par ∧ z.ch = z0.ch := by
    intro j z0 h0
    rw [List.getElem?_set]
    by_cases e : a = j
    · subst e
      rw [h] at h0; cases h0
      rw [if_pos rfl, if_pos (List.getElem?_eq_some_iff.mp h).1]
      exact ⟨_, rfl, rfl, rfl⟩
    · rw [if_neg e]; exact ⟨z0, h0, rfl, rfl⟩
  refine ⟨fun i z p hz hp => ?_, fun i z c hz hc => ?_, fun i z hz => ?_, ?_, fun i z hz => ?_⟩
  · obtain ⟨z0, h0, _, e2, _⟩ := G i z hz
    obtain ⟨qp, g1, g2⟩ := K.up i z0 p h0 (e2 ▸ hp)
    obtain ⟨y, y1, _, y3⟩ := N p qp g1
    exact ⟨y, y1, y3 ▸ g2⟩
  · obtain ⟨z0, h0, _, _, e3⟩ := G i z hz
    obtain ⟨qc, g1, g2⟩ := K.dn i z0 c h0 (e3 ▸ hc)
    obtain ⟨y, y1, y2, _⟩ := N c qc g1
    exact ⟨y, y1, y2.trans g2⟩
  · obtain ⟨z0, h0, _, _, e3⟩ := G i z hz
    rw [e3]; exact K.nd i z0 h0
  · obtain ⟨rk, hrk⟩ := K.ac
    refine ⟨rk, fun i z p hz hp => ?_⟩
    obtain ⟨z0, h0, _, e2, _⟩ := G i z hz
    obtain ⟨⟨qp, g1⟩, g2⟩ := hrk i z0 p h0 (e2 ▸ hp)
    obtain ⟨y, y1, _⟩ := N p qp g1
    exact ⟨⟨y, y1⟩, g2⟩
  · obtain ⟨z0, h0, e1, e2, e3⟩ := G i z hz
    rw [e1, e2, e3]; exact K.kd i z0 h0

/-- the children of one node being joined -/
structure FJ (rowsA : List Rw) (h : Nat) (l0 : List Nat) (s : Nat) (j : Nat) (rows : List Rw) (nl : List Nat) (last : Option Nat) : Prop where
  ok : OK rows
  ln : rows.length = rowsA.length
  old : ∀ (x : Nat) (z : Rw), rows[x]? = some z → ∃ z0 : Rw, rowsA[x]? = some z0 ∧ z.kind = z0.kind ∧ (x ≠ h → z.ch = z0.ch) ∧ (x ∉ l0 ∨ z.kind ≠ ("text" : Str) → z.val = z0.val ∧ z.par = z0.par) ∧ (x ∈ l0 → z.par = some h ∨ z.par = none)
  hch : ∃ qh : Rw, rows[h]? = some qh ∧ qh.ch = nl ++ l0.drop j
  tidy : Tidy rows nl
  lst : ∀ a, last = some a → (∃ nl0, nl = nl0 ++ [a]) ∧ ∃ za : Rw, rows[a]? = some za ∧ za.kind = ("text" : Str) ∧ za.val.length ≤ j
  nol : last = none → ∀ (a : Nat) (za : Rw), nl.getLast? = some a → rows[a]? = some za → za.kind ≠ ("text" : Str)
  rst : ∀ c ∈ l0.drop j, rows[c]? = rowsA[c]?
  tx : ∀ k, txt rows k s = txt rowsA k s
  sub : ∀ x ∈ nl, x ∈ l0
theorem FJ.start {rowsA : List Rw} (K : OK rowsA) {h s : Nat} {qh : Rw} (hq : rowsA[h]? = some qh) : FJ rowsA h qh.ch s 0 rowsA [] none := by
  refine ⟨K, rfl, fun x z hz => ⟨z, hz, rfl, fun _ => rfl, fun _ => ⟨rfl, rfl⟩, fun hx => ?_⟩, ⟨qh, hq, rfl⟩, .nil, nofun, fun _ a za e => by simp at e, fun _ _ => rfl, fun _ => rfl, nofun⟩
  obtain ⟨z', h1, h2⟩ := K.dn h qh x hq hx
  rw [hz] at h1; cases h1
  exact .inl h2
section
variable {rowsA rows : List Rw} {h s j c : Nat} {l0 nl : List Nat} {last : Option Nat}
theorem FJ.other (F : FJ rowsA h l0 s j rows nl last) (hc : l0[j]? = some c) {zc : Rw} (hz : rows[c]? = some zc) (hk : zc.kind ≠ ("text" : Str)) : FJ rowsA h l0 s (j + 1) rows (nl ++ [c]) none := by
  have hd := drop_of_get hc
  refine ⟨F.ok, F.ln, F.old, ?_, F.tidy.snoc hz (fun e => absurd e hk) fun e => absurd e hk, nofun, fun _ a za ha hza => ?_, fun x hx => F.rst x (by rw [hd]; exact .tail _ hx), F.tx, fun x hx => (List.mem_append.mp hx).elim (F.sub x) fun e => by rw [List.mem_singleton.mp e]; exact List.mem_of_getElem? hc⟩
  · obtain ⟨qh, h1, h2⟩ := F.hch
    exact ⟨qh, h1, by rw [h2, hd]; simp⟩
  · simp at ha; subst ha
    rw [hz] at hza; cases hza; exact hk
theorem FJ.first (F : FJ rowsA h l0 s j rows nl none) (hc : l0[j]? = some c) {zc : Rw} (hz : rows[c]? = some zc) (hk : zc.kind = ("text" : Str)) (hv : zc.val ≠ ("" : Str)) (hl : zc.val.length ≤ 1) : FJ rowsA h l0 s (j + 1) rows (nl ++ [c]) (some c) := by
  have hd := drop_of_get hc
  refine ⟨F.ok, F.ln, F.old, ?_, F.tidy.snoc hz (fun _ a za ha hza => F.nol rfl a za ha hza) fun _ => hv, fun a e => ?_, nofun, fun x hx => F.rst x (by rw [hd]; exact .tail _ hx), F.tx, fun x hx => (List.mem_append.mp hx).elim (F.sub x) fun e => by rw [List.mem_singleton.mp e]; exact List.mem_of_getElem? hc⟩
  · obtain ⟨qh, h1, h2⟩ := F.hch
    exact ⟨qh, h1, by rw [h2, hd]; simp⟩
  · cases e
    exact ⟨⟨nl, rfl⟩, zc, hz, hk, by omega⟩
theorem FJ.ne (F : FJ rowsA h l0 s j rows nl last) (hc : l0[j]? = some c) {zc qh : Rw} (hz : rows[c]? = some zc) (hk : zc.kind = ("text" : Str)) (hqh : rows[h]? = some qh) : zc.par = some h ∧ c ∉ nl ∧ c ≠ h ∧ qh.ch.erase c = nl ++ l0.drop (j + 1) ∧ qh.ch = nl ++ c :: l0.drop (j + 1) ∧ nl.Nodup := by
  have hd := drop_of_get hc
  obtain ⟨qh', h1, h2⟩ := F.hch
  rw [hqh] at h1; cases h1
  rw [hd] at h2
  have nd := F.ok.nd h qh hqh
  rw [h2, List.nodup_append] at nd
  have hcn : c ∉ nl := fun hm => nd.2.2 c hm c (.head _) rfl
  have hm : c ∈ qh.ch := by rw [h2]; simp
  obtain ⟨z', g1, g2⟩ := F.ok.dn h qh c hqh hm
  rw [hz] at g1; cases g1
  refine ⟨g2, hcn, fun e => ?_, ?_, h2, nd.1⟩
  · subst e
    rw [hz] at hqh; cases hqh
    rw [(F.ok.kd c zc hz).2.1 hk] at hm; cases hm
  · rw [h2, List.erase_append_right _ hcn]; simp
theorem FJ.empty (F : FJ rowsA h l0 s j rows nl last) (hc : l0[j]? = some c) {zc qh : Rw} (hz : rows[c]? = some zc) (hk : zc.kind = ("text" : Str)) (hv : zc.val = ("" : Str)) (hqh : rows[h]? = some qh) : FJ rowsA h l0 s (j + 1) (rmR rows c zc h qh) nl last := by
  have hd := drop_of_get hc
  obtain ⟨hp, hcn, hch, he, hqc, _⟩ := F.ne hc hz hk hqh
  have G := rm_get hz hqh
  have hml : c ∈ l0 := List.mem_of_getElem? hc
  have at' : ∀ x ∈ nl, x ≠ c := fun x hx e => hcn (e ▸ hx)
  have get : ∀ (x : Nat) (z : Rw), (rmR rows c zc h qh)[x]? = some z → ∃ z0 : Rw, rows[x]? = some z0 ∧ z.kind = z0.kind ∧ z.val = z0.val ∧ (x ≠ h → z.ch = z0.ch) ∧ (x ≠ c → z.par = z0.par) ∧ (x = c → z.par = none) := by
    intro x z hx
    rw [G] at hx
    split at hx
    · rename_i e; subst e; cases hx
      exact ⟨zc, hz, rfl, rfl, fun _ => rfl, fun e => absurd rfl e, fun _ => rfl⟩
    · rename_i e1
      split at hx
      · rename_i e; subst e; cases hx
        exact ⟨qh, hqh, rfl, rfl, fun e => absurd rfl e, fun _ => rfl, fun e => absurd e e1⟩
      · exact ⟨z, hx, rfl, rfl, fun _ => rfl, fun _ => rfl, fun e => absurd e e1⟩
  refine ⟨F.ok.rm hz hp hqh, rm_len.trans F.ln, fun x z hx => ?_, ⟨_, by rw [G, if_neg (Ne.symm hch), if_pos rfl], he⟩, F.tidy.congr fun x hx z hz' => ?_, fun a ea => ?_, fun el a za ha hza => ?_, fun x hx => ?_, fun k => ?_, F.sub⟩
  · obtain ⟨z1, a1, a2, a3, a4, a5, a6⟩ := get x z hx
    obtain ⟨z0, b1, b2, b3, b4, b5⟩ := F.old x z1 a1
    refine ⟨z0, b1, a2.trans b2, fun e => (a4 e).trans (b3 e), fun e => ?_, fun e => ?_⟩
    · have hxc : x ≠ c := fun e' => by
        subst e'
        rcases e with e | e
        · exact e hml
        · rw [hz] at a1; cases a1; exact e (a2.trans hk)
      have := b4 (e.imp id fun e => by rw [← a2]; exact e)
      exact ⟨a3.trans this.1, (a5 hxc).trans this.2⟩
    · by_cases hxc : x = c
      · exact .inr (a6 hxc)
      · rw [a5 hxc]; exact b5 e
  · obtain ⟨z1, a1, a2, a3, _⟩ := get x z hz'
    exact ⟨z1, a1, a2, fun _ e => a3.symm.trans e⟩
  · obtain ⟨⟨nl0, e0⟩, za, e1, e2, e3⟩ := F.lst a ea
    refine ⟨⟨nl0, e0⟩, za, ?_, e2, by omega⟩
    have hac : a ≠ c := at' a (by rw [e0]; simp)
    have hah : a ≠ h := fun e => by
      subst e; rw [hqh] at e1; cases e1
      have hm : c ∈ qh.ch := by rw [hqc]; simp
      rw [(F.ok.kd a qh hqh).2.1 e2] at hm; cases hm
    rw [G, if_neg hac, if_neg hah]; exact e1
  · obtain ⟨z1, a1, a2, _⟩ := get a za hza
    rw [a2]; exact F.nol el a z1 ha a1
  · have nd := F.ok.nd h qh hqh
    rw [hqc, List.nodup_append] at nd
    have hxc : x ≠ c := fun e => (List.nodup_cons.mp nd.2.1).1 (e ▸ hx)
    have hxm : x ∈ qh.ch := by rw [hqc]; simp [hx]
    have hxh : x ≠ h := fun e => by
      subst e
      obtain ⟨z', g1, g2⟩ := F.ok.dn x qh x hqh hxm
      exact absurd rfl (F.ok.par_ne g1 g2)
    rw [G, if_neg hxc, if_neg hxh]
    exact F.rst x (by rw [hd]; exact .tail _ hx)
  · rw [txt_rm F.ok hz hk hv hqh]; exact F.tx k
theorem FJ.join {a : Nat} (F : FJ rowsA h l0 s j rows nl (some a)) (hc : l0[j]? = some c) {zc za qh qh' : Rw} (hz : rows[c]? = some zc) (hk : zc.kind = ("text" : Str)) (hl : zc.val.length ≤ 1) (hqh : rows[h]? = some qh) (hza : rows[a]? = some za) (hsa : s ≠ a)
    (hqh' : (rows.set a (wv za (za.val ++ zc.val)))[h]? = some qh') : FJ rowsA h l0 s (j + 1) (rmR (rows.set a (wv za (za.val ++ zc.val))) c zc h qh') nl (some a) := by
  have hd := drop_of_get hc
  obtain ⟨hp, hcn, hch, he, hqc, hnn⟩ := F.ne hc hz hk hqh
  obtain ⟨⟨nl0, e0⟩, za', e1, e2, e3⟩ := F.lst a rfl
  rw [hza] at e1; cases e1
  have hml : c ∈ l0 := List.mem_of_getElem? hc
  have hac : a ≠ c := fun e => hcn (by rw [e0, e]; simp)
  have hma : a ∈ qh.ch := by rw [hqc, e0]; simp
  have hah : a ≠ h := fun e => by
    rw [e, hqh] at hza
    injection hza with hza
    subst hza
    rw [(F.ok.kd h _ hqh).2.1 e2] at hma; cases hma
  have hal : a < rows.length := (List.getElem?_eq_some_iff.mp hza).1
  have eqh : qh' = qh := by
    rw [List.getElem?_set_ne hah, hqh] at hqh'
    exact (Option.some.inj hqh').symm
  subst eqh
  have hz' : (rows.set a (wv za (za.val ++ zc.val)))[c]? = some zc := by rw [List.getElem?_set_ne hac]; exact hz
  have KV := F.ok.setVal hza (za.val ++ zc.val)
  have G0 := rm_get hz' hqh'
  have G : ∀ x, (rmR (rows.set a (wv za (za.val ++ zc.val))) c zc h qh')[x]? = if x = c then some { zc with par := none } else if x = h then some { qh' with ch := nl0 ++ a :: l0.drop (j + 1) } else if x = a then some (wv za (za.val ++ zc.val)) else rows[x]? := by
    intro x
    rw [G0]
    by_cases h1 : x = c
    · rw [if_pos h1, if_pos h1]
    rw [if_neg h1, if_neg h1]
    by_cases h2 : x = h
    · rw [if_pos h2, if_pos h2, he, e0]; simp
    rw [if_neg h2, if_neg h2]
    by_cases h3 : x = a
    · rw [if_pos h3, h3, List.getElem?_set, if_pos rfl, if_pos hal]
    · rw [if_neg h3, List.getElem?_set_ne (Ne.symm h3)]
  have alo : a ∈ l0 ∨ True := .inr trivial
  have get : ∀ (x : Nat) (z : Rw), (rmR (rows.set a (wv za (za.val ++ zc.val))) c zc h qh')[x]? = some z → ∃ z0 : Rw, rows[x]? = some z0 ∧ z.kind = z0.kind ∧ (x ≠ a → z.val = z0.val) ∧ (x ≠ h → z.ch = z0.ch) ∧ (x ≠ c → z.par = z0.par) ∧ (x = c → z.par = none) ∧ (x = a → z.val = za.val ++ zc.val) := by
    intro x z hx
    rw [G] at hx
    split at hx
    · rename_i e; subst e; cases hx
      exact ⟨zc, hz, rfl, fun _ => rfl, fun _ => rfl, fun e => absurd rfl e, fun _ => rfl, fun e => absurd e.symm hac⟩
    · rename_i e1
      split at hx
      · rename_i e; subst e; cases hx
        exact ⟨qh', hqh, rfl, fun _ => rfl, fun e => absurd rfl e, fun _ => rfl, fun e => absurd e e1, fun e => absurd e.symm hah⟩
      · split at hx
        · rename_i e; subst e; cases hx
          exact ⟨za, hza, rfl, fun e => absurd rfl e, fun _ => rfl, fun _ => rfl, fun e => absurd e e1, fun _ => rfl⟩
        · rename_i e4
          exact ⟨z, hx, rfl, fun _ => rfl, fun _ => rfl, fun _ => rfl, fun e => absurd e e1, fun e => absurd e e4⟩
  have hav : za.val ++ zc.val ≠ ("" : Str) := fun e => by
    refine F.tidy.ne a (by rw [e0]; simp) za hza e2 ?_
    have hcat : (za.val ++ zc.val).cps.toList = za.val.cps.toList ++ zc.val.cps.toList := by
      show (Str.append _ _).cps.toList = _
      unfold Str.append; simp
    rw [e] at hcat
    have h0 : ("" : Str).cps.toList = [] := by rfl
    rw [h0] at hcat
    have := (List.append_eq_nil_iff.mp hcat.symm).1
    cases hza' : za.val with
    | mk cps =>
      rw [hza'] at this
      have h1 : cps = #[] := by apply Array.toList_inj.mp; simpa using this
      rw [h1]; rfl
  refine ⟨KV.rm hz' hp hqh', rm_len.trans (by rw [List.length_set]; exact F.ln), fun x z hx => ?_, ⟨_, by rw [G, if_neg (Ne.symm hch), if_pos rfl], by rw [e0]; simp⟩, F.tidy.congr fun x hx z hzx => ?_, fun b eb => ?_, nofun, fun x hx => ?_, fun k => ?_, F.sub⟩
  · obtain ⟨z1, a1, a2, a3, a4, a5, a6, a7⟩ := get x z hx
    obtain ⟨z0, b1, b2, b3, b4, b5⟩ := F.old x z1 a1
    have hal0 : x = a → x ∈ l0 := fun e => F.sub x (by rw [e, e0]; simp)
    refine ⟨z0, b1, a2.trans b2, fun e => (a4 e).trans (b3 e), fun e => ?_, fun e => ?_⟩
    · have hxc : x ≠ c := fun e' => by
        subst e'
        rcases e with e | e
        · exact e hml
        · rw [hz] at a1; cases a1; exact e (a2.trans hk)
      have hxa : x ≠ a := fun e' => by
        rcases e with e | e
        · exact e (hal0 e')
        · subst e'; rw [hza] at a1; cases a1; exact e (a2.trans e2)
      have := b4 (e.imp id fun e => by rw [← a2]; exact e)
      exact ⟨(a3 hxa).trans this.1, (a5 hxc).trans this.2⟩
    · by_cases hxc : x = c
      · exact .inr (a6 hxc)
      · rw [a5 hxc]; exact b5 e
  · obtain ⟨z1, a1, a2, a3, _, _, _, a7⟩ := get x z hzx
    refine ⟨z1, a1, a2, fun _ e => ?_⟩
    by_cases hxa : x = a
    · exact absurd ((a7 hxa).symm.trans e) hav
    · exact (a3 hxa).symm.trans e
  · cases eb
    refine ⟨⟨nl0, e0⟩, wv za (za.val ++ zc.val), by rw [G, if_neg hac, if_neg hah, if_pos rfl], e2, ?_⟩
    have : (za.val ++ zc.val).length = za.val.length + zc.val.length := by
      show (Str.append _ _).length = _
      unfold Str.append Str.length; simp
    show (za.val ++ zc.val).length ≤ j + 1
    omega
  · have nd := F.ok.nd h qh' hqh
    rw [hqc, List.nodup_append] at nd
    have hxc : x ≠ c := fun e => (List.nodup_cons.mp nd.2.1).1 (e ▸ hx)
    have hxm : x ∈ qh'.ch := by rw [hqc]; simp [hx]
    have hxh : x ≠ h := fun e => by
      subst e
      obtain ⟨z', g1, g2⟩ := F.ok.dn x qh' x hqh hxm
      exact absurd rfl (F.ok.par_ne g1 g2)
    have hxa : x ≠ a := fun e => nd.2.2 a (by rw [e0]; simp) x (.tail _ hx) e.symm
    rw [G, if_neg hxc, if_neg hxh, if_neg hxa]
    exact F.rst x (by rw [hd]; exact .tail _ hx)
  · rw [txt_join F.ok hza e2 hz hk hqh (l1 := nl0) (l2 := l0.drop (j + 1)) (by rw [hqc, e0]; simp) G k s hsa]; exact F.tx k
end

/-- the joining of a whole tree under way -/
structure JI (rows0 : List Rw) (s : Nat) (rows : List Rw) (don lf : List Nat) : Prop where
  ok : OK rows
  ln : rows.length = rows0.length
  old : ∀ (x : Nat) (z : Rw), rows[x]? = some z → ∃ z0 : Rw, rows0[x]? = some z0 ∧ z.kind = z0.kind ∧ (z.kind ≠ ("text" : Str) → z.par = z0.par) ∧ (x ∉ don → z.ch = z0.ch) ∧ (∀ p, z.par = some p → p ∉ don → z.val = z0.val)
  fr : Front rows0 s don lf
  nt : ∀ x, x ∈ don ∨ x ∈ lf → ∀ z0 : Rw, rows0[x]? = some z0 → z0.kind ≠ ("text" : Str)
  dn : ∀ d ∈ don, ∀ z : Rw, rows[d]? = some z → Tidy rows z.ch ∧ ∀ c ∈ z.ch, ∀ zc : Rw, rows[c]? = some zc → zc.kind ≠ ("text" : Str) → c ∈ don ∨ c ∈ lf
  tx : ∀ k, txt rows k s = txt rows0 k s
theorem JI.start {rows0 : List Rw} (K : OK rows0) {s : Nat} {q : Rw} (hq : rows0[s]? = some q) (hk : q.kind ≠ ("text" : Str)) : JI rows0 s rows0 [] [s] :=
  ⟨K, rfl, fun x z hz => ⟨z, hz, rfl, fun _ => rfl, fun _ => rfl, fun _ _ _ => rfl⟩, Front.start hq, fun x hx z0 h0 => by
    rcases hx with hx | hx
    · cases hx
    · rw [List.mem_singleton.mp hx, hq] at h0; cases h0; exact hk, nofun, fun _ => rfl⟩
/-- those that are no texts -/
def ntx (rows : List Rw) (c : Nat) : Bool := match rows[c]? with
  | some z => !decide (z.kind = ("text" : Str))
  | none => false
theorem ntx_eq {rows : List Rw} {c : Nat} {z : Rw} (h : rows[c]? = some z) : ntx rows c = !decide (z.kind = ("text" : Str)) := by unfold ntx; rw [h]
theorem JI.step {rows0 : List Rw} (K0 : OK rows0) {s : Nat} {rowsA : List Rw} {don lf : List Nat} {h : Nat} (J : JI rows0 s rowsA don (lf ++ [h])) {qh : Rw} (hqh : rowsA[h]? = some qh) {rows : List Rw} {nl : List Nat} {last : Option Nat} (F : FJ rowsA h qh.ch s qh.ch.length rows nl last) :
    JI rows0 s rows (h :: don) (lf ++ qh.ch.filter (ntx rowsA)) := by
  have F1 := J.fr.perm (.refl _) (List.perm_append_comm (l₁ := lf) (l₂ := [h]))
  have hnd : h ∉ don := fun e => by
    have := F1.nd
    rw [List.nodup_append] at this
    exact this.2.2 h e h (.head _) rfl
  obtain ⟨q0, hq0, k0, p0, c0, v0⟩ := J.old h qh hqh
  have hch : qh.ch = q0.ch := c0 hnd
  have F2 := F1.step K0 hq0 (sub := qh.ch.filter (ntx rowsA)) ((J.ok.nd h qh hqh).sublist List.filter_sublist) fun c hc => by rw [← hch]; exact (List.mem_filter.mp hc).1
  have F3 := F2.perm (.refl _) (List.perm_append_comm (l₁ := qh.ch.filter (ntx rowsA)) (l₂ := lf))
  have par_l0 : ∀ (x : Nat) (z : Rw), rowsA[x]? = some z → x ∈ qh.ch → z.par = some h := fun x z hz hx => by
    obtain ⟨z', h1, h2⟩ := J.ok.dn h qh x hqh hx
    rw [hz] at h1; cases h1; exact h2
  refine ⟨F.ok, F.ln.trans J.ln, fun x z hz => ?_, F3, fun x hx z0 h0 => ?_, fun d hd z hz => ?_, fun k => (F.tx k).trans (J.tx k)⟩
  · obtain ⟨zA, a1, a2, a3, a4, a5⟩ := F.old x z hz
    obtain ⟨z0, b1, b2, b3, b4, b5⟩ := J.old x zA a1
    refine ⟨z0, b1, a2.trans b2, fun e => ((a4 (.inr e)).2).trans (b3 (by rw [← a2]; exact e)), fun e => ?_, fun p hp hpd => ?_⟩
    · rw [List.mem_cons, not_or] at e
      exact (a3 e.1).trans (b4 e.2)
    · rw [List.mem_cons, not_or] at hpd
      have hx : x ∉ qh.ch := fun hx => by
        rcases a5 hx with e | e
        · rw [hp] at e; cases e; exact hpd.1 rfl
        · rw [hp] at e; cases e
      obtain ⟨g1, g2⟩ := a4 (.inl hx)
      exact g1.trans (b5 p (g2 ▸ hp) hpd.2)
  · have old : x ∈ don ∨ x ∈ lf ++ [h] → z0.kind ≠ ("text" : Str) := fun hx => J.nt x hx z0 h0
    rcases hx with hx | hx
    · rcases List.mem_cons.mp hx with rfl | hx
      · exact old (.inr (by simp))
      · exact old (.inl hx)
    · rcases List.mem_append.mp hx with hx | hx
      · exact old (.inr (List.mem_append_left _ hx))
      · obtain ⟨hm, hn⟩ := List.mem_filter.mp hx
        obtain ⟨z, hz, _⟩ := J.ok.dn h qh x hqh hm
        obtain ⟨z0', b1, b2, _⟩ := J.old x z hz
        rw [h0] at b1; cases b1
        rw [ntx_eq hz] at hn
        rw [← b2]; simpa using hn
  · rcases List.mem_cons.mp hd with rfl | hd
    · obtain ⟨qh', g1, g2⟩ := F.hch
      rw [hz] at g1; cases g1
      rw [List.drop_length, List.append_nil] at g2
      rw [g2]
      refine ⟨F.tidy, fun c hc zc hzc hk => .inr (List.mem_append_right _ (List.mem_filter.mpr ⟨F.sub c hc, ?_⟩))⟩
      obtain ⟨zA, a1, a2, _⟩ := F.old c zc hzc
      rw [ntx_eq a1, ← a2]; simpa using hk
    · have hdh : d ≠ h := fun e => hnd (e ▸ hd)
      obtain ⟨zA, a1, a2, a3, a4, a5⟩ := F.old d z hz
      obtain ⟨t1, t2⟩ := J.dn d hd zA a1
      have hnl : ∀ c ∈ zA.ch, c ∉ qh.ch := fun c hc hm => by
        obtain ⟨y, y1, y2⟩ := J.ok.dn d zA c a1 hc
        have := par_l0 c y y1 hm
        rw [y2] at this; cases this; exact hdh rfl
      rw [a3 hdh]
      refine ⟨t1.congr fun c hc z' hz' => ?_, fun c hc zc hzc hk => ?_⟩
      · obtain ⟨zc, e1, e2, e3, e4, e5⟩ := F.old c z' hz'
        exact ⟨zc, e1, e2, fun _ e => ((e4 (.inl (hnl c hc))).1).symm.trans e⟩
      · obtain ⟨zcA, e1, e2, e3, e4, e5⟩ := F.old c zc hzc
        rcases t2 c hc zcA e1 (by rw [← e2]; exact hk) with h1 | h1
        · exact .inl (.tail _ h1)
        · rcases List.mem_append.mp h1 with h1 | h1
          · exact .inr (List.mem_append_left _ h1)
          · rw [List.mem_singleton.mp h1]; exact .inl (.head _)
theorem JI.val {rows0 : List Rw} {s : Nat} {rowsA : List Rw} {don lf : List Nat} {h : Nat} (J : JI rows0 s rowsA don (lf ++ [h])) (hv : ∀ (j : Nat) (z : Rw), rows0[j]? = some z → z.val.length ≤ 1) {qh : Rw} (hqh : rowsA[h]? = some qh) {c : Nat} (hc : c ∈ qh.ch) {zc : Rw} (hz : rowsA[c]? = some zc) : zc.val.length ≤ 1 := by
  have F1 := J.fr.perm (.refl _) (List.perm_append_comm (l₁ := lf) (l₂ := [h]))
  have hnd : h ∉ don := fun e => by
    have := F1.nd
    rw [List.nodup_append] at this
    exact this.2.2 h e h (.head _) rfl
  obtain ⟨z', h1, h2⟩ := J.ok.dn h qh c hqh hc
  rw [hz] at h1; cases h1
  obtain ⟨z0, b1, _, _, _, b5⟩ := J.old c zc hz
  rw [b5 h h2 hnd]
  exact hv c z0 b1
end Mine

end

section
open PySem PySem.W PyProof.Rows PySem.Calls
set_option Elab.async false
set_option maxRecDepth 100000
set_option linter.unusedVariables false
namespace Mine

def st_joined_texts : Option Stmt := stAt 23
def sc_joined_texts : Scope := scopeIn (stAt 23)
theorem F_joined_texts (P : Params) : FunIn (KK P) 347 ["tree", "root"] ["left", "node", "last", "child"] (scopeIn (stAt 23)) (bodyOf (stAt 23)) (fnData (stAt 23) "joined_texts" (Value.str (Str.ofString "markupmill.edits") 584) 346) :=
  ⟨⟨_, rfl, rfl⟩, rfl, rfl, rfl, rfl, rfl, by rfl, (fun vals h => by rcases vals with _ | ⟨a0, _ | ⟨a1, _ | ⟨b, r⟩⟩⟩ <;> first | rfl | cases h), by decide, by rfl, by decide, rfl, rfl, rfl⟩
section
variable {prog : Program} {w : World} {base : Heap} {mg mb : Str → Option Value}

theorem snoc_cases {α : Type} : ∀ l : List α, l = [] ∨ ∃ l' a, l = l' ++ [a]
  | [] => .inl rfl
  | a :: l => by
    rcases snoc_cases l with rfl | ⟨l', b, rfl⟩
    · exact .inr ⟨[], a, rfl⟩
    · exact .inr ⟨a :: l', b, rfl⟩
inductive IJoin (as : List AV) (hp : HP) (Q : AV → HP → Prop) (E : HP → Prop) : Prop
  | mk (W : Wd) (s : Nat) (q : Rw) (h1 : St W hp) (h2 : as = [.ref W.x, nt s]) (h3 : OK W.rows) (h4 : W.rows.length ≤ 100) (h5 : W.rows[s]? = some q) (h6 : q.kind ≠ ("text" : Str)) (h7 : (∀ (j : Nat) (z : Rw), W.rows[j]? = some z → z.val.length ≤ 1)) (h8 : ∀ (rows : List Rw) (don : List Nat) (hp' : HP), JI W.rows s rows don [] → s ∈ don → St (W.rows' rows) hp' → Fw W hp (W.rows' rows) hp' → Q .none hp')
def cJoin : CPT := IJoin
inductive JwI (W : Wd) (hp : HP) (s : Nat) (L : Addr) (k : Nat) (σ : AS) : Prop
  | mk (rows : List Rw) (hp' : HP) (lf don : List Nat) (o3 o4 o5 : Option AV) (e : σ = ⟨[some (.ref W.x), some (nt s), some (.ref L), o3, o4, o5], hp'⟩) (S : St (W.rows' rows) hp') (f : Fw W hp (W.rows' rows) hp') (hL : hp' L = some (.list (lf.map nt))) (J : JI W.rows s rows don lf) (hs : s ∈ don ∨ s ∈ lf) (ek : k = W.rows.length - don.length)
inductive JfI (W : Wd) (hp : HP) (s : Nat) (L : Addr) (hd : Nat) (rows : List Rw) (qh : Rw) (lf : List Nat) (D : Addr) (j : Nat) (σ : AS) : Prop
  | mk (rows2 : List Rw) (hp2 : HP) (nl : List Nat) (last : Option Nat) (o5 : Option AV) (e : σ = ⟨[some (.ref W.x), some (nt s), some (.ref L), some (nt hd), some (parV last), o5], hp2⟩) (S : St (W.rows' rows2) hp2) (f : Fw W hp (W.rows' rows2) hp2)
    (hL : hp2 L = some (.list ((lf ++ (qh.ch.take j).filter (ntx rows)).map nt))) (hD : hp2 D = some (.list (qh.ch.map nt))) (F : FJ rows hd qh.ch s j rows2 nl last)
theorem C_joined_texts (G : TopOK prog w base mg mb) : CallS prog w base 51 17 (.ref 347) cJoin := by
  refine CodeS.call (fun_call (n := 16) G.X G.nolimit (F_joined_texts w.params) (TB_cons (T_assign (At.s (At.s At.z)) (by decide) (T_list (by decide) (TL_cons (T_loc (At.s At.z) rfl rfl) TL_nil))) (TB_cons (T_while (TT_cmp C_ne (by decide) (T_loc (At.s (At.s At.z)) rfl rfl) (T_list (by decide) TL_nil)) (TB_cons (T_assign (At.s (At.s (At.s At.z))) (by decide) (T_methB0 PySem.F.plainAttrs_list PySem.F.slot_list_pop ty_pop G_list (T_loc (At.s (At.s At.z)) rfl rfl) O_pop.call (by decide))) (TB_cons (T_assign (At.s (At.s (At.s (At.s At.z)))) (by decide) T_cnone) (TB_cons (T_for G.low (At.s (At.s (At.s (At.s (At.s At.z))))) (by decide) (T_meth (CT := 282) (f := 244) G.X (by rfl) (by rfl) (by rfl) (by rfl) (T_loc At.z rfl rfl) (TL_cons (T_loc (At.s (At.s (At.s At.z))) rfl rfl) TL_nil) (C_m_children G) (by decide)) (TB_cons (T_if (TT_cmp C_ne (by decide) (T_meth (CT := 282) (f := 202) G.X (by rfl) (by rfl) (by rfl) (by rfl) (T_loc At.z rfl rfl) (TL_cons (T_loc (At.s (At.s (At.s (At.s (At.s At.z))))) rfl rfl) TL_nil) (C_m_kind G) (by decide)) T_cstr) (TB_cons (T_assign (At.s (At.s (At.s (At.s At.z)))) (by decide) T_cnone) (TB_cons (T_expr (T_methB PySem.F.plainAttrs_list PySem.F.slot_list_append ty_append G_list (T_loc (At.s (At.s At.z)) rfl rfl) (TL_cons (T_loc (At.s (At.s (At.s (At.s (At.s At.z))))) rfl rfl) TL_nil) O_append.call (by decide)) (fun _ => trivial)) TB_nil)) (TB_cons (T_if (TT_cmp C_eq (by decide) (T_meth (CT := 282) (f := 230) G.X (by rfl) (by rfl) (by rfl) (by rfl) (T_loc At.z rfl rfl) (TL_cons (T_loc (At.s (At.s (At.s (At.s (At.s At.z))))) rfl rfl) TL_nil) (C_m_value G) (by decide)) T_cstr) (TB_cons (T_expr (T_call G.X (by rfl) (T_glob G.toGC (by rfl) (by rfl) (by rfl)) (told_ref _) (TL_cons (T_loc At.z rfl rfl) (TL_cons (T_loc (At.s (At.s (At.s (At.s (At.s At.z))))) rfl rfl) TL_nil)) (C_remove G) (by decide)) (fun _ => trivial)) TB_nil) (TB_cons (T_if (TT_cmp C_is (by decide) (T_loc (At.s (At.s (At.s (At.s At.z)))) rfl rfl) T_cnone) (TB_cons (T_assign (At.s (At.s (At.s (At.s At.z)))) (by decide) (T_loc (At.s (At.s (At.s (At.s (At.s At.z))))) rfl rfl)) TB_nil) (TB_cons (T_expr (T_meth (CT := 282) (f := 195) G.X (by rfl) (by rfl) (by rfl) (by rfl) (T_loc At.z rfl rfl) (TL_cons (T_loc (At.s (At.s (At.s (At.s At.z)))) rfl rfl) (TL_cons (T_bin O_add (by decide) (T_meth (CT := 282) (f := 230) G.X (by rfl) (by rfl) (by rfl) (by rfl) (T_loc At.z rfl rfl) (TL_cons (T_loc (At.s (At.s (At.s (At.s At.z)))) rfl rfl) TL_nil) (C_m_value G) (by decide)) (T_meth (CT := 282) (f := 230) G.X (by rfl) (by rfl) (by rfl) (by rfl) (T_loc At.z rfl rfl) (TL_cons (T_loc (At.s (At.s (At.s (At.s (At.s At.z))))) rfl rfl) TL_nil) (C_m_value G) (by decide))) TL_nil)) (C_m_set_value G) (by decide)) (fun _ => trivial)) (TB_cons (T_expr (T_call G.X (by rfl) (T_glob G.toGC (by rfl) (by rfl) (by rfl)) (told_ref _) (TL_cons (T_loc At.z rfl rfl) (TL_cons (T_loc (At.s (At.s (At.s (At.s (At.s At.z))))) rfl rfl) TL_nil)) (C_remove G) (by decide)) (fun _ => trivial)) TB_nil))) TB_nil)) TB_nil)) TB_nil)) TB_nil)))) TB_nil)) ?_)
  intro as hp Q E ⟨W, s, q, S, e, K0, hz, hq, hk, hv, h⟩
  subst e
  refine ⟨rfl, _, rfl, by simp, fun L hL => ?_⟩
  change hp L = none at hL
  obtain ⟨S1, f1⟩ := S.new hL (.list ([s].map nt))
  have tL := S.fresh L hL
  refine ⟨JwI W hp s L, _,
    ⟨W.rows, _, [s], [], none, none, none, rfl, S1, f1, upd_self _ _ _, JI.start K0 hq hk, .inr (.head _), rfl⟩, ?_⟩
  rintro k σ' ⟨rows, hp', lf, don, o3, o4, o5, rfl, S', f', hL', J, hs, rfl⟩
  have hlen := J.fr.len
  refine ⟨_, rfl, by decide, fun D2 hD2 => ?_⟩
  change hp' D2 = none at hD2
  obtain ⟨S3, f3⟩ := S'.new hD2 (.list [])
  have hL3 := (f3.keep L _ hL' tL).1
  refine ⟨_, kNe_nil hL3 (upd_self _ _ _), _, rfl, fun e => ?_, fun e => ?_⟩
  · obtain ⟨lf, hd, rfl⟩ : ∃ l' a, lf = l' ++ [a] := (snoc_cases lf).resolve_left fun e' => by subst e'; simp at e
    obtain ⟨q0, hq0⟩ := J.fr.vl hd (.inr (by simp))
    have hdl : hd < W.rows.length := (List.getElem?_eq_some_iff.mp hq0).1
    obtain ⟨qh, hqh⟩ : ∃ qh : Rw, rows[hd]? = some qh := ⟨_, List.getElem?_eq_getElem (by rw [J.ln]; exact hdl)⟩
    have hchl := J.ok.ch_len hqh
    have hrl := J.ln
    rw [List.length_append] at hlen
    have hL4 : upd hp' D2 (.list []) L = some (.list (lf.map nt ++ [nt hd])) := by rw [hL3, List.map_append]; rfl
    refine ⟨_, rfl, ⟨_, _, rfl, hL4⟩, L, nt hd, lf.map nt, rfl, hL4, by rw [List.length_map]; omega, ?_⟩
    have S4 := S3.temp tL (.list (lf.map nt))
    have f4 := (f'.trans f3).temp hL (.list (lf.map nt))
    refine ⟨_, rfl, _, _, _, rfl, S4.x, S4.d, notRows (by decide), _, rfl, W.rows' rows, hd, qh, S4, rfl, hqh, by show rows.length ≤ 900; omega, by show qh.ch.length ≤ 900; omega, fun D hD => ?_⟩
    change upd (upd hp' D2 (.list [])) L (.list (lf.map nt)) D = none at hD
    obtain ⟨S5, f5⟩ := S4.new hD (.list (qh.ch.map nt))
    have tD : W.tag D = .no := S4.fresh D hD
    have hDL := (upd_fresh hD).1
    have hD0 : hp D = none := f4.dom D hD
    have hks : s ≠ hd ∨ True := .inr trivial
    refine ⟨.list D (qh.ch.map nt), rfl, ⟨upd_self _ _ _, by rw [List.length_map]; omega⟩, JfI W hp s L hd rows qh lf D, ?_, ?_, ?_⟩
    · refine ⟨rows, _, [], none, _, rfl, S5, f4.trans f5, ?_, upd_self _ _ _, FJ.start J.ok hqh⟩
      refine (upd_other (Ne.symm hDL)).trans ((upd_self _ _ _).trans ?_)
      simp
    · rintro j σ' y hy ⟨rows2, hp2, nl, last, o5, rfl, S2, f2, hL2, hD2', F⟩
      refine ⟨hD2', ?_⟩
      obtain ⟨c, hc, rfl⟩ := map_get hy
      have hcm := List.mem_of_getElem? hc
      have hr2 := F.ln
      have hz2 : (W.rows' rows2).rows.length ≤ 900 := by show rows2.length ≤ 900; omega
      obtain ⟨zcA, hzcA, hcp⟩ := J.ok.dn hd qh c hqh hcm
      have hzc : rows2[c]? = some zcA := by rw [F.rst c (by rw [drop_of_get hc]; exact .head _)]; exact hzcA
      have hvl := J.val hv hqh hcm hzcA
      obtain ⟨qh2, hqh2, hch2⟩ := F.hch
      have htake : qh.ch.take (j + 1) = qh.ch.take j ++ [c] := by rw [List.take_add_one, hc]; rfl
      have hjl : j < qh.ch.length := (List.getElem?_eq_some_iff.mp hc).1
      refine ⟨_, rfl, _, _, _, rfl, S2.x, S2.d, notRows (by decide), _, rfl, W.rows' rows2, c, zcA, S2, rfl, hzc, hz2, !decide (zcA.kind = ("text" : Str)), by simp, _, rfl, fun e => ?_, fun e => ?_⟩
      · -- no text
        have hkc : zcA.kind ≠ ("text" : Str) := by simpa using e
        refine ⟨_, rfl, ⟨_, _, rfl, hL2⟩, _, rfl, _, _, _, rfl, hL2, ?_, ?_⟩
        · have h1 := List.length_filter_le (ntx rows) (qh.ch.take j)
          rw [List.length_take] at h1
          rw [List.length_map, List.length_append]
          omega
        have S6 := S2.temp (W := W.rows' rows2) tL (.list ((lf ++ (qh.ch.take j).filter (ntx rows)).map nt ++ [nt c]))
        have f6 := f2.temp hL (.list ((lf ++ (qh.ch.take j).filter (ntx rows)).map nt ++ [nt c]))
        refine ⟨rows2, _, nl ++ [c], none, _, rfl, S6, f6, ?_, by rw [upd_other hDL]; exact hD2', F.other hc hzc hkc⟩
        rw [upd_self, htake, List.filter_append, List.filter_cons_of_pos (by rw [ntx_eq hzcA]; exact e)]
        simp
      have hkc : zcA.kind = ("text" : Str) := by simpa using e
      have hLn : hp2 L = some (.list ((lf ++ (qh.ch.take (j + 1)).filter (ntx rows)).map nt)) := by
        rw [htake, List.filter_append, List.filter_cons_of_neg (by rw [ntx_eq hzcA, e]; decide)]
        simpa using hL2
      refine ⟨_, rfl, _, _, _, rfl, S2.x, S2.d, notRows (by decide), _, rfl, W.rows' rows2, c, zcA, S2, rfl, hzc, hz2, decide (zcA.val = ("" : Str)), rfl, _, rfl, fun e2 => ?_, fun e2 => ?_⟩
      · -- an empty text
        have hve := of_decide_eq_true e2
        refine ⟨_, rfl, _, rfl, W.rows' rows2, c, zcA, S2, rfl, hz2, F.ok, hzc, nopar hcp, fun p' qp' hp3 g1 g2 S6 f6 => ?_⟩
        rw [hcp] at g1; cases g1
        exact ⟨_, hp3, nl, last, _, rfl, S6, f2.trans f6, (f6.keep L _ hLn tL).1, (f6.keep D _ hD2' tD).1, F.empty hc hzc hkc hve g2⟩
      have hvn := of_decide_eq_false e2
      cases last with
      | none =>
        refine ⟨_, rfl, true, rfl, _, rfl, fun _ => ?_, nofun⟩
        exact ⟨_, rfl, rows2, hp2, nl ++ [c], some c, _, rfl, S2, f2, hLn, hD2', F.first hc hzc hkc hvn hvl⟩
      | some a =>
        refine ⟨_, rfl, false, rfl, _, rfl, nofun, fun _ => ?_⟩
        obtain ⟨⟨nl0, e0⟩, za, hza, hka, hal⟩ := F.lst a rfl
        refine ⟨_, rfl, _, _, _, rfl, S2.x, S2.d, notRows (by decide), _, rfl, _, rfl, _, _, _, rfl, S2.x, S2.d, notRows (by decide), _, rfl, W.rows' rows2, a, za, S2, rfl, hza, hz2, _, rfl, _, _, _, rfl, S2.x, S2.d, notRows (by decide), _, rfl, W.rows' rows2, c, zcA, S2, rfl, hzc, hz2, ?_⟩
        refine ⟨by omega, W.rows' rows2, a, za, _, S2, rfl, hz2, hza, hka, fun hp3 S6 f6 => ?_⟩
        have hac : a ≠ c := fun e => (F.ne hc hzc hkc hqh2).2.1 (by rw [← e, e0]; simp)
        refine ⟨_, rfl, _, rfl, (W.rows' rows2).setRow a { za with val := za.val ++ zcA.val }, c, zcA, S6, rfl, ?_, F.ok.setVal hza _, ?_, nopar hcp, fun p' qp' hp4 g1 g2 S7 f7 => ?_⟩
        · show (rows2.set a _).length ≤ 900
          rw [List.length_set]; exact hz2
        · show (rows2.set a _)[c]? = _
          rw [List.getElem?_set_ne hac]; exact hzc
        rw [hcp] at g1; cases g1
        have f67 := f6.trans f7
        have hsa : s ≠ a := fun e => by
          obtain ⟨zA, a1, a2, _⟩ := F.old a za hza
          obtain ⟨z0, b1, b2, _⟩ := J.old a zA a1
          rw [← e, hq] at b1; cases b1
          exact hk ((a2.trans b2).symm.trans hka)
        exact ⟨_, hp4, nl, some a, _, rfl, S7, f2.trans f67, (f67.keep L _ hLn tL).1, (f67.keep D _ hD2' tD).1, F.join hc hzc hkc hvl hqh2 hza hsa g2⟩
    · rintro σ' ⟨rows2, hp2, nl, last, o5, rfl, S2, f2, hL2, hD2', F⟩
      have hil : (Src.list D (qh.ch.map nt)).items.length = qh.ch.length := by show (qh.ch.map nt).length = _; rw [List.length_map]
      rw [hil] at hL2 F
      rw [List.take_length] at hL2
      refine ⟨hD2', ?_⟩
      have J2 := J.step K0 hqh F
      have hl2 := J2.fr.len
      simp only [List.length_cons] at hl2
      refine ⟨W.rows.length - (hd :: don).length, by simp only [List.length_cons]; omega, rows2, hp2, _, hd :: don, _, _, _, rfl, S2, f2, hL2, J2, ?_, rfl⟩
      rcases hs with hs | hs
      · exact .inl (.tail _ hs)
      · rcases List.mem_append.mp hs with hs | hs
        · exact .inr (List.mem_append_left _ hs)
        · rw [List.mem_singleton.mp hs]; exact .inl (.head _)
  · have : lf = [] := by
      rcases snoc_cases lf with e' | ⟨l', a, rfl⟩
      · exact e'
      · simp at e
    subst this
    exact h rows don _ J (hs.resolve_right nofun) S3 (f'.trans f3)
end
end Mine

end

section
open PySem PySem.W PyProof.Rows PySem.Calls
set_option Elab.async false
set_option maxRecDepth 100000
set_option linter.unusedVariables false
namespace Mine

def st_law_joined_right : Option Stmt := stAt 38
def sc_law_joined_right : Scope := scopeIn (stAt 38)
theorem F_law_joined_right (P : Params) : FunIn (KK P) 435 ["tree", "root"] ["due", "left", "node", "kinds"] (scopeIn (stAt 38)) (bodyOf (stAt 38)) (fnData (stAt 38) "_law_joined_right" (Value.str (Str.ofString "law_nu0066_01") 678) 434) :=
  ⟨⟨_, rfl, rfl⟩, rfl, rfl, rfl, rfl, rfl, by rfl, (fun vals h => by rcases vals with _ | ⟨a0, _ | ⟨a1, _ | ⟨b, r⟩⟩⟩ <;> first | rfl | cases h), by decide, by rfl, by decide, rfl, rfl, rfl⟩
def kd (rows : List Rw) (c : Nat) : Str := match rows[c]? with
  | some z => z.kind
  | none => ""
theorem kd_eq {rows : List Rw} {c : Nat} {z : Rw} (h : rows[c]? = some z) : kd rows c = z.kind := by unfold kd; rw [h]
def bothT (u v : AV) : Bool := decide (u = .str ("text" : Str)) && decide (v = .str ("text" : Str))
theorem Tidy.none {rows : List Rw} {l : List Nat} (t : Tidy rows l) (hv : ∀ c ∈ l, ∃ z : Rw, rows[c]? = some z) : (((l.map fun c => AV.str (kd rows c)).zip ((l.map fun c => AV.str (kd rows c)).drop 1)).filter fun q => bothT q.1 q.2) = [] := by
  rw [List.filter_eq_nil_iff]
  rintro ⟨u, v⟩ hm
  obtain ⟨j, hj⟩ := List.getElem?_of_mem hm
  rw [List.getElem?_zip_eq_some] at hj
  obtain ⟨h1, h2⟩ := hj
  rw [List.getElem?_drop, Nat.add_comm] at h2
  rw [List.getElem?_map, Option.map_eq_some_iff] at h1 h2
  obtain ⟨a, ha, hu⟩ := h1
  obtain ⟨b, hb, hv'⟩ := h2
  change AV.str (kd rows a) = u at hu
  change AV.str (kd rows b) = v at hv'
  subst hu; subst hv'
  obtain ⟨za, hza⟩ := hv a (List.mem_of_getElem? ha)
  obtain ⟨zb, hzb⟩ := hv b (List.mem_of_getElem? hb)
  have := t.adj j a b za zb ha hb hza hzb
  rw [kd_eq hza, kd_eq hzb]
  unfold bothT
  simp
  exact this
section
variable {prog : Program} {w : World} {base : Heap} {mg mb : Str → Option Value}

theorem C_law_text (G : TopOK prog w base mg mb) : CallS prog w base 51 26 (.ref 425) (cText 14) := C_law_text_k G 14

inductive IJR (as : List AV) (hp : HP) (Q : AV → HP → Prop) (E : HP → Prop) : Prop
  | mk (W : Wd) (s : Nat) (q : Rw) (h1 : St W hp) (h2 : as = [.ref W.x, nt s]) (h3 : OK W.rows) (h4 : W.rows.length ≤ 14) (h5 : W.rows[s]? = some q) (h6 : q.kind ≠ ("text" : Str)) (h7 : (∀ (j : Nat) (z : Rw), W.rows[j]? = some z → SOK z)) (h8 : ∀ hp', Q (.bool true) hp')
def cJR : CPT := IJR
inductive RwI (W : Wd) (s : Nat) (rows : List Rw) (don : List Nat) (k : Nat) (σ : AS) : Prop
  | mk (hp' : HP) (L : Addr) (lf dn : List Nat) (o4 o5 : Option AV) (e : σ = ⟨[some (.ref W.x), some (nt s), some (.str (mkS (txt W.rows 14 s))), some (.ref L), o4, o5], hp'⟩) (S : St (W.rows' rows) hp') (hL : hp' L = some (.list (lf.map nt))) (tL : W.tag L = .no) (F : Front rows s dn lf)
    (hg : ∀ x ∈ lf, ∀ z : Rw, rows[x]? = some z → (z.kind ≠ ("text" : Str) → x ∈ don) ∧ (z.kind = ("text" : Str) → z.val ≠ ("" : Str))) (ek : k = rows.length - dn.length)
structure KindsI (hp6 : HP) (qh : Rw) (rows : List Rw) (j : Nat) (outs : List AV) (hp7 : HP) : Prop where
  e : hp7 = hp6
  o : outs = (qh.ch.take j).map fun c => .str (kd rows c)
theorem C_law_joined_right (G : TopOK prog w base mg mb) : CallS prog w base 51 28 (.ref 435) cJR := by
  refine CodeS.call (fun_call (n := 27) G.X G.nolimit (F_law_joined_right w.params) (TB_cons (T_assign (At.s (At.s At.z)) (by decide) (T_call G.X (by rfl) (T_glob G.toGC (by rfl) (by rfl) (by rfl)) (told_ref _) (TL_cons (T_loc At.z rfl rfl) (TL_cons (T_loc (At.s At.z) rfl rfl) TL_nil)) (C_law_text G) (by decide))) (TB_cons (T_expr (T_call G.X (by rfl) (T_glob G.toGC (by rfl) (by rfl) (by rfl)) (told_ref _) (TL_cons (T_loc At.z rfl rfl) (TL_cons (T_loc (At.s At.z) rfl rfl) TL_nil)) (C_joined_texts G) (by decide)) (fun _ => trivial)) (TB_cons (T_assign (At.s (At.s (At.s At.z))) (by decide) (T_list (by decide) (TL_cons (T_loc (At.s At.z) rfl rfl) TL_nil))) (TB_cons (T_while (TT_cmp C_ne (by decide) (T_loc (At.s (At.s (At.s At.z))) rfl rfl) (T_list (by decide) TL_nil)) (TB_cons (T_assign (At.s (At.s (At.s (At.s At.z)))) (by decide) (T_methB0 PySem.F.plainAttrs_list PySem.F.slot_list_pop ty_pop G_list (T_loc (At.s (At.s (At.s At.z))) rfl rfl) O_pop.call (by decide))) (TB_cons (T_compSet G.low (x := "child") (capt := ["tree"]) (js := [0]) ⟨by rfl, by rfl, by decide, by rfl, by rfl, by decide, (.cons At.z .nil), by rfl, by decide⟩ (At.s (At.s (At.s (At.s (At.s At.z))))) (by decide) (T_meth (CT := 282) (f := 244) G.X (by rfl) (by rfl) (by rfl) (by rfl) (T_loc At.z rfl rfl) (TL_cons (T_loc (At.s (At.s (At.s (At.s At.z)))) rfl rfl) TL_nil) (C_m_children G) (by decide)) TI_nil (T_meth (CT := 282) (f := 202) G.X (by rfl) (by rfl) (by rfl) (by rfl) (T_loc (At.s At.z) rfl rfl) (TL_cons (T_loc At.z rfl rfl) TL_nil) (C_m_kind G) (by decide)) (fun env he => by (cases env; dsimp only at he; subst he; rfl))) (TB_cons (T_if (TT_cmp C_ne (by decide) (T_compZ ⟨⟨by rfl, by rfl, by decide, by rfl, by rfl, by decide, .nil, by rfl, by decide⟩, by rfl, by decide⟩ (T_bltn G.toGC (by rfl) Boot.«zip» (by decide) (by rfl) (by rfl)) (TL_cons (T_loc (At.s (At.s (At.s (At.s (At.s At.z))))) rfl rfl) (TL_cons (T_from (T_loc (At.s (At.s (At.s (At.s (At.s At.z))))) rfl rfl) T_cint) TL_nil)) (TI_one (TT_bool (TA_and (TT_cmp C_eq (by decide) (T_loc At.z rfl rfl) T_cstr) (TA_and (TT_cmp C_eq (by decide) (T_loc (At.s At.z) rfl rfl) T_cstr) TA_andNil)))) T_cint) (T_list (by decide) TL_nil)) (TB_cons (T_ret T_cbool) TB_nil) TB_nil) (TB_cons (T_assign (At.s (At.s (At.s At.z))) (by decide) (T_bin O_add (by decide) (T_loc (At.s (At.s (At.s At.z))) rfl rfl) (T_meth (CT := 282) (f := 244) G.X (by rfl) (by rfl) (by rfl) (by rfl) (T_loc At.z rfl rfl) (TL_cons (T_loc (At.s (At.s (At.s (At.s At.z)))) rfl rfl) TL_nil) (C_m_children G) (by decide)))) (TB_cons (T_if (TT_bool (TA_and (TT_cmp C_eq (by decide) (T_meth (CT := 282) (f := 202) G.X (by rfl) (by rfl) (by rfl) (by rfl) (T_loc At.z rfl rfl) (TL_cons (T_loc (At.s (At.s (At.s (At.s At.z)))) rfl rfl) TL_nil) (C_m_kind G) (by decide)) T_cstr) (TA_and (TT_cmp C_eq (by decide) (T_meth (CT := 282) (f := 230) G.X (by rfl) (by rfl) (by rfl) (by rfl) (T_loc At.z rfl rfl) (TL_cons (T_loc (At.s (At.s (At.s (At.s At.z)))) rfl rfl) TL_nil) (C_m_value G) (by decide)) T_cstr) TA_andNil))) (TB_cons (T_ret T_cbool) TB_nil) TB_nil) TB_nil)))))) (TB_cons (T_ret (T_cmp C_eq (by decide) (T_call G.X (by rfl) (T_glob G.toGC (by rfl) (by rfl) (by rfl)) (told_ref _) (TL_cons (T_loc At.z rfl rfl) (TL_cons (T_loc (At.s At.z) rfl rfl) TL_nil)) (C_law_text G) (by decide)) (T_loc (At.s (At.s At.z)) rfl rfl))) TB_nil))))) ?_)
  intro as hp Q E ⟨W, s, q, S, e, K0, hz, hq, hk, hso, h⟩
  subst e
  have hv : ∀ (j : Nat) (z : Rw), W.rows[j]? = some z → z.val.length ≤ 1 := fun j z hz => (hso j z hz).2.2.2.2.2
  have htl := txt_le K0 hv 14 s
  refine ⟨rfl, _, rfl, _, rfl, W, s, q, S, rfl, K0, by omega, hq, HT.all K0 hq hz, by omega, fun hp1 S1 f1 => ?_⟩
  refine ⟨_, rfl, _, rfl, W, s, q, S1, rfl, K0, by omega, hq, hk, hv, fun rows don hp2 J hsd S2 f2 => ?_⟩
  have hrl := J.ln
  obtain ⟨qs, hqs⟩ : ∃ z : Rw, rows[s]? = some z := ⟨_, List.getElem?_eq_getElem (by rw [hrl]; exact (List.getElem?_eq_some_iff.mp hq).1)⟩
  have hz1 : (W.rows' rows).rows.length ≤ 900 := by show rows.length ≤ 900; omega
  refine ⟨_, rfl, by simp, fun L0 hL0 => ?_⟩
  change hp2 L0 = none at hL0
  obtain ⟨S3, f3⟩ := S2.new hL0 (.list ([s].map nt))
  refine ⟨RwI W s rows don, _,
    ⟨_, L0, [s], [], none, none, rfl, S3, upd_self _ _ _, S2.fresh L0 hL0, Front.start hqs, fun x hx z hzx => ?_, rfl⟩, ?_⟩
  · rw [List.mem_singleton.mp hx] at hzx ⊢
    refine ⟨fun _ => hsd, fun e => ?_⟩
    obtain ⟨z0, b1, b2, _⟩ := J.old s z hzx
    rw [hq] at b1; cases b1
    exact absurd (b2.symm.trans e) hk
  rintro k σ' ⟨hp', L, lf, dn, o4, o5, rfl, S', hL', tL, F, hg, rfl⟩
  have hlen := F.len
  refine ⟨_, rfl, by decide, fun D2 hD2 => ?_⟩
  change hp' D2 = none at hD2
  obtain ⟨S4, f4⟩ := S'.new hD2 (.list [])
  have hL4 := (f4.keep L _ hL' tL).1
  refine ⟨_, kNe_nil hL4 (upd_self _ _ _), _, rfl, fun e => ?_, fun e => ?_⟩
  · obtain ⟨lf, hd, rfl⟩ : ∃ l' a, lf = l' ++ [a] := (snoc_cases lf).resolve_left fun e' => by subst e'; simp at e
    obtain ⟨qh, hqh⟩ := F.vl hd (.inr (by simp))
    have hchl := J.ok.ch_len hqh
    rw [List.length_append] at hlen
    have hL5 : upd hp' D2 (.list []) L = some (.list (lf.map nt ++ [nt hd])) := by rw [hL4, List.map_append]; rfl
    have td : Tidy rows qh.ch ∧ ∀ c ∈ qh.ch, ∀ z : Rw, rows[c]? = some z → (z.kind ≠ ("text" : Str) → c ∈ don) ∧ (z.kind = ("text" : Str) → z.val ≠ ("" : Str)) := by
      by_cases ht : qh.kind = ("text" : Str)
      · rw [(J.ok.kd hd qh hqh).2.1 ht]; exact ⟨.nil, nofun⟩
      · obtain ⟨t1, t2⟩ := J.dn hd ((hg hd (by simp) qh hqh).1 ht) qh hqh
        exact ⟨t1, fun c hc z hzc => ⟨fun e => (t2 c hc z hzc e).resolve_right nofun, t1.ne c hc z hzc⟩⟩
    have hcv : ∀ c ∈ qh.ch, ∃ z : Rw, rows[c]? = some z := fun c hc => by obtain ⟨z, h1, _⟩ := J.ok.dn hd qh c hqh hc; exact ⟨z, h1⟩
    refine ⟨_, rfl, ⟨_, _, rfl, hL5⟩, L, nt hd, lf.map nt, rfl, hL5, by rw [List.length_map]; omega, ?_⟩
    have S5 := S4.temp (W := W.rows' rows) tL (.list (lf.map nt))
    -- kinds
    refine ⟨_, rfl, _, _, _, rfl, S5.x, S5.d, notRows (by decide), _, rfl, W.rows' rows, hd, qh, S5, rfl, hqh, hz1, by show qh.ch.length ≤ 900; omega, fun D hD => ?_⟩
    change upd (upd hp' D2 (.list [])) L (.list (lf.map nt)) D = none at hD
    obtain ⟨S6, f6⟩ := S5.new hD (.list (qh.ch.map nt))
    have hDL := (upd_fresh hD).1
    have hL6 : upd (upd (upd hp' D2 (.list [])) L (.list (lf.map nt))) D (.list (qh.ch.map nt)) L = some (.list (lf.map nt)) := (upd_other (Ne.symm hDL)).trans (upd_self _ _ _)
    obtain ⟨hp6, hhp6⟩ : ∃ hp6, hp6 = upd (upd (upd hp' D2 (.list [])) L (.list (lf.map nt))) D (.list (qh.ch.map nt)) := ⟨_, rfl⟩
    refine ⟨.list D (qh.ch.map nt), rfl, ⟨upd_self _ _ _, by rw [List.length_map]; omega⟩, KindsI hp6 qh rows, ⟨hhp6.symm, rfl⟩, ?_, ?_⟩
    · rintro j outs hp7 y hy ⟨rfl, rfl⟩
      rw [← hhp6] at S6
      refine ⟨by rw [hhp6]; exact upd_self _ _ _, rfl, nofun, fun _ => ?_⟩
      obtain ⟨c, hc, rfl⟩ := map_get hy
      obtain ⟨zc, hzc⟩ := hcv c (List.mem_of_getElem? hc)
      refine ⟨_, rfl, _, _, _, rfl, S6.x, S6.d, notRows (by decide), _, rfl, W.rows' rows, c, zc, S6, rfl, hzc, hz1, rfl, rfl, ?_⟩
      rw [List.take_add_one, hc, List.map_append]
      show _ = _ ++ [AV.str (kd rows c)]
      rw [kd_eq hzc]
    rintro outs hp7 ⟨rfl, rfl⟩
    have hil : (Src.list D (qh.ch.map nt)).items.length = qh.ch.length := by show (qh.ch.map nt).length = _; rw [List.length_map]
    rw [hil, List.take_length]
    rw [← hhp6] at S6 hL6
    refine ⟨by rw [hhp6]; exact upd_self _ _ _, fun D3 hD3 => ?_⟩
    change hp7 D3 = none at hD3
    obtain ⟨S7, f7⟩ := S6.new hD3 (.list (qh.ch.map fun c => .str (kd rows c)))
    have hL7 := (f7.keep L _ hL6 tL).1
    -- the pairs
    refine ⟨_, rfl, _, rfl, D3, _, 1, rfl, rfl, by decide, upd_self _ _ _, by rw [List.length_map]; omega, fun D4 hD4 => ?_⟩
    change upd hp7 D3 (.list (qh.ch.map fun c => .str (kd rows c))) D4 = none at hD4
    obtain ⟨S8, f8⟩ := S7.new hD4 (.list ((qh.ch.map fun c => AV.str (kd rows c)).drop 1))
    have hL8 := (f8.keep L _ hL7 tL).1
    have hD34 := (upd_fresh hD4).1
    refine ⟨D3, D4, _, _, bothT, rfl, (upd_other (Ne.symm hD34)).trans (upd_self _ _ _), upd_self _ _ _, by rw [List.length_map]; omega, fun u v hpz hm => ?_, fun u v hpz => ⟨rfl, rfl⟩, fun D5 hD5 => ?_⟩
    · have hu : ∃ x : Str, u = .str x := by
        obtain ⟨c, _, e⟩ := List.mem_map.mp (List.of_mem_zip hm).1
        exact ⟨_, e.symm⟩
      have hv' : ∃ x : Str, v = .str x := by
        obtain ⟨c, _, e⟩ := List.mem_map.mp (List.mem_of_mem_drop (List.of_mem_zip hm).2)
        exact ⟨_, e.symm⟩
      obtain ⟨x, rfl⟩ := hu
      obtain ⟨y, rfl⟩ := hv'
      refine ⟨_, rfl, decide (x = ("text" : Str)), rfl, _, rfl, fun e1 => ⟨_, rfl, decide (y = ("text" : Str)), rfl, _, rfl, fun e2 => ⟨rfl, ?_⟩, fun e2 => ⟨rfl, ?_⟩⟩, fun e1 => ⟨rfl, ?_⟩⟩
      · have e1' := of_decide_eq_true e1
        have e2' := of_decide_eq_true e2
        subst e1'; subst e2'; unfold bothT; simp
      · have e2' := of_decide_eq_false e2
        unfold bothT; simp [e2']
      · have e1' := of_decide_eq_false e1
        unfold bothT; simp [e1']
    change upd (upd hp7 D3 (.list (qh.ch.map fun c => .str (kd rows c)))) D4 (.list ((qh.ch.map fun c => AV.str (kd rows c)).drop 1)) D5 = none at hD5
    have t0 : ((((qh.ch.map fun c => AV.str (kd rows c)).zip ((qh.ch.map fun c => AV.str (kd rows c)).drop 1)).filter fun q => bothT q.1 q.2).map fun _ => AV.int 1) = [] := by rw [td.1.none hcv]; rfl
    obtain ⟨S9, f9⟩ := S8.new hD5 (.list ((((qh.ch.map fun c => AV.str (kd rows c)).zip ((qh.ch.map fun c => AV.str (kd rows c)).drop 1)).filter fun q => bothT q.1 q.2).map fun _ => AV.int 1))
    have hL9 := (f9.keep L _ hL8 tL).1
    refine ⟨by decide, fun D6 hD6 => ?_⟩
    change upd (upd (upd hp7 D3 (.list (qh.ch.map fun c => .str (kd rows c)))) D4 (.list ((qh.ch.map fun c => AV.str (kd rows c)).drop 1))) D5 (.list ((((qh.ch.map fun c => AV.str (kd rows c)).zip ((qh.ch.map fun c => AV.str (kd rows c)).drop 1)).filter fun q => bothT q.1 q.2).map fun _ => AV.int 1)) D6 = none at hD6
    obtain ⟨S10, f10⟩ := S9.new hD6 (.list [])
    have hL10 := (f10.keep L _ hL9 tL).1
    have hD56 := (upd_fresh hD6).1
    refine ⟨false, eqNil _ ((upd_other (Ne.symm hD56)).trans ((upd_self _ _ _).trans (by rw [← t0]; rfl))) (upd_self _ _ _), _, rfl, nofun, fun _ => ?_⟩
    refine ⟨_, rfl, _, rfl, _, _, _, rfl, S10.x, S10.d, notRows (by decide), _, rfl, W.rows' rows, hd, qh, S10, rfl, hqh, hz1, by show qh.ch.length ≤ 900; omega, fun D7 hD7 => ?_⟩
    obtain ⟨S11, f11⟩ := S10.new hD7 (.list (qh.ch.map nt))
    have hL11 := (f11.keep L _ hL10 tL).1
    refine ⟨_, _, hL11, upd_self _ _ _, by rw [List.length_map, List.length_map]; show lf.length + qh.ch.length ≤ 1000; omega, fun L2 hL2 => ?_⟩
    obtain ⟨S12, f12⟩ := S11.new hL2 (.list (lf.map nt ++ qh.ch.map nt))
    have F1 := F.perm (.refl _) (List.perm_append_comm (l₁ := lf) (l₂ := [hd]))
    have F2 := (F1.step J.ok hqh (J.ok.nd hd qh hqh) fun _ h => h).perm (.refl _) (List.perm_append_comm (l₁ := qh.ch) (l₂ := lf))
    have hl2 := F2.len
    simp only [List.length_cons] at hl2
    have fin : kLess (RwI W s rows don) (rows.length - dn.length) ⟨[some (.ref W.x), some (nt s), some (.str (mkS (txt W.rows 14 s))), some (.ref L2), some (nt hd), some (.ref D3)], _⟩ :=
      ⟨rows.length - (hd :: dn).length, by simp only [List.length_cons]; omega, _, L2, _, hd :: dn, _, _, rfl, S12, (upd_self _ _ _).trans (by rw [List.map_append]), S11.fresh L2 hL2, F2, fun x hx z hzx => by
        rcases List.mem_append.mp hx with hx | hx
        · exact hg x (List.mem_append_left _ hx) z hzx
        · exact td.2 x hx z hzx, rfl⟩
    refine ⟨_, rfl, _, _, _, rfl, S12.x, S12.d, notRows (by decide), _, rfl, W.rows' rows, hd, qh, S12, rfl, hqh, hz1, decide (qh.kind = ("text" : Str)), rfl, _, rfl, fun e1 => ?_, fun e1 => ⟨nofun, fun _ => fin⟩⟩
    have hnv := (hg hd (by simp) qh hqh).2 (of_decide_eq_true e1)
    exact ⟨_, rfl, _, _, _, rfl, S12.x, S12.d, notRows (by decide), _, rfl, W.rows' rows, hd, qh, S12, rfl, hqh, hz1, false, (decide_eq_false hnv).symm, _, rfl, nofun, fun _ => ⟨nofun, fun _ => fin⟩⟩
  · have : lf = [] := by
      rcases snoc_cases lf with e' | ⟨l', a, rfl⟩
      · exact e'
      · simp at e
    subst this
    refine ⟨_, rfl, _, rfl, W.rows' rows, s, qs, S4, rfl, J.ok, hz1, hqs, HT.all J.ok hqs (by show rows.length ≤ 14; omega), ?_, fun hp3 S5 f5 => ?_⟩
    · show (txt rows 14 s).length ≤ 50000
      rw [J.tx]; omega
    refine ⟨_, rfl, true, ?_, h _⟩
    show true = decide (mkS (txt rows 14 s) = _)
    rw [J.tx]; simp
end
end Mine

end

section
open PySem PySem.W PyProof.Rows PySem.Calls
set_option Elab.async false
set_option maxRecDepth 100000
set_option linter.unusedVariables false
namespace Mine

def st_law : Option Stmt := stAt 39
def sc_law : Scope := scopeIn (stAt 39)
theorem F_law (P : Params) : FunIn (KK P) 442 ["script"] ["source", "tree", "lists", "root", "turn", "nodes", "index", "told", "way"] (scopeIn (stAt 39)) (bodyOf (stAt 39)) (fnData (stAt 39) "law" (Value.str (Str.ofString "law_nu0066_01") 678) 441) :=
  ⟨⟨_, rfl, rfl⟩, rfl, rfl, rfl, rfl, rfl, by rfl, (fun vals h => by rcases vals with _ | ⟨a0, _ | ⟨b, r⟩⟩ <;> first | rfl | cases h), by decide, by rfl, by decide, rfl, rfl, rfl⟩
/-- the world between the law's statements -/
structure LB (x ld sl : Addr) (W : Wd) (hp : HP) : Prop where
  S : St W hp
  L : LI W
  len : W.rows.length = 7
  ex : W.x = x
  eld : W.ld = ld
  esl : W.sl = sl
theorem LB.set {x ld sl : Addr} {W : Wd} {hp hp' : HP} (B : LB x ld sl W hp) {a b : Int} (O : SrcOK (W.setS a b)) (S' : St (W.setS a b) hp') : LB x ld sl (W.setS a b) hp' := ⟨S', B.L.setS O, B.len, B.ex, B.eld, B.esl⟩
theorem LB.on {x ld sl : Addr} {W : Wd} {hp hp' : HP} (B : LB x ld sl W hp) (S' : St W hp') : LB x ld sl W hp' := ⟨S', B.L, B.len, B.ex, B.eld, B.esl⟩
/-- the world at the start -/
def wd0 (x d l ld sl : Addr) (ep : Nat) (a b : Int) : Wd := ⟨x, d, l, ld, sl, ep, [], [], a, b, fun c => if c = x then .x else if c = d then .d else if c = l then .rl else if c = ld then .ld else if c = sl then .sl else .no⟩
theorem start_st {hp : HP} {x d l ld sl : Addr} {ep : Nat} {a b : Int} (hx : upd hp sl (.list [.int a, .int b]) x = none) (hd : upd hp sl (.list [.int a, .int b]) d = none) (hl : upd hp sl (.list [.int a, .int b]) l = none) (hxd : x ≠ d) (hlx : l ≠ x) (hld : l ≠ d)
    (hdld : upd (upd (upd (upd (upd hp sl (.list [.int a, .int b])) d (.attrs [])) x (.inst 282 d)) l (.list [])) d (.attrs [("rows", .ref l)]) ld = none) :
    St (wd0 x d l ld sl ep a b) (upd (upd (upd (upd (upd (upd hp sl (.list [.int a, .int b])) d (.attrs [])) x (.inst 282 d)) l (.list [])) d (.attrs [("rows", .ref l)])) ld (.idict ep [])) := by
  obtain ⟨xs, _⟩ := upd_fresh hx
  obtain ⟨ds, _⟩ := upd_fresh hd
  obtain ⟨ls, _⟩ := upd_fresh hl
  obtain ⟨e1, h1⟩ := upd_fresh hdld
  obtain ⟨e2, h2⟩ := upd_fresh h1
  obtain ⟨e3, h3⟩ := upd_fresh h2
  obtain ⟨_, h4⟩ := upd_fresh h3
  obtain ⟨e5, h5⟩ := upd_fresh h4
  unfold wd0
  refine ⟨?_, ?_, ?_, ?_, ?_, ?_, ?_, ?_, ?_, ?_, fun i q h => by simp at h, fun i q h => by simp at h, fun c hc => ?_⟩
  · rw [upd_other (Ne.symm e3), upd_other hxd, upd_other (Ne.symm hlx), upd_self]
  · rw [upd_other (Ne.symm e1), upd_self]
  · rw [upd_other (Ne.symm e2), upd_other hld, upd_self]; rfl
  · rw [upd_self]; rfl
  · rw [upd_other (Ne.symm e5), upd_other (Ne.symm ds), upd_other (Ne.symm ls), upd_other (Ne.symm xs), upd_other (Ne.symm ds), upd_self]
  · dsimp only; rw [if_pos rfl]
  · dsimp only; rw [if_neg (Ne.symm hxd), if_pos rfl]
  · dsimp only; rw [if_neg hlx, if_neg hld, if_pos rfl]
  · dsimp only; rw [if_neg e3, if_neg e1, if_neg e2, if_pos rfl]
  · dsimp only; rw [if_neg (Ne.symm xs), if_neg (Ne.symm ds), if_neg (Ne.symm ls), if_neg (Ne.symm e5), if_pos rfl]
  · obtain ⟨c1, hc⟩ := upd_fresh hc
    obtain ⟨c2, hc⟩ := upd_fresh hc
    obtain ⟨c3, hc⟩ := upd_fresh hc
    obtain ⟨c4, hc⟩ := upd_fresh hc
    obtain ⟨_, hc⟩ := upd_fresh hc
    obtain ⟨c5, hc⟩ := upd_fresh hc
    dsimp only
    rw [if_neg c4, if_neg c2, if_neg c3, if_neg c1, if_neg c5]
section
variable {prog : Program} {w : World} {base : Heap} {mg mb : Str → Option Value}

inductive ILaw (p : Addr) (as : List AV) (hp : HP) (Q : AV → HP → Prop) (E : HP → Prop) : Prop
  | mk  (h1 : as = [.ref p]) (h2 : ∀ hp', Q (.bool true) hp')
def cLaw (p : Addr) : CPT := ILaw p
inductive LawI (p x ld sl : Addr) (k : Nat) (σ : AS) : Prop
  | mk (W : Wd) (hp' : HP) (o5 o6 o7 o8 o9 : Option AV) (e : σ = ⟨[some (.ref p), some (.ref sl), some (.ref x), some (.ref ld), some (nt 0), o5, o6, o7, o8, o9], hp'⟩) (B : LB x ld sl W hp')
theorem R_law (G : TopOK prog w base mg mb) {p : Addr} {ws : Array Value} {is : List Int} (hscr : base.IsList p ws) (hi : ws.toList.map ab = is.map .int) (hscrz : (ws.toList.map ab).length ≤ 1000) : CodeR prog w base 51 30 (.ref 442) (cLaw p) := by
  refine (fun_code (n := 29) G.X G.nolimit (F_law w.params) (TB_cons (T_assign (At.s At.z) (by decide) (T_call G.X (by rfl) (T_glob G.toGC (by rfl) (by rfl) (by rfl)) (told_ref _) (TL_cons (T_loc At.z rfl rfl) (TL_cons T_cint TL_nil)) (C_law_pool G hscr hi hscrz) (by decide))) (TB_cons (T_swp2 (At.s (At.s At.z)) (At.s (At.s (At.s At.z))) (by decide) (by decide) (T_tup (by decide) (TL_cons (T_call0 G.X (by rfl) (T_glob G.toGC (by rfl) (by rfl) (by rfl)) (told_ref _) (C_Tree G) (by decide)) (TL_cons T_dict0 TL_nil))) (fun env he => by (cases env; dsimp only at he; subst he; rfl))) (TB_cons (T_assign (At.s (At.s (At.s (At.s At.z)))) (by decide) (T_call G.X (by rfl) (T_glob G.toGC (by rfl) (by rfl) (by rfl)) (told_ref _) (TL_cons (T_loc (At.s At.z) rfl rfl) (TL_cons (T_loc (At.s (At.s At.z)) rfl rfl) (TL_cons (T_loc (At.s (At.s (At.s At.z))) rfl rfl) TL_nil))) (C_law_made G) (by decide))) (TB_cons (T_for G.low (At.s (At.s (At.s (At.s (At.s At.z))))) (by decide) (T_callT (T_bltn G.toGC (by rfl) Boot.«range» (by decide) (by rfl) (by rfl)) (TL_cons T_cint TL_nil) O_range.call (by decide)) (TB_cons (T_assign (At.s (At.s (At.s (At.s (At.s (At.s At.z)))))) (by decide) (T_callB (T_bltn G.toGC (by rfl) Boot.«sorted» (by decide) (by rfl) (by rfl)) (TL_cons (T_loc (At.s (At.s (At.s At.z))) rfl rfl) TL_nil) (O_sorted G.low).call (by decide))) (TB_cons (T_assign (At.s (At.s (At.s (At.s (At.s (At.s (At.s At.z))))))) (by decide) (T_bin O_sub (by decide) (T_call G.X (by rfl) (T_glob G.toGC (by rfl) (by rfl) (by rfl)) (told_ref _) (TL_cons (T_loc (At.s At.z) rfl rfl) (TL_cons T_cint TL_nil)) (C_law_take G) (by decide)) (T_callT (T_bltn G.toGC (by rfl) Boot.«int» (by decide) (by rfl) (by rfl)) (TL_cons (T_cmp C_eq (by decide) (T_call G.X (by rfl) (T_glob G.toGC (by rfl) (by rfl) (by rfl)) (told_ref _) (TL_cons (T_loc (At.s At.z) rfl rfl) (TL_cons T_cint TL_nil)) (C_law_take G) (by decide)) T_cint) TL_nil) O_int.call (by decide)))) (TB_cons (T_assign (At.s (At.s (At.s (At.s (At.s (At.s (At.s (At.s At.z)))))))) (by decide) (T_tup (by decide) (TL_cons (T_call G.X (by rfl) (T_glob G.toGC (by rfl) (by rfl) (by rfl)) (told_ref _) (TL_cons (T_loc (At.s At.z) rfl rfl) (TL_cons (T_loc (At.s (At.s (At.s (At.s (At.s (At.s At.z)))))) rfl rfl) TL_nil)) (C_law_one G) (by decide)) (TL_cons (T_call G.X (by rfl) (T_glob G.toGC (by rfl) (by rfl) (by rfl)) (told_ref _) (TL_cons (T_loc (At.s At.z) rfl rfl) (TL_cons (T_loc (At.s (At.s (At.s (At.s (At.s (At.s At.z)))))) rfl rfl) TL_nil)) (C_law_one G) (by decide)) (TL_cons (T_loc (At.s (At.s (At.s (At.s (At.s (At.s (At.s At.z))))))) rfl rfl) TL_nil))))) (TB_cons (T_assign (At.s (At.s (At.s (At.s (At.s (At.s (At.s (At.s (At.s At.z))))))))) (by decide) (T_call G.X (by rfl) (T_glob G.toGC (by rfl) (by rfl) (by rfl)) (told_ref _) (TL_cons (T_loc (At.s At.z) rfl rfl) (TL_cons (T_list (by decide) (TL_cons T_cstr (TL_cons T_cstr (TL_cons T_cstr (TL_cons T_cstr (TL_cons T_cstr TL_nil)))))) TL_nil)) (C_law_one G) (by decide))) (TB_cons (T_if (TT_cmp C_ne (by decide) (T_call G.X (by rfl) (T_glob G.toGC (by rfl) (by rfl) (by rfl)) (told_ref _) (TL_cons (T_loc (At.s (At.s At.z)) rfl rfl) (TL_cons (T_loc (At.s (At.s (At.s At.z))) rfl rfl) (TL_cons (T_loc (At.s (At.s (At.s (At.s (At.s (At.s (At.s (At.s (At.s At.z))))))))) rfl rfl) (TL_cons (T_loc (At.s (At.s (At.s (At.s (At.s (At.s (At.s (At.s At.z)))))))) rfl rfl) TL_nil)))) (C_law_edit G) (by decide)) (T_call G.X (by rfl) (T_glob G.toGC (by rfl) (by rfl) (by rfl)) (told_ref _) (TL_cons (T_loc (At.s (At.s At.z)) rfl rfl) (TL_cons (T_loc (At.s (At.s (At.s (At.s (At.s (At.s (At.s (At.s (At.s At.z))))))))) rfl rfl) (TL_cons (T_loc (At.s (At.s (At.s (At.s (At.s (At.s (At.s (At.s At.z)))))))) rfl rfl) TL_nil))) (C_law_done G) (by decide))) (TB_cons (T_ret T_cbool) TB_nil) TB_nil) (TB_cons (T_if (TT_not (TT_val (T_call G.X (by rfl) (T_glob G.toGC (by rfl) (by rfl) (by rfl)) (told_ref _) (TL_cons (T_loc (At.s (At.s At.z)) rfl rfl) (TL_cons (T_loc (At.s (At.s (At.s At.z))) rfl rfl) TL_nil)) (C_law_same G) (by decide)))) (TB_cons (T_ret T_cbool) TB_nil) TB_nil) TB_nil))))))) (TB_cons (T_ret (T_and (T_call G.X (by rfl) (T_glob G.toGC (by rfl) (by rfl) (by rfl)) (told_ref _) (TL_cons (T_loc (At.s At.z) rfl rfl) (TL_cons (T_loc (At.s (At.s At.z)) rfl rfl) (TL_cons (T_loc (At.s (At.s (At.s At.z))) rfl rfl) TL_nil))) (C_law_copied_right G) (by decide)) (T_and (T_call G.X (by rfl) (T_glob G.toGC (by rfl) (by rfl) (by rfl)) (told_ref _) (TL_cons (T_loc (At.s (At.s At.z)) rfl rfl) (TL_cons (T_loc (At.s (At.s (At.s At.z))) rfl rfl) TL_nil)) (C_law_same G) (by decide)) (T_and1 (T_call G.X (by rfl) (T_glob G.toGC (by rfl) (by rfl) (by rfl)) (told_ref _) (TL_cons (T_loc (At.s (At.s At.z)) rfl rfl) (TL_cons (T_loc (At.s (At.s (At.s (At.s At.z)))) rfl rfl) TL_nil)) (C_law_joined_right G) (by decide)))))) TB_nil))))) ?_)
  intro as hp Q E ⟨e, h⟩
  subst e
  refine ⟨rfl, _, rfl, rfl, fun sl a b hsl ha hb hb2 => ?_⟩
  change hp sl = none at hsl
  refine ⟨rfl, fun x d l hx hd hl hxd hlx hld => ?_⟩
  change upd hp sl (.list [.int a, .int b]) x = none at hx
  change upd hp sl (.list [.int a, .int b]) d = none at hd
  change upd hp sl (.list [.int a, .int b]) l = none at hl
  intro ld ep hdld
  change upd (upd (upd (upd (upd hp sl (.list [.int a, .int b])) d (.attrs [])) x (.inst 282 d)) l (.list [])) d (.attrs [("rows", .ref l)]) ld = none at hdld
  have S0 := start_st (ep := ep) hx hd hl hxd hlx hld hdld
  refine ⟨by simp, fun T hT => ?_⟩
  obtain ⟨S1, f1⟩ := S0.new hT (.tup [.ref x, .ref ld])
  refine ⟨T, _, _, rfl, upd_self _ _ _, ?_⟩
  refine ⟨_, rfl, _, rfl, _, rfl, wd0 x d l ld sl ep a b, S1, rfl, rfl, rfl, ⟨ha, hb, hb2⟩, fun W1 hp1 L1 hlen1 S2 f2 => ?_⟩
  have B1 : LB x ld sl W1 hp1 := ⟨S2, L1, hlen1, f2.ex, f2.eld, f2.esl⟩
  refine ⟨10, rfl, fun r hr => ⟨.rng r 10, rfl, ⟨upd_self _ _ _, by decide⟩, LawI p x ld sl, ?_, ?_, ?_⟩⟩
  · exact ⟨W1, _, _, _, _, _, _, rfl, B1.on (B1.S.new hr (.rng 10)).1⟩
  · rintro k σ' y hy ⟨W, hp', o5, o6, o7, o8, o9, rfl, B⟩
    refine ⟨trivial, ?_⟩
    have hll : W.ls.length = 7 := B.L.ln.trans B.len
    -- nodes
    have hld' := B.S.ld
    rw [B.eld] at hld'
    refine ⟨_, rfl, ld, rfl, .inl ⟨_, _, hld', by rw [lsFrom_length, hll]; decide, fun D ns hD hpm hsrt => ?_⟩⟩
    change hp' D = none at hD
    have tD := B.S.fresh D hD
    have hnl : ns.length = 7 := by rw [hpm.length_eq, List.length_map, lsFrom_length, hll]
    have hns : ∀ (j : Nat) (y : AV), (ns.map AV.int)[j]? = some y → ∃ i : Nat, y = nt i ∧ i < 7 := fun j y hy => by
      rw [List.getElem?_map, Option.map_eq_some_iff] at hy
      obtain ⟨z, hz, rfl⟩ := hy
      have hm := hpm.mem_iff.mp (List.mem_of_getElem? hz)
      rw [lsFrom_keys] at hm
      obtain ⟨i, hi, e⟩ := List.mem_map.mp hm
      rw [List.mem_range'_1] at hi
      exact ⟨i, by rw [← e], by omega⟩
    have hne : ns.map AV.int ≠ [] := fun e => by
      rw [List.map_eq_nil_iff] at e
      rw [e] at hnl; cases hnl
    have row : ∀ {W : Wd} {hp : HP}, LB x ld sl W hp → ∀ i, i < 7 → ∃ q : Rw, W.rows[i]? = some q := fun B i hi => ⟨_, List.getElem?_eq_getElem (by rw [B.len]; exact hi)⟩
    obtain ⟨S2, f2⟩ := B.S.new hD (.list (ns.map .int))
    have B2 := B.on S2
    -- index
    refine ⟨_, rfl, W, 4, S2, by rw [B.esl], by decide, by decide, B.L.src, fun r1 a1 b1 hp3 h03 h13 O3 S3 f3 => ?_⟩
    have B3 := B2.set O3 S3
    have hD3 := f3.keep D _ (upd_self _ _ _) tD
    refine ⟨_, rfl, W.setS a1 b1, 6, S3, by rw [B3.esl], by decide, by decide, O3, fun r2 a2 b2 hp4 h04 h14 O4 S4 f4 => ?_⟩
    have B4 := B3.set O4 S4
    have hD4 := f4.keep D _ hD3.1 hD3.2
    refine ⟨decide (r2 = 0), rfl, ?_⟩
    obtain ⟨W4, hW4⟩ : ∃ W4, W4 = (W.setS a1 b1).setS a2 b2 := ⟨_, rfl⟩
    rw [← hW4] at B4 hD4 S4
    -- told
    refine ⟨_, rfl, _, rfl, W4, D, _, S4, by rw [B4.esl], hD4.1, hD4.2, hne, by rw [List.length_map]; omega, B4.L.src, fun j5 y5 a5 b5 hp5 hy5 O5 S5 f5 => ?_⟩
    obtain ⟨i, rfl, hi⟩ := hns j5 y5 hy5
    have B5 := B4.set O5 S5
    have hD5 := f5.keep D _ hD4.1 hD4.2
    obtain ⟨W5, hW5⟩ : ∃ W5, W5 = W4.setS a5 b5 := ⟨_, rfl⟩
    rw [← hW5] at B5 hD5 S5
    refine ⟨_, rfl, _, rfl, W5, D, _, S5, by rw [B5.esl], hD5.1, hD5.2, hne, by rw [List.length_map]; omega, B5.L.src, fun j6 y6 a6 b6 hp6 hy6 O6 S6 f6 => ?_⟩
    obtain ⟨p', rfl, hp'⟩ := hns j6 y6 hy6
    have B6 := B5.set O6 S6
    obtain ⟨W6, hW6⟩ : ∃ W6, W6 = W5.setS a6 b6 := ⟨_, rfl⟩
    rw [← hW6] at B6 S6
    refine ⟨_, rfl, by simp, fun T7 hT7 => ?_⟩
    change hp6 T7 = none at hT7
    obtain ⟨S7, f7⟩ := S6.new hT7 (.tup [nt i, nt p', .int (r1 - (if decide (r2 = 0) = true then 1 else 0))])
    have tT7 := S6.fresh T7 hT7
    -- way
    refine ⟨_, rfl, by simp, fun D8 hD8 => ?_⟩
    change upd hp6 T7 (.tup [nt i, nt p', .int (r1 - (if decide (r2 = 0) = true then 1 else 0))]) D8 = none at hD8
    obtain ⟨S8, f8⟩ := S7.new hD8 (.list [.str "remove", .str "insert", .str "insert", .str "move", .str "move"])
    have hT8 := f8.keep T7 _ (upd_self _ _ _) tT7
    refine ⟨W6, D8, _, S8, by rw [B6.esl], upd_self _ _ _, S7.fresh D8 hD8, by simp, by simp, B6.L.src, fun j9 y9 a9 b9 hp9 hy9 O9 S9 f9 => ?_⟩
    have B9 := B6.set O9 S9
    have hT9 := f9.keep T7 _ hT8.1 hT8.2
    obtain ⟨W9, hW9⟩ : ∃ W9, W9 = W6.setS a9 b9 := ⟨_, rfl⟩
    rw [← hW9] at B9 hT9 S9
    obtain ⟨way, rfl, hway⟩ : ∃ way : Str, y9 = .str way ∧ Way way := by
      rcases j9 with _ | _ | _ | _ | _ | j9 <;> simp at hy9
      · exact ⟨_, hy9.symm, .inl rfl⟩
      · exact ⟨_, hy9.symm, .inr (.inl rfl)⟩
      · exact ⟨_, hy9.symm, .inr (.inl rfl)⟩
      · exact ⟨_, hy9.symm, .inr (.inr rfl)⟩
      · exact ⟨_, hy9.symm, .inr (.inr rfl)⟩
    obtain ⟨q, hq⟩ := row B9 i hi
    obtain ⟨qp, hqp⟩ := row B9 p' hp'
    have hz9 : W9.rows.length ≤ 900 := by rw [B9.len]; decide
    refine ⟨_, rfl, _, rfl, _, rfl, _, rfl, W9, i, p', q, qp, _, way, T7, S9, by rw [B9.ex, B9.eld], hT9.1, hT9.2, B9.L.ok, B9.L.sy, B9.L.ln, hz9, hq, hqp, hway, fun ls' hpA can hll' hm SA fA => ?_, fun ncan hpA SA fA => ?_⟩
    · have hTA := fA.keep T7 _ hT9.1 hT9.2
      refine ⟨_, rfl, _, rfl, _, rfl, { W9 with ls := ls' }, i, p', q, qp, _, way, T7, SA, by rw [← B9.ex], hTA.1, hTA.2, B9.L.ok, hz9, hq, hqp, hway, fun rows' hpB ed SB fB => ?_, fun nc => absurd can nc⟩
      obtain ⟨K', H'⟩ := ed_ok B9.L.ok hq hqp ed
      have L10 : LI (({ W9 with ls := ls' } : Wd).rows' rows') := LI.heads B9.L K' H' (by show ls'.length = rows'.length; rw [hll', H'.1]; exact B9.L.ln) (hm rows' ed) B9.L.src
      have B10 : LB x ld sl (({ W9 with ls := ls' } : Wd).rows' rows') hpB := ⟨SB, L10, H'.1.trans B9.len, B9.ex, B9.eld, B9.esl⟩
      refine ⟨false, rfl, _, rfl, nofun, fun _ => ?_⟩
      refine ⟨_, rfl, _, rfl, _, SB, by rw [B10.ex, B10.eld], K', L10.sy, by rw [B10.len]; decide, fun hpC SC fC => ⟨true, rfl, nofun, fun _ => ?_⟩⟩
      exact ⟨_, hpC, _, _, _, _, _, rfl, B10.on SC⟩
    · have hTA := fA.keep T7 _ hT9.1 hT9.2
      refine ⟨_, rfl, _, rfl, _, rfl, W9, i, p', q, qp, _, way, T7, SA, by rw [← B9.ex], hTA.1, hTA.2, B9.L.ok, hz9, hq, hqp, hway, fun rows' hpB ed SB fB => absurd ⟨rows', ed⟩ ncan, fun _ hpB SB fB => ?_⟩
      refine ⟨false, rfl, _, rfl, nofun, fun _ => ?_⟩
      refine ⟨_, rfl, _, rfl, W9, SB, by rw [B9.ex, B9.eld], B9.L.ok, B9.L.sy, hz9, fun hpC SC fC => ⟨true, rfl, nofun, fun _ => ?_⟩⟩
      exact ⟨_, hpC, _, _, _, _, _, rfl, B9.on SC⟩
  · rintro σ' ⟨W, hp', o5, o6, o7, o8, o9, rfl, B⟩
    refine ⟨trivial, ?_⟩
    refine ⟨_, rfl, _, rfl, _, rfl, W, B.S, by rw [B.esl, B.ex, B.eld], B.L, B.len, fun W' hpA K Y hle hsame hso SA fA => ⟨true, rfl, fun _ => ?_, nofun⟩⟩
    refine ⟨_, rfl, _, rfl, W', SA, by rw [fA.ex, fA.eld, B.ex, B.eld], K, Y, by omega, fun hpB SB fB => ⟨true, rfl, fun _ => ?_, nofun⟩⟩
    obtain ⟨q0, hq0, hk0⟩ := B.L.r0
    exact ⟨_, rfl, _, rfl, W', 0, q0, SB, by rw [fA.ex, B.ex], K, hle, (hsame 0 (by decide)).trans hq0, by rw [hk0]; decide, hso, fun hpC => h _⟩
end
end Mine

end

open PySem PySem.W PyProof.Rows PySem.Calls
set_option Elab.async false
set_option maxRecDepth 100000
set_option linter.unusedVariables false
namespace Mine
section
variable {prog : Program} {w : World} {mg mb : Str → Option Value}
/-- the law called by the caller of the claim -/
theorem law_root {s₁ : Shared} (G : TopOK prog w s₁.heap mg mb) {a p : Addr} {vs : List Value} {ns : List Int} (ha : mg "law" = some (.ref a)) (hL : s₁.heap.IsList p vs.toArray) (hI : IntsAre vs ns) (hn : ns.length ≤ 63) {Q E : Value → Shared → Prop}
    (hQ : ∀ s', (∀ b o, s₁.heap.get? b = some o → s'.heap.get? b = some o) → s'.os = s₁.os → s'.gens = s₁.gens → Q (.bool true) s') : wpAny (model prog w) callerA (call (.ref a) [.ref p]) Q E s₁ := by
  have h1 := mg_of G.X G.g (n := "law") (v := .ref 442) (by rfl)
  rw [ha] at h1
  cases h1
  have hi := of_intsAre hI
  have hz : (vs.toArray.toList.map ab).length ≤ 1000 := by
    have : (vs.map ab).length = ns.length := by rw [hi, List.length_map]
    simp at this ⊢; omega
  have cr : CR prog w s₁.heap [] (fun _ => none) s₁ := ⟨nofun, nofun, fun _ _ e => e, fun b h => absurd rfl h, trivial⟩
  have fok : FOKR 30 callerA [] := ⟨rfl, rfl, by decide, by decide⟩
  refine wpAny_call (codeAny_mono (R_law G hL (by simpa using hi) hz callerA [] (fun _ => none) s₁ [.ref p] (fun x _ => x = .bool true) (fun _ => False) fok cr ⟨rfl, fun _ => rfl⟩) fun r s' z => ?_)
  rcases r with e | (v | _ | _ | _)
  · obtain ⟨_, _, _, _, x⟩ := z; exact x.elim
  all_goals first | exact z.elim | skip
  all_goals
    obtain ⟨hp', st, _, q⟩ := z
    obtain rfl := ab_bool q
    exact hQ s' (fun b o e => (st.keep b o e rfl nofun).2.1 nofun) st.os st.gens
end
theorem top_ok {q : Program} (hq : importsNone q = true) {prog : Program} {loose : List Str} {R : WRecords} {XP : (Str → Option Value) → Heap → Prop} {w : World} {s₀ : Shared} {mg mb : Str → Option Value} {h : Heap} (G : Ground q loose R XP w s₀ mg mb h) (Y : InK KK w h) : TopOK prog w h mg mb :=
  { X := Y, g := G.T.g, b := G.T.b, nolimit := G.T.nolimit, builtins := G.T.builtins, low := by
      obtain ⟨mm, ⟨o, _, _, ho, _⟩, _⟩ := (G.T.seer hq).mods
      rw [ho]; simp }
theorem post_ok (args : List WData) : PySem.Challenge.rw_nu0066_01.row.toRowW.claim.post args (.bool true) args = true := by kernel_rfl
theorem said : PySem.Challenge.rw_nu0066_01.wellSaid = true := by
  rw [PySem.W.Fast.te9446332074065402090]
  kernel_rfl
end Mine
set_option maxRecDepth 100000 in
set_option maxHeartbeats 4000000 in
theorem PySem.Challenge.cw_nu0066_01_holds : PySem.Challenge.rw_nu0066_01.Holds := by
  refine holds_law Mine.said fun said => ?_
  refine PySem.W.holds_open (r := PySem.Challenge.rw_nu0066_01.row) (q := Mine.qv) (loose := Mine.lo) (Xt := fun _ => true) (XP := fun _ _ => True) (Yf := fun s => Mine.adK.map s.heap.get?) (Ya := fun w => (Mine.KK w.params).map fun p : Addr × Obj => some p.2) (YP := InK Mine.KK) (N := 5448) Mine.left (fun w s e => InK.of (as := Mine.adK) Mine.adK_ok w s e) InK.keeps (fun _ _ => trivial) (fun _ _ _ _ _ => trivial) (by rfl) (by rfl) (by rfl) (fun _ _ => recFacts_nil rfl) ?hwr said ?ok ?bare ?hw ?call
  case hwr => rfl
  case ok => decide +kernel
  case bare => exact ⟨rfl, rfl, rfl, rfl, rfl, by decide +kernel⟩
  case hw => w_witness2
  case call =>
    intro w s₀ s₁ mg mb G Y a o pm cd doc dV kV ho hd hcd hD hmg hg args vals as hpre hlay hrd hwl hlo
    clear ho hd hcd hD
    have hmg' : mg "law" = some (.ref a) := hmg
    clear hmg
    wrow_args hpre hlay hrd hwl hlo
    all_goals
      refine Mine.law_root (Mine.top_ok (by decide +kernel) G Y) hmg' (by assumption) (by assumption) (by omega) fun s' k os g => GoodW.toG ⟨.inl ⟨.bool true, .bool true, [], rfl, fun _ => rfl, .bool true, Mine.post_ok _, fun _ => ⟨List.nodup_nil, nofun⟩⟩, k, os, g.trans hg⟩
