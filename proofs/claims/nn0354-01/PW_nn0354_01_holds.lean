import PyProof.Rows.All
import Wide.All
import OpenK.AllK
import Wide.FinOn
import KE.KRevIter
import PyProof.FactsAll.range_2
import KE.KPop
import PyProof.WalksEnum
import PyProof.EnumMake
import PyProof.Rows.StrSplitCount
import PyProof.Rows.SumAny
import PyProof.FitsReplace
import PySem.Challenge.RW_nn0354_01
set_option Elab.async false
set_option linter.unusedVariables false
set_option linter.unusedSimpArgs false
set_option maxRecDepth 100000
set_option maxHeartbeats 8000000
open PySem PySem.W PyProof.Rows
namespace Mine
noncomputable def nth : List Stmt → Nat → Stmt
  | [], _ => .Pass ⟨0, 0, 0, 0⟩
  | s :: _, 0 => s
  | _ :: l, n + 1 => nth l n
noncomputable def inCls (s : Stmt) : List Stmt := match s with
  | .ClassDef _ _ _ b _ _ _ _ _ _ _ => b
  | _ => []
noncomputable def fnObj (s : Stmt) (qual md : String) (mt : Tok) (cd : Addr) (dV : Value) : Obj := match s with
  | .FunctionDef n ps b _ _ _ sc _ _ _ => { cls := .type "function", data := .func { name := n, qualname := Str.ofString qual, params := ps, body := .stmts b, scope := sc, globals := 3, closure := [], defaults := dV, kwdefaults := .none, pyModule := .str (Str.ofString md) mt, code := .ref cd } }
  | _ => { cls := .none }
noncomputable abbrev topBody : List Stmt := PySem.Challenge.pw_nn0354_01.main.body
noncomputable def hd.view_39 : Program := view PySem.Challenge.rw_nn0354_01.row.toRowW.prog [0, 2, 3, 4, 5, 7, 9, 10, 11, 12, 13, 14, 15, 16, 17, 18, 19, 20, 21, 22]
noncomputable def hd.heap_39 (P : Params) : Frag := [
  (2, { cls := Value.none, data := Data.dict #[] }),
  (3, { cls := Value.type "dict", data := Data.dict #[{ hash := PyData.keyHash P (Str.ofString "__name__"), key := Value.str (Str.ofString "__name__") 165, val := Value.str (Str.ofString "law_nn0354_01") 398 }, { hash := PyData.keyHash P (Str.ofString "__doc__"), key := Value.str (Str.ofString "__doc__") 166, val := Value.none }, { hash := PyData.keyHash P (Str.ofString "__package__"), key := Value.str (Str.ofString "__package__") 167, val := Value.none }, { hash := PyData.keyHash P (Str.ofString "__loader__"), key := Value.str (Str.ofString "__loader__") 168, val := Value.builtin "__main__.__loader__#opaque" }, { hash := PyData.keyHash P (Str.ofString "__spec__"), key := Value.str (Str.ofString "__spec__") 169, val := Value.none }, { hash := PyData.keyHash P (Str.ofString "__annotations__"), key := Value.str (Str.ofString "__annotations__") 170, val := Value.ref 6 }, { hash := PyData.keyHash P (Str.ofString "__builtins__"), key := Value.str (Str.ofString "__builtins__") 171, val := Value.ref 4 }, { hash := PyData.keyHash P (Str.ofString "__file__"), key := Value.str (Str.ofString "__file__") 173, val := Value.str (Str.ofString "/claim/cut.py") 172 }, { hash := PyData.keyHash P (Str.ofString "__cached__"), key := Value.str (Str.ofString "__cached__") 174, val := Value.none }, { hash := PyData.keyHash P (Str.ofString "_wall"), key := Value.str (Str.ofString "_wall") 193, val := Value.ref 21 }, { hash := PyData.keyHash P (Str.ofString "Tree"), key := Value.str (Str.ofString "Tree") 287, val := Value.ref 83 }, { hash := PyData.keyHash P (Str.ofString "Leaf"), key := Value.str (Str.ofString "Leaf") 329, val := Value.ref 118 }, { hash := PyData.keyHash P (Str.ofString "postorder"), key := Value.str (Str.ofString "postorder") 340, val := Value.ref 127 }, { hash := PyData.keyHash P (Str.ofString "derivation"), key := Value.str (Str.ofString "derivation") 346, val := Value.ref 132 }, { hash := PyData.keyHash P (Str.ofString "Token"), key := Value.str (Str.ofString "Token") 397, val := Value.ref 164 }, { hash := PyData.keyHash P (Str.ofString "_law_draw"), key := Value.str (Str.ofString "_law_draw") 411, val := Value.ref 175 }, { hash := PyData.keyHash P (Str.ofString "_law_leaf"), key := Value.str (Str.ofString "_law_leaf") 419, val := Value.ref 182 }, { hash := PyData.keyHash P (Str.ofString "_law_node"), key := Value.str (Str.ofString "_law_node") 425, val := Value.ref 187 }, { hash := PyData.keyHash P (Str.ofString "_law_plain"), key := Value.str (Str.ofString "_law_plain") 433, val := Value.ref 194 }, { hash := PyData.keyHash P (Str.ofString "_law_made"), key := Value.str (Str.ofString "_law_made") 439, val := Value.ref 199 }, { hash := PyData.keyHash P (Str.ofString "_law_told"), key := Value.str (Str.ofString "_law_told") 445, val := Value.ref 204 }, { hash := PyData.keyHash P (Str.ofString "_law_leaves"), key := Value.str (Str.ofString "_law_leaves") 454, val := Value.ref 211 }, { hash := PyData.keyHash P (Str.ofString "_law_rules"), key := Value.str (Str.ofString "_law_rules") 463, val := Value.ref 218 }, { hash := PyData.keyHash P (Str.ofString "_law_height"), key := Value.str (Str.ofString "_law_height") 469, val := Value.ref 223 }, { hash := PyData.keyHash P (Str.ofString "_law_page"), key := Value.str (Str.ofString "_law_page") 479, val := Value.ref 230 }, { hash := PyData.keyHash P (Str.ofString "_law_forms"), key := Value.str (Str.ofString "_law_forms") 485, val := Value.ref 235 }, { hash := PyData.keyHash P (Str.ofString "_law_opened"), key := Value.str (Str.ofString "_law_opened") 494, val := Value.ref 242 }, { hash := PyData.keyHash P (Str.ofString "_law_is_ordered"), key := Value.str (Str.ofString "_law_is_ordered") 500, val := Value.ref 247 }, { hash := PyData.keyHash P (Str.ofString "law"), key := Value.str (Str.ofString "law") 506, val := Value.ref 252 }] 29 }),
  (15, { cls := Value.type "tuple", data := Data.seq #[] }),
  (17, { cls := Value.type "tuple", data := Data.seq #[Value.str (Str.ofString "k") 190] }),
  (18, { cls := Value.type "tuple", data := Data.seq #[] }),
  (20, { cls := Value.type "code", data := Data.fields #[Value.str (Str.ofString "_wall") 187, Value.str (Str.ofString "_wall") 188, Value.str (Str.ofString "/claim/cut.py") 189, Value.int 1 0, Value.int 1 0, Value.int 0 0, Value.int 0 0, Value.int 3 0, Value.ref 15, Value.bool true, Value.int 181 0, Value.ref 16, Value.none, Value.ref 17, Value.ref 18, Value.ref 19, Value.int 191 0, Value.int 1 0, Value.str (Str.ofString "/claim/cut.py") 192] }),
  (21, fnObj (nth topBody 0) "_wall" "__main__" 164 20 Value.none),
  (29, { cls := Value.type "tuple", data := Data.seq #[] }),
  (31, { cls := Value.type "tuple", data := Data.seq #[Value.str (Str.ofString "self") 211, Value.str (Str.ofString "name") 212, Value.str (Str.ofString "rule") 213, Value.str (Str.ofString "children") 214] }),
  (32, { cls := Value.type "tuple", data := Data.seq #[] }),
  (34, { cls := Value.type "code", data := Data.fields #[Value.str (Str.ofString "__init__") 208, Value.str (Str.ofString "Tree.__init__") 209, Value.str (Str.ofString "/claim/cut.py") 210, Value.int 7 0, Value.int 4 0, Value.int 0 0, Value.int 0 0, Value.int 3 0, Value.ref 29, Value.bool true, Value.int 181 0, Value.ref 30, Value.none, Value.ref 31, Value.ref 32, Value.ref 33, Value.int 215 0, Value.int 7 0, Value.str (Str.ofString "/claim/cut.py") 216] }),
  (35, fnObj (nth (inCls (nth topBody 2)) 0) "Tree.__init__" "grammarmill.nodes" 194 34 Value.none),
  (36, { cls := Value.type "tuple", data := Data.seq #[] }),
  (38, { cls := Value.type "tuple", data := Data.seq #[Value.str (Str.ofString "self") 221] }),
  (39, { cls := Value.type "tuple", data := Data.seq #[] }),
  (41, { cls := Value.type "code", data := Data.fields #[Value.str (Str.ofString "is_leaf") 218, Value.str (Str.ofString "Tree.is_leaf") 219, Value.str (Str.ofString "/claim/cut.py") 220, Value.int 12 0, Value.int 1 0, Value.int 0 0, Value.int 0 0, Value.int 3 0, Value.ref 36, Value.bool true, Value.int 181 0, Value.ref 37, Value.none, Value.ref 38, Value.ref 39, Value.ref 40, Value.int 222 0, Value.int 12 0, Value.str (Str.ofString "/claim/cut.py") 223] }),
  (42, fnObj (nth (inCls (nth topBody 2)) 1) "Tree.is_leaf" "grammarmill.nodes" 194 41 Value.none),
  (43, { cls := Value.type "tuple", data := Data.seq #[] }),
  (45, { cls := Value.type "tuple", data := Data.seq #[Value.str (Str.ofString "self") 228] }),
  (46, { cls := Value.type "tuple", data := Data.seq #[] }),
  (48, { cls := Value.type "code", data := Data.fields #[Value.str (Str.ofString "head") 225, Value.str (Str.ofString "Tree.head") 226, Value.str (Str.ofString "/claim/cut.py") 227, Value.int 15 0, Value.int 1 0, Value.int 0 0, Value.int 0 0, Value.int 3 0, Value.ref 43, Value.bool true, Value.int 181 0, Value.ref 44, Value.none, Value.ref 45, Value.ref 46, Value.ref 47, Value.int 229 0, Value.int 15 0, Value.str (Str.ofString "/claim/cut.py") 230] }),
  (49, fnObj (nth (inCls (nth topBody 2)) 2) "Tree.head" "grammarmill.nodes" 194 48 Value.none),
  (50, { cls := Value.type "tuple", data := Data.seq #[] }),
  (52, { cls := Value.type "tuple", data := Data.seq #[Value.str (Str.ofString "self") 235, Value.str (Str.ofString "done") 236, Value.str (Str.ofString "node") 237, Value.str (Str.ofString "start") 238] }),
  (53, { cls := Value.type "tuple", data := Data.seq #[] }),
  (55, { cls := Value.type "code", data := Data.fields #[Value.str (Str.ofString "told") 232, Value.str (Str.ofString "Tree.told") 233, Value.str (Str.ofString "/claim/cut.py") 234, Value.int 18 0, Value.int 1 0, Value.int 0 0, Value.int 0 0, Value.int 3 0, Value.ref 50, Value.bool true, Value.int 181 0, Value.ref 51, Value.none, Value.ref 52, Value.ref 53, Value.ref 54, Value.int 239 0, Value.int 18 0, Value.str (Str.ofString "/claim/cut.py") 240] }),
  (56, fnObj (nth (inCls (nth topBody 2)) 3) "Tree.told" "grammarmill.nodes" 194 55 Value.none),
  (57, { cls := Value.type "tuple", data := Data.seq #[] }),
  (60, { cls := Value.type "code", data := Data.fields #[Value.str (Str.ofString "leaves") 242, Value.str (Str.ofString "Tree.leaves") 243, Value.str (Str.ofString "/claim/cut.py") 244, Value.int 28 0, Value.int 1 0, Value.int 0 0, Value.int 0 0, Value.int 3 0, Value.ref 57, Value.bool true, Value.int 181 0, Value.ref 58, Value.none, Value.none, Value.none, Value.ref 59, Value.int 245 0, Value.int 28 0, Value.str (Str.ofString "/claim/cut.py") 246] }),
  (61, fnObj (nth (inCls (nth topBody 2)) 4) "Tree.leaves" "grammarmill.nodes" 194 60 Value.none),
  (62, { cls := Value.type "tuple", data := Data.seq #[] }),
  (65, { cls := Value.type "code", data := Data.fields #[Value.str (Str.ofString "reductions") 248, Value.str (Str.ofString "Tree.reductions") 249, Value.str (Str.ofString "/claim/cut.py") 250, Value.int 31 0, Value.int 1 0, Value.int 0 0, Value.int 0 0, Value.int 3 0, Value.ref 62, Value.bool true, Value.int 181 0, Value.ref 63, Value.none, Value.none, Value.none, Value.ref 64, Value.int 251 0, Value.int 31 0, Value.str (Str.ofString "/claim/cut.py") 252] }),
  (66, fnObj (nth (inCls (nth topBody 2)) 5) "Tree.reductions" "grammarmill.nodes" 194 65 Value.none),
  (67, { cls := Value.type "tuple", data := Data.seq #[] }),
  (69, { cls := Value.type "tuple", data := Data.seq #[Value.str (Str.ofString "self") 257, Value.str (Str.ofString "done") 258, Value.str (Str.ofString "node") 259, Value.str (Str.ofString "start") 260, Value.str (Str.ofString "below") 261] }),
  (70, { cls := Value.type "tuple", data := Data.seq #[] }),
  (72, { cls := Value.type "code", data := Data.fields #[Value.str (Str.ofString "height") 254, Value.str (Str.ofString "Tree.height") 255, Value.str (Str.ofString "/claim/cut.py") 256, Value.int 34 0, Value.int 1 0, Value.int 0 0, Value.int 0 0, Value.int 3 0, Value.ref 67, Value.bool true, Value.int 181 0, Value.ref 68, Value.none, Value.ref 69, Value.ref 70, Value.ref 71, Value.int 262 0, Value.int 34 0, Value.str (Str.ofString "/claim/cut.py") 263] }),
  (73, fnObj (nth (inCls (nth topBody 2)) 6) "Tree.height" "grammarmill.nodes" 194 72 Value.none),
  (74, { cls := Value.type "tuple", data := Data.seq #[] }),
  (76, { cls := Value.type "tuple", data := Data.seq #[Value.str (Str.ofString "self") 268, Value.str (Str.ofString "rows") 269, Value.str (Str.ofString "line") 270, Value.str (Str.ofString "node") 271, Value.str (Str.ofString "deep") 272, Value.str (Str.ofString "child") 273] }),
  (77, { cls := Value.type "tuple", data := Data.seq #[] }),
  (79, { cls := Value.type "code", data := Data.fields #[Value.str (Str.ofString "show") 265, Value.str (Str.ofString "Tree.show") 266, Value.str (Str.ofString "/claim/cut.py") 267, Value.int 42 0, Value.int 1 0, Value.int 0 0, Value.int 0 0, Value.int 3 0, Value.ref 74, Value.bool true, Value.int 181 0, Value.ref 75, Value.none, Value.ref 76, Value.ref 77, Value.ref 78, Value.int 274 0, Value.int 42 0, Value.str (Str.ofString "/claim/cut.py") 275] }),
  (80, fnObj (nth (inCls (nth topBody 2)) 7) "Tree.show" "grammarmill.nodes" 194 79 Value.none),
  (81, { cls := Value.type "tuple", data := Data.seq #[Value.str (Str.ofString "children") 277, Value.str (Str.ofString "name") 278, Value.str (Str.ofString "rule") 279] }),
  (82, { cls := Value.type "dict", data := Data.dict #[{ hash := PyData.keyHash P (Str.ofString "__module__"), key := Value.str (Str.ofString "__module__") 203, val := Value.str (Str.ofString "grammarmill.nodes") 194 }, { hash := PyData.keyHash P (Str.ofString "__firstlineno__"), key := Value.str (Str.ofString "__firstlineno__") 207, val := Value.int 5 206 }, { hash := PyData.keyHash P (Str.ofString "__init__"), key := Value.str (Str.ofString "__init__") 217, val := Value.ref 35 }, { hash := PyData.keyHash P (Str.ofString "is_leaf"), key := Value.str (Str.ofString "is_leaf") 224, val := Value.ref 42 }, { hash := PyData.keyHash P (Str.ofString "head"), key := Value.str (Str.ofString "head") 231, val := Value.ref 49 }, { hash := PyData.keyHash P (Str.ofString "told"), key := Value.str (Str.ofString "told") 241, val := Value.ref 56 }, { hash := PyData.keyHash P (Str.ofString "leaves"), key := Value.str (Str.ofString "leaves") 247, val := Value.ref 61 }, { hash := PyData.keyHash P (Str.ofString "reductions"), key := Value.str (Str.ofString "reductions") 253, val := Value.ref 66 }, { hash := PyData.keyHash P (Str.ofString "height"), key := Value.str (Str.ofString "height") 264, val := Value.ref 73 }, { hash := PyData.keyHash P (Str.ofString "show"), key := Value.str (Str.ofString "show") 276, val := Value.ref 80 }, { hash := PyData.keyHash P (Str.ofString "__static_attributes__"), key := Value.str (Str.ofString "__static_attributes__") 280, val := Value.ref 81 }, { hash := PyData.keyHash P (Str.ofString "__dict__"), key := Value.str (Str.ofString "__dict__") 282, val := Value.ref 84 }, { hash := PyData.keyHash P (Str.ofString "__weakref__"), key := Value.str (Str.ofString "__weakref__") 284, val := Value.ref 85 }, { hash := PyData.keyHash P (Str.ofString "__doc__"), key := Value.str (Str.ofString "__doc__") 285, val := Value.none }] 4 }),
  (83, { cls := Value.type "type", data := Data.cls { name := Str.ofString "Tree", bases := [Value.type "object"], mro := [Value.ref 83, Value.type "object"], ns := 82, qualname := Str.ofString "Tree", subclasses := [Value.ref 118] }, slots := #[none, none, some (Value.str (Str.ofString "Tree") 196), some (Value.str (Str.ofString "Tree") 204), some (Value.builtin "object.__new__"), some (Value.bool true)] }),
  (84, { cls := Value.type "getset_descriptor", data := Data.fields #[Value.str (Str.ofString "__dict__") 281, Value.ref 83, Value.builtin "function.__dict__", Value.builtin "function.__dict__#set"] }),
  (85, { cls := Value.type "getset_descriptor", data := Data.fields #[Value.str (Str.ofString "__weakref__") 283, Value.ref 83, Value.builtin "ExceptionGroup.__weakref__", Value.none] }),
  (88, { cls := Value.type "tuple", data := Data.seq #[Value.ref 83] }),
  (95, { cls := Value.type "tuple", data := Data.seq #[] }),
  (97, { cls := Value.type "tuple", data := Data.seq #[Value.str (Str.ofString "self") 303, Value.str (Str.ofString "token") 304] }),
  (98, { cls := Value.type "tuple", data := Data.seq #[] }),
  (100, { cls := Value.type "code", data := Data.fields #[Value.str (Str.ofString "__init__") 300, Value.str (Str.ofString "Leaf.__init__") 301, Value.str (Str.ofString "/claim/cut.py") 302, Value.int 53 0, Value.int 2 0, Value.int 0 0, Value.int 0 0, Value.int 3 0, Value.ref 95, Value.bool true, Value.int 181 0, Value.ref 96, Value.none, Value.ref 97, Value.ref 98, Value.ref 99, Value.int 305 0, Value.int 53 0, Value.str (Str.ofString "/claim/cut.py") 306] }),
  (101, fnObj (nth (inCls (nth topBody 3)) 0) "Leaf.__init__" "grammarmill.nodes" 194 100 Value.none),
  (102, { cls := Value.type "tuple", data := Data.seq #[] }),
  (104, { cls := Value.type "tuple", data := Data.seq #[Value.str (Str.ofString "self") 311] }),
  (105, { cls := Value.type "tuple", data := Data.seq #[] }),
  (107, { cls := Value.type "code", data := Data.fields #[Value.str (Str.ofString "is_leaf") 308, Value.str (Str.ofString "Leaf.is_leaf") 309, Value.str (Str.ofString "/claim/cut.py") 310, Value.int 59 0, Value.int 1 0, Value.int 0 0, Value.int 0 0, Value.int 3 0, Value.ref 102, Value.bool true, Value.int 181 0, Value.ref 103, Value.none, Value.ref 104, Value.ref 105, Value.ref 106, Value.int 312 0, Value.int 59 0, Value.str (Str.ofString "/claim/cut.py") 313] }),
  (108, fnObj (nth (inCls (nth topBody 3)) 1) "Leaf.is_leaf" "grammarmill.nodes" 194 107 Value.none),
  (109, { cls := Value.type "tuple", data := Data.seq #[] }),
  (111, { cls := Value.type "tuple", data := Data.seq #[Value.str (Str.ofString "self") 318] }),
  (112, { cls := Value.type "tuple", data := Data.seq #[] }),
  (114, { cls := Value.type "code", data := Data.fields #[Value.str (Str.ofString "head") 315, Value.str (Str.ofString "Leaf.head") 316, Value.str (Str.ofString "/claim/cut.py") 317, Value.int 62 0, Value.int 1 0, Value.int 0 0, Value.int 0 0, Value.int 3 0, Value.ref 109, Value.bool true, Value.int 181 0, Value.ref 110, Value.none, Value.ref 111, Value.ref 112, Value.ref 113, Value.int 319 0, Value.int 62 0, Value.str (Str.ofString "/claim/cut.py") 320] }),
  (115, fnObj (nth (inCls (nth topBody 3)) 2) "Leaf.head" "grammarmill.nodes" 194 114 Value.none),
  (116, { cls := Value.type "tuple", data := Data.seq #[Value.str (Str.ofString "children") 322, Value.str (Str.ofString "name") 323, Value.str (Str.ofString "rule") 324, Value.str (Str.ofString "token") 325] }),
  (117, { cls := Value.type "dict", data := Data.dict #[{ hash := PyData.keyHash P (Str.ofString "__module__"), key := Value.str (Str.ofString "__module__") 295, val := Value.str (Str.ofString "grammarmill.nodes") 194 }, { hash := PyData.keyHash P (Str.ofString "__firstlineno__"), key := Value.str (Str.ofString "__firstlineno__") 299, val := Value.int 51 298 }, { hash := PyData.keyHash P (Str.ofString "__init__"), key := Value.str (Str.ofString "__init__") 307, val := Value.ref 101 }, { hash := PyData.keyHash P (Str.ofString "is_leaf"), key := Value.str (Str.ofString "is_leaf") 314, val := Value.ref 108 }, { hash := PyData.keyHash P (Str.ofString "head"), key := Value.str (Str.ofString "head") 321, val := Value.ref 115 }, { hash := PyData.keyHash P (Str.ofString "__static_attributes__"), key := Value.str (Str.ofString "__static_attributes__") 326, val := Value.ref 116 }, { hash := PyData.keyHash P (Str.ofString "__doc__"), key := Value.str (Str.ofString "__doc__") 327, val := Value.none }] 2 }),
  (118, { cls := Value.type "type", data := Data.cls { name := Str.ofString "Leaf", bases := [Value.ref 83], mro := [Value.ref 118, Value.ref 83, Value.type "object"], ns := 117, qualname := Str.ofString "Leaf" }, slots := #[some (Value.ref 88), none, some (Value.str (Str.ofString "Leaf") 288), some (Value.str (Str.ofString "Leaf") 296), some (Value.builtin "object.__new__"), some (Value.bool true)] }),
  (121, { cls := Value.type "tuple", data := Data.seq #[] }),
  (123, { cls := Value.type "tuple", data := Data.seq #[Value.str (Str.ofString "tree") 333, Value.str (Str.ofString "found") 334, Value.str (Str.ofString "line") 335, Value.str (Str.ofString "node") 336, Value.str (Str.ofString "child") 337] }),
  (124, { cls := Value.type "tuple", data := Data.seq #[] }),
  (126, { cls := Value.type "code", data := Data.fields #[Value.str (Str.ofString "postorder") 330, Value.str (Str.ofString "postorder") 331, Value.str (Str.ofString "/claim/cut.py") 332, Value.int 66 0, Value.int 1 0, Value.int 0 0, Value.int 0 0, Value.int 3 0, Value.ref 121, Value.bool true, Value.int 181 0, Value.ref 122, Value.none, Value.ref 123, Value.ref 124, Value.ref 125, Value.int 338 0, Value.int 66 0, Value.str (Str.ofString "/claim/cut.py") 339] }),
  (127, fnObj (nth topBody 4) "postorder" "grammarmill.nodes" 194 126 Value.none),
  (128, { cls := Value.type "tuple", data := Data.seq #[] }),
  (131, { cls := Value.type "code", data := Data.fields #[Value.str (Str.ofString "derivation") 341, Value.str (Str.ofString "derivation") 342, Value.str (Str.ofString "/claim/cut.py") 343, Value.int 75 0, Value.int 1 0, Value.int 0 0, Value.int 0 0, Value.int 3 0, Value.ref 128, Value.bool true, Value.int 181 0, Value.ref 129, Value.none, Value.none, Value.none, Value.ref 130, Value.int 344 0, Value.int 75 0, Value.str (Str.ofString "/claim/cut.py") 345] }),
  (132, fnObj (nth topBody 5) "derivation" "grammarmill.nodes" 194 131 Value.none),
  (140, { cls := Value.type "tuple", data := Data.seq #[Value.none] }),
  (141, { cls := Value.type "tuple", data := Data.seq #[] }),
  (143, { cls := Value.type "tuple", data := Data.seq #[Value.str (Str.ofString "self") 364, Value.str (Str.ofString "kind") 365, Value.str (Str.ofString "text") 366, Value.str (Str.ofString "at") 367, Value.str (Str.ofString "worth") 368] }),
  (144, { cls := Value.type "tuple", data := Data.seq #[] }),
  (146, { cls := Value.type "code", data := Data.fields #[Value.str (Str.ofString "__init__") 361, Value.str (Str.ofString "Token.__init__") 362, Value.str (Str.ofString "/claim/cut.py") 363, Value.int 88 0, Value.int 5 0, Value.int 0 0, Value.int 0 0, Value.int 3 0, Value.ref 141, Value.bool true, Value.int 181 0, Value.ref 142, Value.none, Value.ref 143, Value.ref 144, Value.ref 145, Value.int 369 0, Value.int 88 0, Value.str (Str.ofString "/claim/cut.py") 370] }),
  (147, fnObj (nth (inCls (nth topBody 7)) 0) "Token.__init__" "grammarmill.source" 347 146 (Value.ref 140)),
  (148, { cls := Value.type "tuple", data := Data.seq #[] }),
  (150, { cls := Value.type "tuple", data := Data.seq #[Value.str (Str.ofString "self") 375] }),
  (151, { cls := Value.type "tuple", data := Data.seq #[] }),
  (153, { cls := Value.type "code", data := Data.fields #[Value.str (Str.ofString "told") 372, Value.str (Str.ofString "Token.told") 373, Value.str (Str.ofString "/claim/cut.py") 374, Value.int 94 0, Value.int 1 0, Value.int 0 0, Value.int 0 0, Value.int 3 0, Value.ref 148, Value.bool true, Value.int 181 0, Value.ref 149, Value.none, Value.ref 150, Value.ref 151, Value.ref 152, Value.int 376 0, Value.int 94 0, Value.str (Str.ofString "/claim/cut.py") 377] }),
  (154, fnObj (nth (inCls (nth topBody 7)) 1) "Token.told" "grammarmill.source" 347 153 Value.none),
  (155, { cls := Value.type "tuple", data := Data.seq #[] }),
  (157, { cls := Value.type "tuple", data := Data.seq #[Value.str (Str.ofString "self") 382] }),
  (158, { cls := Value.type "tuple", data := Data.seq #[] }),
  (160, { cls := Value.type "code", data := Data.fields #[Value.str (Str.ofString "is_end") 379, Value.str (Str.ofString "Token.is_end") 380, Value.str (Str.ofString "/claim/cut.py") 381, Value.int 97 0, Value.int 1 0, Value.int 0 0, Value.int 0 0, Value.int 3 0, Value.ref 155, Value.bool true, Value.int 181 0, Value.ref 156, Value.none, Value.ref 157, Value.ref 158, Value.ref 159, Value.int 383 0, Value.int 97 0, Value.str (Str.ofString "/claim/cut.py") 384] }),
  (161, fnObj (nth (inCls (nth topBody 7)) 2) "Token.is_end" "grammarmill.source" 347 160 Value.none),
  (162, { cls := Value.type "tuple", data := Data.seq #[Value.str (Str.ofString "at") 386, Value.str (Str.ofString "kind") 387, Value.str (Str.ofString "text") 388, Value.str (Str.ofString "worth") 389] }),
  (163, { cls := Value.type "dict", data := Data.dict #[{ hash := PyData.keyHash P (Str.ofString "__module__"), key := Value.str (Str.ofString "__module__") 356, val := Value.str (Str.ofString "grammarmill.source") 347 }, { hash := PyData.keyHash P (Str.ofString "__firstlineno__"), key := Value.str (Str.ofString "__firstlineno__") 360, val := Value.int 86 359 }, { hash := PyData.keyHash P (Str.ofString "__init__"), key := Value.str (Str.ofString "__init__") 371, val := Value.ref 147 }, { hash := PyData.keyHash P (Str.ofString "told"), key := Value.str (Str.ofString "told") 378, val := Value.ref 154 }, { hash := PyData.keyHash P (Str.ofString "is_end"), key := Value.str (Str.ofString "is_end") 385, val := Value.ref 161 }, { hash := PyData.keyHash P (Str.ofString "__static_attributes__"), key := Value.str (Str.ofString "__static_attributes__") 390, val := Value.ref 162 }, { hash := PyData.keyHash P (Str.ofString "__dict__"), key := Value.str (Str.ofString "__dict__") 392, val := Value.ref 165 }, { hash := PyData.keyHash P (Str.ofString "__weakref__"), key := Value.str (Str.ofString "__weakref__") 394, val := Value.ref 166 }, { hash := PyData.keyHash P (Str.ofString "__doc__"), key := Value.str (Str.ofString "__doc__") 395, val := Value.none }] 4 }),
  (164, { cls := Value.type "type", data := Data.cls { name := Str.ofString "Token", bases := [Value.type "object"], mro := [Value.ref 164, Value.type "object"], ns := 163, qualname := Str.ofString "Token" }, slots := #[none, none, some (Value.str (Str.ofString "Token") 349), some (Value.str (Str.ofString "Token") 357), some (Value.builtin "object.__new__"), some (Value.bool true)] }),
  (165, { cls := Value.type "getset_descriptor", data := Data.fields #[Value.str (Str.ofString "__dict__") 391, Value.ref 164, Value.builtin "function.__dict__", Value.builtin "function.__dict__#set"] }),
  (166, { cls := Value.type "getset_descriptor", data := Data.fields #[Value.str (Str.ofString "__weakref__") 393, Value.ref 164, Value.builtin "ExceptionGroup.__weakref__", Value.none] }),
  (169, { cls := Value.type "tuple", data := Data.seq #[] }),
  (171, { cls := Value.type "tuple", data := Data.seq #[Value.str (Str.ofString "pen") 403, Value.str (Str.ofString "many") 404, Value.str (Str.ofString "digit") 405, Value.str (Str.ofString "spot") 406, Value.str (Str.ofString "cell") 407, Value.str (Str.ofString "great") 408] }),
  (172, { cls := Value.type "tuple", data := Data.seq #[] }),
  (174, { cls := Value.type "code", data := Data.fields #[Value.str (Str.ofString "_law_draw") 400, Value.str (Str.ofString "_law_draw") 401, Value.str (Str.ofString "/claim/cut.py") 402, Value.int 100 0, Value.int 2 0, Value.int 0 0, Value.int 0 0, Value.int 3 0, Value.ref 169, Value.bool true, Value.int 181 0, Value.ref 170, Value.none, Value.ref 171, Value.ref 172, Value.ref 173, Value.int 409 0, Value.int 100 0, Value.str (Str.ofString "/claim/cut.py") 410] }),
  (175, fnObj (nth topBody 9) "_law_draw" "law_nn0354_01" 398 174 Value.none),
  (176, { cls := Value.type "tuple", data := Data.seq #[] }),
  (178, { cls := Value.type "tuple", data := Data.seq #[Value.str (Str.ofString "pen") 415, Value.str (Str.ofString "kind") 416] }),
  (179, { cls := Value.type "tuple", data := Data.seq #[] }),
  (181, { cls := Value.type "code", data := Data.fields #[Value.str (Str.ofString "_law_leaf") 412, Value.str (Str.ofString "_law_leaf") 413, Value.str (Str.ofString "/claim/cut.py") 414, Value.int 115 0, Value.int 1 0, Value.int 0 0, Value.int 0 0, Value.int 3 0, Value.ref 176, Value.bool true, Value.int 181 0, Value.ref 177, Value.none, Value.ref 178, Value.ref 179, Value.ref 180, Value.int 417 0, Value.int 115 0, Value.str (Str.ofString "/claim/cut.py") 418] }),
  (182, fnObj (nth topBody 10) "_law_leaf" "law_nn0354_01" 398 181 Value.none),
  (183, { cls := Value.type "tuple", data := Data.seq #[] }),
  (186, { cls := Value.type "code", data := Data.fields #[Value.str (Str.ofString "_law_node") 420, Value.str (Str.ofString "_law_node") 421, Value.str (Str.ofString "/claim/cut.py") 422, Value.int 118 0, Value.int 2 0, Value.int 0 0, Value.int 0 0, Value.int 3 0, Value.ref 183, Value.bool true, Value.int 181 0, Value.ref 184, Value.none, Value.none, Value.none, Value.ref 185, Value.int 423 0, Value.int 118 0, Value.str (Str.ofString "/claim/cut.py") 424] }),
  (187, fnObj (nth topBody 11) "_law_node" "law_nn0354_01" 398 186 Value.none),
  (188, { cls := Value.type "tuple", data := Data.seq #[] }),
  (190, { cls := Value.type "tuple", data := Data.seq #[Value.str (Str.ofString "pen") 429, Value.str (Str.ofString "deep") 430] }),
  (191, { cls := Value.type "tuple", data := Data.seq #[] }),
  (193, { cls := Value.type "code", data := Data.fields #[Value.str (Str.ofString "_law_plain") 426, Value.str (Str.ofString "_law_plain") 427, Value.str (Str.ofString "/claim/cut.py") 428, Value.int 121 0, Value.int 2 0, Value.int 0 0, Value.int 0 0, Value.int 3 0, Value.ref 188, Value.bool true, Value.int 181 0, Value.ref 189, Value.none, Value.ref 190, Value.ref 191, Value.ref 192, Value.int 431 0, Value.int 121 0, Value.str (Str.ofString "/claim/cut.py") 432] }),
  (194, fnObj (nth topBody 12) "_law_plain" "law_nn0354_01" 398 193 Value.none),
  (195, { cls := Value.type "tuple", data := Data.seq #[] }),
  (198, { cls := Value.type "code", data := Data.fields #[Value.str (Str.ofString "_law_made") 434, Value.str (Str.ofString "_law_made") 435, Value.str (Str.ofString "/claim/cut.py") 436, Value.int 123 0, Value.int 1 0, Value.int 0 0, Value.int 0 0, Value.int 3 0, Value.ref 195, Value.bool true, Value.int 181 0, Value.ref 196, Value.none, Value.none, Value.none, Value.ref 197, Value.int 437 0, Value.int 123 0, Value.str (Str.ofString "/claim/cut.py") 438] }),
  (199, fnObj (nth topBody 13) "_law_made" "law_nn0354_01" 398 198 Value.none),
  (200, { cls := Value.type "tuple", data := Data.seq #[] }),
  (203, { cls := Value.type "code", data := Data.fields #[Value.str (Str.ofString "_law_told") 440, Value.str (Str.ofString "_law_told") 441, Value.str (Str.ofString "/claim/cut.py") 442, Value.int 130 0, Value.int 1 0, Value.int 0 0, Value.int 0 0, Value.int 3 0, Value.ref 200, Value.bool true, Value.int 181 0, Value.ref 201, Value.none, Value.none, Value.none, Value.ref 202, Value.int 443 0, Value.int 130 0, Value.str (Str.ofString "/claim/cut.py") 444] }),
  (204, fnObj (nth topBody 14) "_law_told" "law_nn0354_01" 398 203 Value.none),
  (205, { cls := Value.type "tuple", data := Data.seq #[] }),
  (207, { cls := Value.type "tuple", data := Data.seq #[Value.str (Str.ofString "plain") 449, Value.str (Str.ofString "found") 450, Value.str (Str.ofString "one") 451] }),
  (208, { cls := Value.type "tuple", data := Data.seq #[] }),
  (210, { cls := Value.type "code", data := Data.fields #[Value.str (Str.ofString "_law_leaves") 446, Value.str (Str.ofString "_law_leaves") 447, Value.str (Str.ofString "/claim/cut.py") 448, Value.int 132 0, Value.int 1 0, Value.int 0 0, Value.int 0 0, Value.int 3 0, Value.ref 205, Value.bool true, Value.int 181 0, Value.ref 206, Value.none, Value.ref 207, Value.ref 208, Value.ref 209, Value.int 452 0, Value.int 132 0, Value.str (Str.ofString "/claim/cut.py") 453] }),
  (211, fnObj (nth topBody 15) "_law_leaves" "law_nn0354_01" 398 210 Value.none),
  (212, { cls := Value.type "tuple", data := Data.seq #[] }),
  (214, { cls := Value.type "tuple", data := Data.seq #[Value.str (Str.ofString "plain") 458, Value.str (Str.ofString "found") 459, Value.str (Str.ofString "one") 460] }),
  (215, { cls := Value.type "tuple", data := Data.seq #[] }),
  (217, { cls := Value.type "code", data := Data.fields #[Value.str (Str.ofString "_law_rules") 455, Value.str (Str.ofString "_law_rules") 456, Value.str (Str.ofString "/claim/cut.py") 457, Value.int 139 0, Value.int 1 0, Value.int 0 0, Value.int 0 0, Value.int 3 0, Value.ref 212, Value.bool true, Value.int 181 0, Value.ref 213, Value.none, Value.ref 214, Value.ref 215, Value.ref 216, Value.int 461 0, Value.int 139 0, Value.str (Str.ofString "/claim/cut.py") 462] }),
  (218, fnObj (nth topBody 16) "_law_rules" "law_nn0354_01" 398 217 Value.none),
  (219, { cls := Value.type "tuple", data := Data.seq #[] }),
  (222, { cls := Value.type "code", data := Data.fields #[Value.str (Str.ofString "_law_height") 464, Value.str (Str.ofString "_law_height") 465, Value.str (Str.ofString "/claim/cut.py") 466, Value.int 146 0, Value.int 1 0, Value.int 0 0, Value.int 0 0, Value.int 3 0, Value.ref 219, Value.bool true, Value.int 181 0, Value.ref 220, Value.none, Value.none, Value.none, Value.ref 221, Value.int 467 0, Value.int 146 0, Value.str (Str.ofString "/claim/cut.py") 468] }),
  (223, fnObj (nth topBody 17) "_law_height" "law_nn0354_01" 398 222 Value.none),
  (224, { cls := Value.type "tuple", data := Data.seq #[] }),
  (226, { cls := Value.type "tuple", data := Data.seq #[Value.str (Str.ofString "plain") 473, Value.str (Str.ofString "deep") 474, Value.str (Str.ofString "rows") 475, Value.str (Str.ofString "one") 476] }),
  (227, { cls := Value.type "tuple", data := Data.seq #[] }),
  (229, { cls := Value.type "code", data := Data.fields #[Value.str (Str.ofString "_law_page") 470, Value.str (Str.ofString "_law_page") 471, Value.str (Str.ofString "/claim/cut.py") 472, Value.int 148 0, Value.int 2 0, Value.int 0 0, Value.int 0 0, Value.int 3 0, Value.ref 224, Value.bool true, Value.int 181 0, Value.ref 225, Value.none, Value.ref 226, Value.ref 227, Value.ref 228, Value.int 477 0, Value.int 148 0, Value.str (Str.ofString "/claim/cut.py") 478] }),
  (230, fnObj (nth topBody 18) "_law_page" "law_nn0354_01" 398 229 Value.none),
  (231, { cls := Value.type "tuple", data := Data.seq #[] }),
  (234, { cls := Value.type "code", data := Data.fields #[Value.str (Str.ofString "_law_forms") 480, Value.str (Str.ofString "_law_forms") 481, Value.str (Str.ofString "/claim/cut.py") 482, Value.int 155 0, Value.int 3 0, Value.int 0 0, Value.int 0 0, Value.int 3 0, Value.ref 231, Value.bool true, Value.int 181 0, Value.ref 232, Value.none, Value.none, Value.none, Value.ref 233, Value.int 483 0, Value.int 155 0, Value.str (Str.ofString "/claim/cut.py") 484] }),
  (235, fnObj (nth topBody 19) "_law_forms" "law_nn0354_01" 398 234 Value.none),
  (236, { cls := Value.type "tuple", data := Data.seq #[] }),
  (238, { cls := Value.type "tuple", data := Data.seq #[Value.str (Str.ofString "plain") 489, Value.str (Str.ofString "found") 490, Value.str (Str.ofString "one") 491] }),
  (239, { cls := Value.type "tuple", data := Data.seq #[] }),
  (241, { cls := Value.type "code", data := Data.fields #[Value.str (Str.ofString "_law_opened") 486, Value.str (Str.ofString "_law_opened") 487, Value.str (Str.ofString "/claim/cut.py") 488, Value.int 164 0, Value.int 1 0, Value.int 0 0, Value.int 0 0, Value.int 3 0, Value.ref 236, Value.bool true, Value.int 181 0, Value.ref 237, Value.none, Value.ref 238, Value.ref 239, Value.ref 240, Value.int 492 0, Value.int 164 0, Value.str (Str.ofString "/claim/cut.py") 493] }),
  (242, fnObj (nth topBody 20) "_law_opened" "law_nn0354_01" 398 241 Value.none),
  (243, { cls := Value.type "tuple", data := Data.seq #[] }),
  (246, { cls := Value.type "code", data := Data.fields #[Value.str (Str.ofString "_law_is_ordered") 495, Value.str (Str.ofString "_law_is_ordered") 496, Value.str (Str.ofString "/claim/cut.py") 497, Value.int 171 0, Value.int 1 0, Value.int 0 0, Value.int 0 0, Value.int 3 0, Value.ref 243, Value.bool true, Value.int 181 0, Value.ref 244, Value.none, Value.none, Value.none, Value.ref 245, Value.int 498 0, Value.int 171 0, Value.str (Str.ofString "/claim/cut.py") 499] }),
  (247, fnObj (nth topBody 21) "_law_is_ordered" "law_nn0354_01" 398 246 Value.none),
  (248, { cls := Value.type "tuple", data := Data.seq #[] }),
  (251, { cls := Value.type "code", data := Data.fields #[Value.str (Str.ofString "law") 501, Value.str (Str.ofString "law") 502, Value.str (Str.ofString "/claim/cut.py") 503, Value.int 182 0, Value.int 1 0, Value.int 0 0, Value.int 0 0, Value.int 3 0, Value.ref 248, Value.bool true, Value.int 181 0, Value.ref 249, Value.none, Value.none, Value.none, Value.ref 250, Value.int 504 0, Value.int 182 0, Value.str (Str.ofString "/claim/cut.py") 505] }),
  (252, fnObj (nth topBody 22) "law" "law_nn0354_01" 398 251 Value.none)]
end Mine
open PySem.Spec PySem.Calls
namespace Mine
abbrev Led := List (Addr × Obj)
def Ext (h h' : Heap) : Prop := ∀ b o, h.get? b = some o → h'.get? b = some o
def Has (h : Heap) (R : Led) : Prop := ∀ p ∈ R, h.get? p.1 = some p.2
abbrev NoE : Value → Shared → Prop := fun _ _ => False
noncomputable abbrev PP : Program := PySem.Challenge.rw_nn0354_01.row.prog

structure Cx (A : Around) (d u : Nat) : Prop where
  hd : A.handled = none
  dp : A.depth + d < recursionLimit
  un : A.units + u < cLine

structure Tp (w : World) (h : Heap) : Prop where
  K : (Mine.hd.heap_39 w.params).In h
  T : ∃ mean mg mb, Top Mine.hd.view_39 (looseW Mine.hd.view_39 []) mean mg mb h

theorem Ext.refl (h : Heap) : Ext h h := fun _ _ e => e
theorem Ext.trans {a b c : Heap} (x : Ext a b) (y : Ext b c) : Ext a c := fun p o e => y p o (x p o e)
theorem Tp.keeps {w : World} {h h' : Heap} (T : Tp w h) (k : Ext h h') : Tp w h' := ⟨T.K.keeps k, let ⟨a, b, c, t⟩ := T.T; ⟨a, b, c, t.keeps k⟩⟩
theorem Has.keeps {R : Led} {h h' : Heap} (T : Has h R) (k : Ext h h') : Has h' R := fun p hp => k _ _ (T p hp)

structure St (hb : Heap) (L : Addr) (h : Heap) (m : Str → Option Value) (mu : Led) (Φ : Heap → Prop) : Prop where
  fr : Fr hb L h m
  gh : ∃ R, News hb L h (mu ++ R) ∧ (∀ p ∈ mu, ∀ q ∈ R, p.1 ≠ q.1) ∧ (∀ h', Has h' R → Φ h')
  nd : (mu.map (·.1)).Nodup

section
variable {hb h h' : Heap} {L a : Addr} {m m' : Str → Option Value} {mu : Led} {Φ Ψ : Heap → Prop} {o o' : Obj}

theorem St.now (F : St hb L h m mu Φ) : Φ h := by
  obtain ⟨_, ⟨R, N, _, c⟩, _⟩ := F
  exact c h fun p hp => (N p (List.mem_append_right _ hp)).1
theorem St.ext (F : St hb L h m mu Φ) : Ext hb h := F.fr.keep
theorem St.news (F : St hb L h m mu Φ) : News hb L h mu := by
  obtain ⟨_, ⟨R, N, _, c⟩, _⟩ := F
  exact fun p hp => N p (List.mem_append_left _ hp)
theorem St.get (F : St hb L h m mu Φ) (hm : (a, o) ∈ mu) : h.get? a = some o := (F.news _ hm).1
theorem St.imp (F : St hb L h m mu Φ) (k : ∀ h, Φ h → Ψ h) : St hb L h m mu Ψ := by
  obtain ⟨f, ⟨R, N, d, c⟩, n⟩ := F
  exact ⟨f, ⟨R, N, d, fun h' hh => k _ (c h' hh)⟩, n⟩
theorem St.start (F : Fr hb L h m) : St hb L h m [] (fun _ => True) := ⟨F, ⟨[], News.nil, (fun _ hp => nomatch hp), fun _ _ => trivial⟩, List.nodup_nil⟩
theorem St.start1 (F : Fr hb L h m) (N : News hb L h [(a, o)]) : St hb L h m [(a, o)] (fun _ => True) := ⟨F, ⟨[], N, (fun _ _ _ hq => nomatch hq), fun _ _ => trivial⟩, by simp⟩
theorem St.store (F : St hb L h m mu Φ) (hn : h'.Ns L m') (hs : Heap.SameBut L h h') : St hb L h' m' mu Φ := by
  obtain ⟨f, ⟨R, N, d, c⟩, n⟩ := F
  exact ⟨f.set hn hs, ⟨R, N.set hs, d, c⟩, n⟩
theorem News.lt {news : Led} (N : News hb L h news) {p : Addr × Obj} (hp : p ∈ news) : p.1 < h.objs.size := Heap.lt_size (N p hp).1
theorem St.alloc_fz (F : St hb L h m mu Φ) (o : Obj) (hf : o.isFreed = false := by rfl) : St hb L (h.push o) m mu (fun h' => Φ h' ∧ h'.get? h.objs.size = some o) := by
  obtain ⟨f, ⟨R, N, d, c⟩, n⟩ := F
  have N1 := N.push f o hf
  refine ⟨f.push o, ⟨(h.objs.size, o) :: R, fun p hp => N1 p ?_, fun p hp q hq => ?_, fun h' hh => ⟨c h' fun p hp => hh p (.tail _ hp), hh _ (.head _)⟩⟩, n⟩
  · rcases List.mem_append.mp hp with hp | hp
    · exact .tail _ (List.mem_append_left _ hp)
    · rcases List.mem_cons.mp hp with rfl | hp
      · exact .head _
      · exact .tail _ (List.mem_append_right _ hp)
  · rcases List.mem_cons.mp hq with rfl | hq
    · exact Nat.ne_of_lt (News.lt N (List.mem_append_left _ hp))
    · exact d p hp q hq
theorem St.alloc_mu (F : St hb L h m mu Φ) (o : Obj) (hf : o.isFreed = false := by rfl) : St hb L (h.push o) m ((h.objs.size, o) :: mu) Φ := by
  obtain ⟨f, ⟨R, N, d, c⟩, n⟩ := F
  refine ⟨f.push o, ⟨R, N.push f o hf, fun p hp q hq => ?_, c⟩, ?_⟩
  · rcases List.mem_cons.mp hp with rfl | hp
    · exact Nat.ne_of_gt (News.lt N (List.mem_append_right _ hq))
    · exact d p hp q hq
  · rw [List.map_cons, List.nodup_cons]
    refine ⟨fun hm => ?_, n⟩
    obtain ⟨p, hp, e⟩ := List.mem_map.mp hm
    exact absurd (News.lt N (List.mem_append_left _ hp)) (by rw [e]; exact Nat.lt_irrefl _)
theorem St.updAt {pre post : Led} (F : St hb L h m (pre ++ (a, o) :: post) Φ) (hs : Heap.ExtBut a h h') (ho : h'.get? a = some o') : St hb L h' m (pre ++ (a, o') :: post) Φ := by
  obtain ⟨f, ⟨R, N, d, c⟩, n⟩ := F
  have z := N (a, o) (by simp)
  have hn : ∀ p ∈ pre ++ post, p.1 ≠ a := by
    intro p hp e
    rw [List.map_append, List.map_cons] at n
    have := (List.nodup_append.mp n)
    rcases List.mem_append.mp hp with hp | hp
    · exact this.2.2 _ (List.mem_map_of_mem hp) _ (.head _) e
    · have h2 := (List.nodup_cons.mp this.2.1).1
      exact h2 (List.mem_map.mpr ⟨p, hp, e⟩)
  have hR : ∀ p ∈ R, p.1 ≠ a := fun p hp e => d (a, o) (by simp) p hp e.symm
  have f' : Fr hb L h' m := ⟨f.ns.extBut hs (Ne.symm z.2.1), fun b x e => hs b x (fun q => by have := z.2.2; rw [← q, e] at this; cases this) (f.keep b x e), f.above⟩
  refine ⟨f', ⟨R, fun p hp => ?_, fun p hp q hq => ?_, c⟩, by simpa using n⟩
  · rcases List.mem_append.mp hp with hp | hp
    · rcases List.mem_append.mp hp with hp | hp
      · have y := N p (by simp [hp])
        exact ⟨hs _ _ (hn p (List.mem_append_left _ hp)) y.1, y.2⟩
      · rcases List.mem_cons.mp hp with rfl | hp
        · exact ⟨ho, z.2⟩
        · have y := N p (by simp [hp])
          exact ⟨hs _ _ (hn p (List.mem_append_right _ hp)) y.1, y.2⟩
    · have y := N p (by simp [hp])
      exact ⟨hs _ _ (hR p hp) y.1, y.2⟩
  · rcases List.mem_append.mp hp with hp | hp
    · exact d p (by simp [hp]) q hq
    · rcases List.mem_cons.mp hp with rfl | hp
      · exact d (a, o) (by simp) q hq
      · exact d p (by simp [hp]) q hq
theorem St.upd0 (F : St hb L h m ((a, o) :: mu) Φ) (hs : Heap.ExtBut a h h') (ho : h'.get? a = some o') : St hb L h' m ((a, o') :: mu) Φ := St.updAt (pre := []) F hs ho
theorem St.freeze (F : St hb L h m ((a, o) :: mu) Φ) : St hb L h m mu (fun h' => Φ h' ∧ h'.get? a = some o) := by
  obtain ⟨f, ⟨R, N, d, c⟩, n⟩ := F
  rw [List.map_cons, List.nodup_cons] at n
  refine ⟨f, ⟨(a, o) :: R, fun p hp => N p ?_, fun p hp q hq => ?_, fun h' hh => ⟨c h' fun p hp => hh p (.tail _ hp), hh _ (.head _)⟩⟩, n.2⟩
  · rcases List.mem_append.mp hp with hp | hp
    · exact .tail _ (List.mem_append_left _ hp)
    · rcases List.mem_cons.mp hp with rfl | hp
      · exact .head _
      · exact .tail _ (List.mem_append_right _ hp)
  · rcases List.mem_cons.mp hq with rfl | hq
    · exact fun e => n.1 (e ▸ List.mem_map_of_mem hp)
    · exact d p (.tail _ hp) q hq
theorem St.dropBut (F : St hb L h m ((a, o) :: mu) Φ) (hs : Heap.ExtBut a h h') : St hb L h' m mu Φ := by
  obtain ⟨f, ⟨R, N, d, c⟩, n⟩ := F
  have z := N (a, o) (by simp)
  rw [List.map_cons, List.nodup_cons] at n
  refine ⟨⟨f.ns.extBut hs (Ne.symm z.2.1), fun b x e => hs b x (fun q => by have := z.2.2; rw [← q, e] at this; cases this) (f.keep b x e), f.above⟩, ⟨R, fun p hp => ?_, fun p hp q hq => d p (.tail _ hp) q hq, c⟩, n.2⟩
  have y := N p (by rw [List.cons_append]; exact .tail _ hp)
  refine ⟨hs _ _ ?_ y.1, y.2⟩
  rcases List.mem_append.mp hp with hp | hp
  · exact fun e => n.1 (List.mem_map.mpr ⟨p, hp, e⟩)
  · exact fun e => d (a, o) (.head _) p hp e.symm
theorem St.drop (F : St hb L h m ((a, o) :: mu) Φ) : St hb L h m mu Φ := F.dropBut (Heap.ExtBut.refl _ _)
theorem St.perm {mu' : Led} (F : St hb L h m mu Φ) (hp : mu'.Perm mu) : St hb L h m mu' Φ := by
  obtain ⟨f, ⟨R, N, d, c⟩, n⟩ := F
  refine ⟨f, ⟨R, fun p hq => N p ?_, fun p hq => d p (hp.mem_iff.mp hq), c⟩, (hp.map _).nodup_iff.mpr n⟩
  rcases List.mem_append.mp hq with hq | hq
  · exact List.mem_append_left _ (hp.mem_iff.mp hq)
  · exact List.mem_append_right _ hq
theorem St.swap {p q : Addr × Obj} (F : St hb L h m (p :: q :: mu) Φ) : St hb L h m (q :: p :: mu) Φ := F.perm (List.Perm.swap p q mu)
theorem St.call {R' : Led} (F : St hb L h m mu Φ) (k : Ext h h') (hR : ∀ p ∈ R', h'.get? p.1 = some p.2 ∧ h.get? p.1 = none) (hp : ∀ h'', Has h'' R' → Ψ h'') : St hb L h' m mu (fun x => Φ x ∧ Ψ x) := by
  obtain ⟨f, ⟨R, N, d, c⟩, n⟩ := F
  have oldnew : ∀ (b : Addr) (x : Obj), h.get? b = some x → ∀ q ∈ R', b ≠ q.1 := fun b x e q hq z => by
    have := (hR q hq).2; rw [← z, e] at this; cases this
  refine ⟨f.keeps k, ⟨R' ++ R, fun p hp => ?_, fun p hp q hq => ?_, fun h'' hh => ⟨c h'' fun p hp => hh p (List.mem_append_right _ hp), hp h'' fun p hp => hh p (List.mem_append_left _ hp)⟩⟩, n⟩
  · have old : p ∈ mu ++ R → h'.get? p.1 = some p.2 ∧ p.1 ≠ L ∧ hb.get? p.1 = none := fun hp => ⟨k _ _ (N p hp).1, (N p hp).2⟩
    rcases List.mem_append.mp hp with hp | hp
    · exact old (List.mem_append_left _ hp)
    · rcases List.mem_append.mp hp with hp | hp
      · obtain ⟨oL, _, _, hL, _⟩ := f.ns
        refine ⟨(hR p hp).1, fun e => oldnew L oL hL p hp e.symm, ?_⟩
        cases q : hb.get? p.1 with
        | none => rfl
        | some x => exact absurd rfl (oldnew _ _ (f.keep _ _ q) p hp)
      · exact old (List.mem_append_right _ hp)
  · rcases List.mem_append.mp hq with hq | hq
    · exact oldnew _ _ (N p (List.mem_append_left _ hp)).1 q hq
    · exact d p hp q hq
theorem St.fresh (F : St hb L h m mu Φ) : ∃ R, (∀ p ∈ R, h.get? p.1 = some p.2 ∧ hb.get? p.1 = none) ∧ ∀ h', Has h' R → Φ h' := by
  obtain ⟨f, ⟨R, N, d, c⟩, n⟩ := F
  exact ⟨R, fun p hp => let z := N p (List.mem_append_right _ hp); ⟨z.1, z.2.2⟩, c⟩
end

/-- a def whose call keeps what it finds -/
def Pur (w : World) (f : Addr) (args : List Value) (d u : Nat) (pre : Heap → Prop) (post : Led → Value → Prop) : Prop :=
  ∀ (A : Around) (s : Shared) (Q : Value → Shared → Prop), Cx A d u → Tp w s.heap → pre s.heap →
   (∀ v h' tk R, Ext s.heap h' → (∀ p ∈ R, h'.get? p.1 = some p.2 ∧ s.heap.get? p.1 = none) → post R v → Q v { s with heap := h', toks := tk }) →
   wpAny (model PP w) A (call (.ref f) args) Q NoE s

theorem Cx.less {A : Around} {d u d' u' : Nat} (C : Cx A d u) (hd : d' ≤ d) (hu : u' ≤ u) : Cx A d' u' :=
  ⟨C.hd, Nat.lt_of_le_of_lt (Nat.add_le_add_left hd _) C.dp, Nat.lt_of_le_of_lt (Nat.add_le_add_left hu _) C.un⟩

/-- what is told of R may be added -/
def Adds (hb : Heap) (L : Addr) (h : Heap) (m : Str → Option Value) (mu : Led) (Φ : Heap → Prop) (R : Led) : Prop :=
  ∀ ψ : Heap → Prop, (∀ x, Has x R → ψ x) → St hb L h m mu (fun x => Φ x ∧ ψ x)

theorem Pur.use {w : World} {f : Addr} {args : List Value} {d u d' u' : Nat} {pre : Heap → Prop} {post : Led → Value → Prop} {A : Around} {s : Shared} {Q : Value → Shared → Prop} {hb : Heap} {L : Addr} {m : Str → Option Value} {mu : Led} {Φ : Heap → Prop}
    (P : Pur w f args d u pre post) (C : Cx A d' u') (T : Tp w hb) (F : St hb L s.heap m mu Φ) (hp : pre s.heap)
    (k : ∀ v h' tk R, post R v → Adds hb L h' m mu Φ R → Q v { s with heap := h', toks := tk }) (hd : d ≤ d' := by omega) (hu : u ≤ u' := by omega) : wpAny (model PP w) A (call (.ref f) args) Q NoE s :=
  P A s Q (C.less hd hu) (T.keeps F.ext) hp fun v h' tk R hk hR hq => k v h' tk R hq fun ψ hψ => F.call hk hR hψ

def Done (hb : Heap) (s : Shared) (post : Led → Value → Prop) (v : Value) (s' : Shared) : Prop :=
  ∃ L h' tk m mu Φ, s' = { s with heap := h', toks := tk } ∧ St hb L h' m mu Φ ∧ ∀ R, (∀ h, Has h R → Φ h) → post R v

theorem Pur.intro {w : World} {f : Addr} {args : List Value} {d u : Nat} {pre : Heap → Prop} {post : Led → Value → Prop}
    {name qual : Str} {params : Arguments} {body : List Stmt} {scope : Scope} {dV kV doc pm cdv ct oc : Value} {an od : Option Addr} {osl : Array (Option Value)} {binds : List (Str × Value)}
    (ho : (Mine.hd.heap_39 w.params).lookup f = some ⟨oc, od, .func (fnOf name qual params body scope dV kV doc pm an cdv ct), osl⟩) (hcd : codeIn (Mine.hd.heap_39 w.params) cdv qual = true)
    (hbind : ∀ s, Tp w s.heap → BindsTo s (fnOf name qual params body scope dV kV doc pm an cdv ct) ⟨args, []⟩ binds) (hloc : ∀ y ∈ binds, scope.names.lookup y.1 = some .local)
    (hco : scope.isCoroutine = false) (hgen : scope.isGenerator = false) (hk : scope.kind = .function) (hcell : ∀ x ∈ scope.names, x.2 ≠ .cell)
    (h : ∀ A s h₁ tk, Cx A d u → Tp w s.heap → pre s.heap → St s.heap s.heap.objs.size h₁ (fun y => binds.reverse.lookup y) [] (fun _ => True) →
      wpAny (model PP w) A (execs body (envOf qual scope s.heap.objs.size f cdv)) (fun fl s' => Done s.heap s post (match fl with | .ret v => v | _ => .none) s') NoE { s with heap := h₁, toks := tk }) :
    Pur w f args (d + 1) (u + 3) pre post := by
  intro A s Q C T hp k
  have C' : Cx (A.deeper (envOf qual scope s.heap.objs.size f cdv)) d u :=
    ⟨C.hd, by have := C.dp; show A.depth + 1 + d < _; omega, by have := C.un; show A.units + 3 + u < _; omega⟩
  obtain ⟨mean, mg, mb, T'⟩ := T.T
  refine wpAny_call ?_
  refine codeAny_call_def (fd := fnOf name qual params body scope dV kV doc pm an cdv ct) (body := body) (binds := binds) (by have := C.dp; omega) (T.K _ _ ho) rfl T'.nolimit (codeRec_of T.K hcd) rfl (hbind s T) hcell hloc (fun h₁ hns hk₁ => ?_) hco hgen hk
  refine wpAny_mono (h _ s h₁ _ C' T hp (St.start ⟨hns, hk₁, Nat.le_refl _⟩)) (fun fl s' hl => ?_) (fun _ _ x => x.elim)
  obtain ⟨L', h', tk, m, mu, Φ, rfl, F, hΦ⟩ := hl
  obtain ⟨R, hR, hc⟩ := F.fresh
  exact k _ h' tk R F.ext hR (hΦ R hc)
end Mine
namespace Mine
section
variable {w : World} {A : Around} {hb h : Heap} {L : Addr} {m : Str → Option Value} {mu : Led} {Φ : Heap → Prop} {g : Array GenState} {dr : Drawn} {tk : Nat} {os : OsState} {env : Env}

/-- the end of a turn of a loop -/
def TurnE (hb : Heap) (L : Addr) (g : Array GenState) (dr : Drawn) (os : OsState) (Φ₀ : Heap → Prop) (it : Led) (J : (Str → Option Value) → Led → (Heap → Prop) → Prop) (R : Result → Shared → Prop) (f : Flow) (s : Shared) : Prop :=
  match f with
  | .next | .cont => ∃ h tk m mu Φ, s = ⟨h, g, dr, tk, os⟩ ∧ St hb L h m (it ++ mu) (fun x => Φ₀ x ∧ Φ x) ∧ J m mu Φ
  | .brk => R (.ok .next) s
  | .ret v => R (.ok (.ret v)) s

theorem z_forW {R : Result → Shared → Prop} {target : Expr} {body : List Stmt} {I : Addr} {fp : List Addr} {n : Nat} {P : Nat → Value → Prop} {S : Nat → Heap → Prop} {o₀ : Obj} {Φ₀ : Heap → Prop}
    (W : Walks PP w A I fp [I] n P S) (hfp : ∀ b ∈ fp, b = I ∨ ∃ o, ∀ h', Ext hb h' → Φ₀ h' → h'.get? b = some o) (hob : ∀ i h, S i h → ∃ o, h.get? I = some o)
    (J : Nat → (Str → Option Value) → Led → (Heap → Prop) → Prop) (hst : S 0 h) (F : St hb L h m ((I, o₀) :: mu) (fun x => Φ₀ x ∧ Φ x)) (hj : J 0 m mu Φ)
    (step : ∀ i v m₁ mu₁ Φ₁ h₁ tk₁ o, i < n → P i v → J i m₁ mu₁ Φ₁ → St hb L h₁ m₁ ([(I, o)] ++ mu₁) (fun x => Φ₀ x ∧ Φ₁ x) →
      wpAny (model PP w) A (assign target env v) (fun _ s₂ => wpAny (model PP w) A (execs body env) (TurnE hb L g dr os Φ₀ [(I, o)] (J (i + 1)) R) NoE s₂) NoE ⟨h₁, g, dr, tk₁, os⟩)
    (done : ∀ h' tk' m' mu' Φ', J n m' mu' Φ' → St hb L h' m' mu' (fun x => Φ₀ x ∧ Φ' x) → R (.ok .next) ⟨h', g, dr, tk', os⟩)
    (ht : ∀ v, letOwnedTupleGo target (.ref I) v = pure () := by intro _; rfl) :
    codeAny (model PP w) A (.forLoop target (.ref I) body [] env) R ⟨h, g, dr, tk, os⟩ := by
  refine codeAny_forLoop (fun k s' => ∃ h' tk' m' mu' Φ' i o, s' = ⟨h', g, dr, tk', os⟩ ∧ S i h' ∧ St hb L h' m' ((I, o) :: mu') (fun x => Φ₀ x ∧ Φ' x) ∧ J i m' mu' Φ' ∧ i ≤ n ∧ k = n + 1 - i) ?_ (n + 1)
    ⟨h, tk, m, mu, Φ, 0, o₀, rfl, hst, F, hj, Nat.zero_le _, rfl⟩ ht
  rintro k s' ⟨h', tk', m', mu', Φ', i, o, rfl, hst', F', hJ, hi, rfl⟩
  by_cases hlt : i < n
  · refine W.item i _ _ _ hlt hst' fun v h₁ tk₁ hP hst₁ hk₁ => ?_
    obtain ⟨o₁, ho₁⟩ := hob _ _ hst₁
    have F₁ := F'.upd0 (h' := h₁) (o' := o₁) (fun b x hb e => hk₁ b x (by simpa using hb) e) ho₁
    refine wpAny_mono (step i v m' mu' Φ' h₁ tk₁ o₁ hlt hP hJ F₁) (fun _ s₂ hs => wpAny_mono hs (fun f s₃ h₃ => ?_) fun _ _ e => e.elim) fun _ _ e => e.elim
    have fin : (∃ h tk m mu Φ, s₃ = ⟨h, g, dr, tk, os⟩ ∧ St hb L h m ([(I, o₁)] ++ mu) (fun x => Φ₀ x ∧ Φ x) ∧ J (i + 1) m mu Φ) → ∃ m, m < n + 1 - i ∧ ∃ h' tk' m' mu' Φ' i o, s₃ = ⟨h', g, dr, tk', os⟩ ∧ S i h' ∧ St hb L h' m' ((I, o) :: mu') (fun x => Φ₀ x ∧ Φ' x) ∧ J i m' mu' Φ' ∧ i ≤ n ∧ m = n + 1 - i := by
      rintro ⟨h4, tk₃, m₃, mu₃, Φ₃, rfl, F₃, hJ₃⟩
      refine ⟨n + 1 - (i + 1), by omega, h4, tk₃, m₃, mu₃, Φ₃, i + 1, o₁, rfl, W.frame _ _ _ hst₁ fun b hb x e => ?_, F₃, hJ₃, hlt, rfl⟩
      rcases hfp b hb with rfl | ⟨y, hy⟩
      · rw [ho₁] at e; cases e; exact F₃.get (.head _)
      · have e1 := hy _ F₁.ext F₁.now.1
        rw [e] at e1; cases e1
        exact hy _ F₃.ext F₃.now.1
    cases f with
    | ret v => exact h₃
    | brk => exact h₃
    | cont => exact fin h₃
    | next => exact fin h₃
  · have hin : i = n := by omega
    subst hin
    refine W.done _ _ _ hst' fun h₁ tk₁ hk₁ => wpAny_execs_nil ?_
    exact done h₁ tk₁ m' mu' Φ' hJ (F'.dropBut fun b x hb e => hk₁ b x (by simpa using hb) e)

theorem z_forList {R : Result → Shared → Prop} {target : Expr} {body : List Stmt} {l : Addr} {items : Array Value} {Φ₀ : Heap → Prop} (hA : A.handled = none)
    (hl : ∃ o, ∀ h', Ext hb h' → Φ₀ h' → h'.get? l = some o ∧ o.cls = .type "list" ∧ ∃ n, o.data = .seq items n)
    (J : Nat → (Str → Option Value) → Led → (Heap → Prop) → Prop) (F : St hb L h m mu (fun x => Φ₀ x ∧ Φ x)) (hj : J 0 m mu Φ)
    (step : ∀ i v m₁ mu₁ Φ₁ h₁ tk₁ it, i < items.size → items[i]? = some v → J i m₁ mu₁ Φ₁ → St hb L h₁ m₁ (it ++ mu₁) (fun x => Φ₀ x ∧ Φ₁ x) →
      wpAny (model PP w) A (assign target env v) (fun _ s₂ => wpAny (model PP w) A (execs body env) (TurnE hb L g dr os Φ₀ it (J (i + 1)) R) NoE s₂) NoE ⟨h₁, g, dr, tk₁, os⟩)
    (done : ∀ h' tk' m' mu' Φ', J items.size m' mu' Φ' → St hb L h' m' mu' (fun x => Φ₀ x ∧ Φ' x) → R (.ok .next) ⟨h', g, dr, tk', os⟩)
    (ht : ∀ I v, letOwnedTupleGo target (.ref I) v = pure () := by intro _ _; rfl) :
    wpAny (model PP w) A (pyIter (.ref l)) (fun it s₂ => codeAny (model PP w) A (.forLoop target it body [] env) R s₂) NoE ⟨h, g, dr, tk, os⟩ := by
  obtain ⟨o, ho⟩ := hl
  have ho' := ho _ F.ext F.now.1
  have hls : h.IsList l items := ⟨o, ho'⟩
  refine wpAny_pyIter_list hls ?_
  have hne : l ≠ h.objs.size := Nat.ne_of_lt (Heap.lt_size ho'.1)
  have W := Walks.list (prog := PP) (w := w) hA h.objs.size l hne items
  have F1 := F.alloc_mu { cls := .type "list_iterator", data := .fields #[.ref l, .int 0 0] }
  have k1 : Ext h (h.push { cls := .type "list_iterator", data := .fields #[.ref l, .int 0 0] }) := fun b x e => Heap.get?_push_of_some _ e
  refine z_forW W ?_ ?_ J ⟨⟨_, F1.get (.head _), rfl, rfl⟩, o, k1 _ _ ho'.1, ho'.2⟩ F1 hj (fun i v m₁ mu₁ Φ₁ h₁ tk₁ o hi hP hJ F => step i v m₁ mu₁ Φ₁ h₁ tk₁ _ hi hP hJ F) done (ht _)
  · intro b hb
    rcases List.mem_cons.mp hb with e | hb
    · exact .inl e
    · rw [List.mem_singleton.mp hb]; exact .inr ⟨o, fun h' e hp => (ho h' e hp).1⟩
  · rintro i h ⟨⟨o, ho, _⟩, _⟩
    exact ⟨o, ho⟩
end
end Mine
namespace Mine
section
variable {w : World} {A : Around} {hb h : Heap} {L a : Addr} {m : Str → Option Value} {mu : Led} {Φ : Heap → Prop} {g : Array GenState} {dr : Drawn} {tk : Nat} {os : OsState} {env : Env}
  {cn : Str} {cs : Scope} {cd : Value} {x : Str} {pos px : Pos} {v : Value} {Q : Value → Shared → Prop} {QB : Bool → Shared → Prop} {QU : Unit → Shared → Prop} {QF : Flow → Shared → Prop} {E : Value → Shared → Prop}

theorem St.open (F : St hb L h m mu Φ) : ∃ R, News hb L h (mu ++ R) ∧ (∀ h' m', Fr hb L h' m' → News hb L h' (mu ++ R) → St hb L h' m' mu Φ) ∧
    (∀ h' m' a o, Fr hb L h' m' → News hb L h' ((a, o) :: (mu ++ R)) → h.objs.size ≤ a → St hb L h' m' mu (fun x => Φ x ∧ x.get? a = some o)) := by
  obtain ⟨f, ⟨R, N, d, c⟩, n⟩ := F
  refine ⟨R, N, fun h' m' F' N' => ⟨F', ⟨R, N', d, c⟩, n⟩, fun h' m' a o F' N' ha => ⟨F', ⟨(a, o) :: R, fun p hp => N' p ?_, fun p hp q hq => ?_, fun h' hh => ⟨c h' fun p hp => hh p (.tail _ hp), hh _ (.head _)⟩⟩, n⟩⟩
  · rcases List.mem_append.mp hp with hp | hp
    · exact .tail _ (List.mem_append_left _ hp)
    · rcases List.mem_cons.mp hp with rfl | hp
      · exact .head _
      · exact .tail _ (List.mem_append_right _ hp)
  · rcases List.mem_cons.mp hq with rfl | hq
    · exact Nat.ne_of_lt (Nat.lt_of_lt_of_le (News.lt N (List.mem_append_left _ hp)) ha)
    · exact d p hp q hq

-- names
theorem z_ld (F : St hb L h m mu Φ) (hv : m x = some v) (k : Q v ⟨h, g, dr, tk, os⟩) (hk : cs.kind = .function := by rfl) (hl : (envOf cn cs L a cd).kindOf x = some .local := by rfl) (hd : (x == ("__debug__" : Str)) = false := by decide) :
    wpAny (model PP w) A (eval (.Name x pos) (envOf cn cs L a cd)) Q E ⟨h, g, dr, tk, os⟩ := ld F.fr hv k hk hl hd
theorem z_gl (T : Tp w hb) (F : St hb L h m mu Φ) (e : nsIn (Mine.hd.heap_39 w.params) mainGlobals x = some (some v)) (k : Q v ⟨h, g, dr, tk, os⟩) (hk : cs.kind = .function := by rfl) (hx : (envOf cn cs L a cd).kindOf x = some .globalImplicit := by rfl) (hd : (x == ("__debug__" : Str)) = false := by decide) :
    wpAny (model PP w) A (eval (.Name x pos) (envOf cn cs L a cd)) Q E ⟨h, g, dr, tk, os⟩ := by
  obtain ⟨_, _, _, T'⟩ := T.T
  exact name_K F.fr T.K (topRead_of T') e k hk hx hd
theorem z_bn (T : Tp w hb) (F : St hb L h m mu Φ) (e : nsIn (Mine.hd.heap_39 w.params) mainGlobals x = some none) (hv : bootBuiltins x = some v) (hn : x ≠ "__name__") (k : Q v ⟨h, g, dr, tk, os⟩) (hk : cs.kind = .function := by rfl) (hx : (envOf cn cs L a cd).kindOf x = some .globalImplicit := by rfl) (hd : (x == ("__debug__" : Str)) = false := by decide) :
    wpAny (model PP w) A (eval (.Name x pos) (envOf cn cs L a cd)) Q E ⟨h, g, dr, tk, os⟩ := by
  obtain ⟨_, _, _, T'⟩ := T.T
  exact name_B F.fr T.K (topRead_of T') e hv hn k hk hx hd
theorem z_st (F : St hb L h m mu Φ) (k : ∀ h' tk', St hb L h' (fun y => if y = x then some v else m y) mu Φ → QU () ⟨h', g, dr, tk', os⟩) (hk : cs.kind = .function := by rfl) (hl : (envOf cn cs L a cd).kindOf x = some .local := by rfl) :
    wpAny (model PP w) A (storeName (envOf cn cs L a cd) x v) QU E ⟨h, g, dr, tk, os⟩ :=
  wpAny_storeName_local hl F.fr.ns (fun h' hn hs => k h' _ (F.store hn hs)) (by show (cs.kind == .class || (cs.kind == .module && L != mainGlobals)) = false; rw [hk]; rfl)
theorem z_as (F : St hb L h m mu Φ) (k : ∀ h' tk', St hb L h' (fun y => if y = x then some v else m y) mu Φ → QU () ⟨h', g, dr, tk', os⟩) (hk : cs.kind = .function := by rfl) (hl : (envOf cn cs L a cd).kindOf x = some .local := by rfl) :
    wpAny (model PP w) A (assign (.Name x px) (envOf cn cs L a cd) v) QU E ⟨h, g, dr, tk, os⟩ := wpAny_assign_Name (z_st F k hk hl)

-- constants, ints
theorem z_int {i : Int} {kk : Nat} (k : ∀ t tk', Q (.int i t) ⟨h, g, dr, tk', os⟩) : wpAny (model PP w) A (eval (.Constant (.int i) kk pos) env) Q E ⟨h, g, dr, tk, os⟩ := wpAny_Constant_int (k _ _)
theorem z_str {i : Str} {kk : Nat} (k : ∀ t tk', Q (.str i t) ⟨h, g, dr, tk', os⟩) : wpAny (model PP w) A (eval (.Constant (.str i) kk pos) env) Q E ⟨h, g, dr, tk, os⟩ := wpAny_Constant_str (k _ _)
theorem z_add {i j : Int} {t u : Tok} (k : ∀ t tk', Q (.int (i + j) t) ⟨h, g, dr, tk', os⟩) : wpAny (model PP w) A (binaryOp .Add (.int i t) (.int j u)) Q E ⟨h, g, dr, tk, os⟩ := add_int (k _ _)
theorem z_sub {i j : Int} {t u : Tok} (k : ∀ t tk', Q (.int (i - j) t) ⟨h, g, dr, tk', os⟩) : wpAny (model PP w) A (binaryOp .Sub (.int i t) (.int j u)) Q E ⟨h, g, dr, tk, os⟩ := sub_int (k _ _)
theorem z_mod {i j : Int} {t u : Tok} (hj : j ≠ 0) (k : ∀ t tk', Q (.int (i.fmod j) t) ⟨h, g, dr, tk', os⟩) : wpAny (model PP w) A (binaryOp .Mod (.int i t) (.int j u)) Q E ⟨h, g, dr, tk, os⟩ := mod_int' hj (k _ _)
theorem z_eqi {i j : Int} {t u : Tok} (k : QB (i == j) ⟨h, g, dr, tk, os⟩) : wpAny (model PP w) A (compareOp .Eq (.int i t) (.int j u)) (fun c s₃ => wpAny (model PP w) A (truthy c) QB E s₃) E ⟨h, g, dr, tk, os⟩ := eq_int (wpAny_truthy_bool k)

-- lists, tuples
theorem z_list {vs : List Value} (F : St hb L h m mu Φ) (hsz : vs.length ≤ sizeLine) (k : ∀ l h', St hb L h' m mu (fun x => Φ x ∧ x.get? l = some (listOf vs.toArray 0)) → Q (.ref l) ⟨h', g, dr, tk, os⟩) :
    wpAny (model PP w) A (newList vs) Q E ⟨h, g, dr, tk, os⟩ := wpAny_newObj_type (k _ _ (F.alloc_fz _)) (by show vs.toArray.size ≤ sizeLine; rw [List.size_toArray]; exact hsz)
theorem z_listM {vs : List Value} (F : St hb L h m mu Φ) (hsz : vs.length ≤ sizeLine) (k : ∀ l h', St hb L h' m ((l, listOf vs.toArray 0) :: mu) Φ → Q (.ref l) ⟨h', g, dr, tk, os⟩) :
    wpAny (model PP w) A (newList vs) Q E ⟨h, g, dr, tk, os⟩ := wpAny_newObj_type (k _ _ (F.alloc_mu _)) (by show vs.toArray.size ≤ sizeLine; rw [List.size_toArray]; exact hsz)
abbrev tupOf (its : Array Value) : Obj := { cls := .type "tuple", data := .seq its }
theorem z_tup {vs : List Value} (F : St hb L h m mu Φ) (hsz : vs.length ≤ sizeLine) (k : ∀ l h', St hb L h' m mu (fun x => Φ x ∧ x.get? l = some (tupOf vs.toArray)) → Q (.ref l) ⟨h', g, dr, tk, os⟩) :
    wpAny (model PP w) A (newTuple vs) Q E ⟨h, g, dr, tk, os⟩ := wpAny_newObj_type (k _ _ (F.alloc_fz _)) (by show vs.toArray.size ≤ sizeLine; rw [List.size_toArray]; exact hsz)
theorem z_addL {l b : Addr} {xs ys : List Value} (F : St hb L h m mu Φ) (hl : h.IsList l xs.toArray) (hl2 : h.IsList b ys.toArray) (hsz : xs.length + ys.length ≤ sizeLine)
    (k : ∀ l h', St hb L h' m mu (fun x => Φ x ∧ x.get? l = some (listOf (xs ++ ys).toArray 0)) → Q (.ref l) ⟨h', g, dr, tk, os⟩) : wpAny (model PP w) A (binaryOp .Add (.ref l) (.ref b)) Q E ⟨h, g, dr, tk, os⟩ := by
  obtain ⟨R, N, _, f⟩ := F.open
  exact add_lists F.fr N hl hl2 (fun h' F' N' => k _ h' (f _ _ _ _ F' N' (Nat.le_refl _))) hsz
theorem z_itemL {value slice : Expr} {l : Addr} {its : Array Value} {i : Int} {u : Tok} {y : Value} (hl : h.IsList l its) (h0 : 0 ≤ i) (hfit : i < 2 ^ 63) (hx : its[i.toNat]? = some y) (k : Q y ⟨h, g, dr, tk, os⟩)
    (hs : subscripted slice false (.ref l) (.int i u) = operate [.ref l, .int i u] (getItem (.ref l) (.int i u)) := by with_unfolding_all rfl) :
    wpAny (model PP w) A (subscriptTail value slice (.ref l) (.int i u)) Q E ⟨h, g, dr, tk, os⟩ :=
  tail_any (let ⟨o, ho, hc, _⟩ := hl; ⟨o, ho, hc⟩) slot_list_getitem.lookup (wpAny_getItem_list hl h0 hfit hx k) hs
theorem z_itemT {value slice : Expr} {l : Addr} {its : List Value} {i : Int} {u : Tok} {j : Nat} {y : Value} (hl : IsTup h l its.toArray) (hlo : -(2 ^ 63) ≤ i) (hfit : i < 2 ^ 63) (hj : seqIndex? i its.length = some j) (hx : its[j]? = some y) (k : Q y ⟨h, g, dr, tk, os⟩)
    (hs : subscripted slice false (.ref l) (.int i u) = operate [.ref l, .int i u] (getItem (.ref l) (.int i u)) := by with_unfolding_all rfl) :
    wpAny (model PP w) A (subscriptTail value slice (.ref l) (.int i u)) Q E ⟨h, g, dr, tk, os⟩ := item_tupleT hl hlo hfit hj hx k hs

-- a call of a def of the text's
theorem z_cw {f : Addr} {e : Expr} {rest : List Expr} (T : Tp w hb) (hk : keepIn (Mine.hd.heap_39 w.params) (.ref f) = true) {s : Shared}
    (k : wpAny (model PP w) A (spliced (backTo pos (starEach (e :: rest) env))) (fun vs s₁ => Tp w s₁.heap ∧ wpAny (model PP w) A (call (.ref f) vs) Q E s₁) E s) (he : starEach (e :: rest) env = (false, eval e env) :: starEach rest env := by rfl) (hplain : (backTo pos (starEach rest env)).any (·.1) = false := by rfl) :
    wpAny (model PP w) A (callWith pos (.ref f) [] (backTo pos (starEach (e :: rest) env)) []) Q E s :=
  callWith_K T.K hk (wpAny_mono k (fun _ _ h => ⟨h.1.K, h.2⟩) fun _ _ e => e) he hplain
end
end Mine
namespace Mine
theorem z_f {b : Bool} {x y : Prop} (hb : b = false) (k : y) : if b = true then x else y := by subst hb; exact k
theorem z_t {b : Bool} {x y : Prop} (hb : b = true) (k : x) : if b = true then x else y := by subst hb; exact k
end Mine
namespace Mine

inductive P where
  | leaf (k t : Str)
  | node (r : Int) (nm : Str) (cs : List P)

mutual
def P.data : P → PyData
  | .leaf k t => .tuple [.int 0, .str k, .str t]
  | .node r nm cs => .tuple [.int r, .str nm, .list (P.datas cs)]
def P.datas : List P → List PyData
  | [] => []
  | c :: cs => c.data :: P.datas cs
end
mutual
def P.rules : P → List Int
  | .leaf _ _ => []
  | .node r _ cs => P.ruless cs ++ [r]
def P.ruless : List P → List Int
  | [] => []
  | c :: cs => c.rules ++ P.ruless cs
end
mutual
def P.ht : P → Nat
  | .leaf _ _ => 0
  | .node _ _ cs => P.hts cs + 1
def P.hts : List P → Nat
  | [] => 0
  | c :: cs => max c.ht (P.hts cs)
end
mutual
def P.size : P → Nat
  | .leaf _ _ => 1
  | .node _ _ cs => P.sizes cs + 1
def P.sizes : List P → Nat
  | [] => 0
  | c :: cs => c.size + P.sizes cs
end
/-- a text of the menus' kind -/
structure OkS (x : Str) : Prop where
  ok : PyData.strOk x = true
  len : x.length ≤ 8
  nl : ∀ c ∈ x.cps.toList, c ≠ 10
mutual
def P.Ok : P → Prop
  | .leaf k t => OkS k ∧ OkS t
  | .node r nm cs => (r ≠ 0 ∧ OkS nm) ∧ P.Oks cs
def P.Oks : List P → Prop
  | [] => True
  | c :: cs => c.Ok ∧ P.Oks cs
end

def RD (h : Heap) (v : Value) (d : PyData) : Prop := ∃ as, Reads h v d as
def RDs (h : Heap) (vs : List Value) (ds : List PyData) : Prop := ∃ as, ReadsAll h vs ds as
theorem RD.keeps {h h' : Heap} {v : Value} {d : PyData} (x : RD h v d) (k : Ext h h') : RD h' v d := let ⟨as, r⟩ := x; ⟨as, Reads.keeps k r⟩
theorem RDs.keeps {h h' : Heap} {v : List Value} {d : List PyData} (x : RDs h v d) (k : Ext h h') : RDs h' v d := let ⟨as, r⟩ := x; ⟨as, ReadsAll.keeps k r⟩
theorem RDs.nil {h : Heap} : RDs h [] [] := ⟨[], .nil⟩
theorem RDs.cons {h : Heap} {v : Value} {d : PyData} {vs : List Value} {ds : List PyData} (x : RD h v d) (y : RDs h vs ds) : RDs h (v :: vs) (d :: ds) := let ⟨_, r⟩ := x; let ⟨_, q⟩ := y; ⟨_, .cons r q⟩
theorem RDs.append {h : Heap} : ∀ {vs ws : List Value} {ds es : List PyData}, RDs h vs ds → RDs h ws es → RDs h (vs ++ ws) (ds ++ es)
  | [], _, [], _, _, y => y
  | v :: vs, _, d :: ds, _, ⟨_, .cons a b⟩, y => RDs.cons ⟨_, a⟩ (RDs.append ⟨_, b⟩ y)
  | [], _, _ :: _, _, ⟨_, r⟩, _ => nomatch r
  | _ :: _, _, [], _, ⟨_, r⟩, _ => nomatch r
theorem RDs.len {h : Heap} : ∀ {vs : List Value} {ds : List PyData}, RDs h vs ds → vs.length = ds.length
  | [], [], _ => rfl
  | v :: vs, d :: ds, ⟨_, .cons a b⟩ => congrArg (· + 1) (RDs.len ⟨_, b⟩)
  | [], _ :: _, ⟨_, r⟩ => nomatch r
  | _ :: _, [], ⟨_, r⟩ => nomatch r
theorem RDs.at {h : Heap} : ∀ {vs : List Value} {ds : List PyData}, RDs h vs ds → ∀ {i : Nat} {v : Value} {d : PyData}, vs[i]? = some v → ds[i]? = some d → RD h v d
  | [], _, _, i, _, _, hv, _ => by simp at hv
  | v :: vs, d :: ds, ⟨_, .cons a b⟩, 0, _, _, hv, hd => by simp at hv hd; subst hv; subst hd; exact ⟨_, a⟩
  | v :: vs, d :: ds, ⟨_, .cons a b⟩, i + 1, _, _, hv, hd => RDs.at ⟨_, b⟩ (by simpa using hv) (by simpa using hd)
  | _ :: _, [], ⟨_, r⟩, _, _, _, _, _ => nomatch r
theorem RD.list {h : Heap} {v : Value} {ds : List PyData} (x : RD h v (.list ds)) : ∃ a vs n o, v = .ref a ∧ h.get? a = some o ∧ o.cls = .type "list" ∧ o.data = .seq vs n ∧ RDs h vs.toList ds := by
  obtain ⟨as, r⟩ := x
  cases r with
  | list h1 h2 h3 h4 => exact ⟨_, _, _, _, rfl, h1, h2, h3, _, h4⟩
theorem RD.tuple {h : Heap} {v : Value} {ds : List PyData} (x : RD h v (.tuple ds)) : ∃ a vs n o, v = .ref a ∧ h.get? a = some o ∧ o.cls = .type "tuple" ∧ o.data = .seq vs n ∧ RDs h vs.toList ds := by
  obtain ⟨as, r⟩ := x
  cases r with
  | tuple h1 h2 h3 h4 => exact ⟨_, _, _, _, rfl, h1, h2, h3, _, h4⟩
theorem RD.int {h : Heap} {v : Value} {i : Int} (x : RD h v (.int i)) : ∃ t, v = .int i t := by obtain ⟨as, r⟩ := x; cases r; exact ⟨_, rfl⟩
theorem RD.str {h : Heap} {v : Value} {i : Str} (x : RD h v (.str i)) : ∃ t, v = .str i t := by obtain ⟨as, r⟩ := x; cases r; exact ⟨_, rfl⟩
theorem RDs.uncons {h : Heap} {vs : List Value} {d : PyData} {ds : List PyData} (x : RDs h vs (d :: ds)) : ∃ v ws, vs = v :: ws ∧ RD h v d ∧ RDs h ws ds := by
  obtain ⟨as, r⟩ := x
  cases r with
  | cons a b => exact ⟨_, _, rfl, ⟨_, a⟩, ⟨_, b⟩⟩
theorem RDs.unnil {h : Heap} {vs : List Value} (x : RDs h vs []) : vs = [] := by obtain ⟨as, r⟩ := x; cases r; rfl
theorem RD.mkList {h : Heap} {a : Addr} {vs : List Value} {n : Nat} {ds : List PyData} (e : h.get? a = some (listOf vs.toArray n)) (r : RDs h vs ds) : RD h (.ref a) (.list ds) := let ⟨_, r⟩ := r; ⟨_, .list e rfl rfl r⟩
theorem RD.mkTup {h : Heap} {a : Addr} {vs : List Value} {ds : List PyData} (e : h.get? a = some (tupOf vs.toArray)) (r : RDs h vs ds) : RD h (.ref a) (.tuple ds) := let ⟨_, r⟩ := r; ⟨_, .tuple e rfl rfl r⟩
theorem RD.mkInt {h : Heap} {i : Int} {t : Tok} : RD h (.int i t) (.int i) := ⟨_, .int _ _⟩
theorem RD.mkStr {h : Heap} {i : Str} {t : Tok} : RD h (.str i t) (.str i) := ⟨_, .str _ _⟩

theorem P.datas_get : ∀ {cs : List P} {i : Nat}, (P.datas cs)[i]? = (cs[i]?).map P.data
  | [], i => by simp [P.datas]
  | c :: cs, 0 => by simp [P.datas]
  | c :: cs, i + 1 => by simp [P.datas, P.datas_get]
theorem P.datas_len : ∀ {cs : List P}, (P.datas cs).length = cs.length
  | [] => rfl
  | _ :: cs => congrArg (· + 1) (P.datas_len (cs := cs))

/-- a list that is fresh, its items told -/
def LR (ds : List PyData) (R : Led) (v : Value) : Prop := ∃ l xs n, v = .ref l ∧ ∀ h, Has h R → h.get? l = some (listOf (List.toArray xs) n) ∧ RDs h xs ds
def DR (d : PyData) (R : Led) (v : Value) : Prop := ∀ h, Has h R → RD h v d
/-- the plain leaf, the plain node, at a heap -/
theorem RD.leaf {h : Heap} {v : Value} {k t : Str} (x : RD h v (P.leaf k t).data) : ∃ a t0 t1 t2, v = .ref a ∧ IsTup h a #[.int 0 t0, .str k t1, .str t t2] := by
  obtain ⟨a, vs, n, o, rfl, e, hc, hd, r⟩ := x.tuple
  obtain ⟨v0, r0, e0, x0, r⟩ := r.uncons
  obtain ⟨v1, r1, e1, x1, r⟩ := r.uncons
  obtain ⟨v2, r2, e2, x2, r⟩ := r.uncons
  have := r.unnil; subst this; subst e2; subst e1
  obtain ⟨t0, rfl⟩ := x0.int
  obtain ⟨t1, rfl⟩ := x1.str
  obtain ⟨t2, rfl⟩ := x2.str
  exact ⟨a, t0, t1, t2, rfl, o, e, hc, n, by rw [hd, ← Array.toArray_toList (xs := vs), e0]⟩
theorem RD.node {h : Heap} {v : Value} {r : Int} {nm : Str} {cs : List P} (x : RD h v (P.node r nm cs).data) : ∃ a t0 t1 l, v = .ref a ∧ IsTup h a #[.int r t0, .str nm t1, .ref l] ∧ ∃ vs n o, h.get? l = some o ∧ o.cls = .type "list" ∧ o.data = .seq vs n ∧ RDs h vs.toList (P.datas cs) := by
  obtain ⟨a, vs, n, o, rfl, e, hc, hd, q⟩ := x.tuple
  obtain ⟨v0, r0, e0, x0, q⟩ := q.uncons
  obtain ⟨v1, r1, e1, x1, q⟩ := q.uncons
  obtain ⟨v2, r2, e2, x2, q⟩ := q.uncons
  have := q.unnil; subst this; subst e2; subst e1
  obtain ⟨t0, rfl⟩ := x0.int
  obtain ⟨t1, rfl⟩ := x1.str
  obtain ⟨l, ws, n', o', rfl, y⟩ := x2.list
  exact ⟨a, t0, t1, l, rfl, ⟨o, e, hc, n, by rw [hd, ← Array.toArray_toList (xs := vs), e0]⟩, ws, n', o', y⟩
theorem P.ht_lt {c : P} : ∀ {cs : List P} {i : Nat}, cs[i]? = some c → c.ht ≤ P.hts cs
  | [], i, e => by simp at e
  | d :: cs, 0, e => by simp at e; subst e; simp only [P.hts]; omega
  | d :: cs, i + 1, e => by have := P.ht_lt (cs := cs) (i := i) (by simpa using e); simp only [P.hts]; omega
theorem P.size_le {c : P} : ∀ {cs : List P} {i : Nat}, cs[i]? = some c → c.size ≤ P.sizes cs
  | [], i, e => by simp at e
  | d :: cs, 0, e => by simp at e; subst e; simp only [P.sizes]; omega
  | d :: cs, i + 1, e => by have := P.size_le (cs := cs) (i := i) (by simpa using e); simp only [P.sizes]; omega
theorem P.ok_at {c : P} : ∀ {cs : List P} {i : Nat}, P.Oks cs → cs[i]? = some c → c.Ok
  | [], i, _, e => by simp at e
  | d :: cs, 0, ⟨a, b⟩, e => by simp at e; subst e; exact a
  | d :: cs, i + 1, ⟨a, b⟩, e => P.ok_at (cs := cs) (i := i) b (by simpa using e)
mutual
theorem P.rules_len : ∀ p : P, p.rules.length ≤ p.size
  | .leaf _ _ => by simp [P.rules]
  | .node _ _ cs => by have := P.ruless_len cs; simp only [P.rules, P.size, List.length_append, List.length_singleton]; omega
theorem P.ruless_len : ∀ cs : List P, (P.ruless cs).length ≤ P.sizes cs
  | [] => by simp [P.ruless]
  | c :: cs => by have := P.rules_len c; have := P.ruless_len cs; simp only [P.ruless, P.sizes, List.length_append]; omega
end
theorem P.ruless_take {c : P} : ∀ {cs : List P} {i : Nat}, cs[i]? = some c → P.ruless (cs.take (i + 1)) = P.ruless (cs.take i) ++ c.rules
  | [], i, e => by simp at e
  | d :: cs, 0, e => by simp at e; subst e; simp [P.ruless]
  | d :: cs, i + 1, e => by have := P.ruless_take (cs := cs) (i := i) (by simpa using e); simp [P.ruless, this]
theorem P.sizes_take : ∀ {cs : List P} {i : Nat}, P.sizes (cs.take i) ≤ P.sizes cs
  | [], i => by simp [P.sizes]
  | d :: cs, 0 => by simp [P.sizes]
  | d :: cs, i + 1 => by have := P.sizes_take (cs := cs) (i := i); simp only [List.take_succ_cons, P.sizes]; omega
theorem sz_lt {n : Nat} (h : n ≤ 1000000) : n ≤ sizeLine := Nat.le_trans h (by decide)

theorem P.len_le : ∀ (cs : List P), cs.length ≤ P.sizes cs
  | [] => by simp [P.sizes]
  | c :: cs => by have := P.len_le cs; have : 1 ≤ c.size := by cases c <;> simp [P.size]
                  simp only [List.length_cons, P.sizes]; omega

end Mine
namespace Mine
section
variable {w : World} {A : Around} {R : Result → Shared → Prop} {s : Shared}

abbrev testsOf (ifs : List Expr) (env : Env) : Sem Bool := forIn ifs true fun c r => if r = true then do let ok ← isTrue c env (eval c env); pure (ForInStep.yield ok) else pure (ForInStep.yield r)

theorem compLoop_gen {elt target iter : Expr} {ifs : List Expr} {scope : Scope} {pos : Pos} {it acc : Value} {env : Env} (I : Nat → Shared → Prop)
    (turn : ∀ n s, I n s → wpAny (model PP w) A (pyNext it) (fun r s₁ => match r with
      | none => R (.ok .next) s₁
      | some v => wpAny (model PP w) A (letOwnedTupleGo target it v) (fun _ s₁' => wpAny (model PP w) A (assign target env v) (fun _ s₂ =>
          wpAny (model PP w) A (testsOf ifs env) (fun ok s₃ =>
            if ok = true then wpAny (model PP w) A (eval elt env) (fun x s₄ =>
              wpAny (model PP w) A (call (.builtin "list.append") [acc, x]) (fun _ s₅ => ∃ m, m < n ∧ I m s₅) NoE s₄) NoE s₃
            else ∃ m, m < n ∧ I m s₃) NoE s₂) NoE s₁') NoE s₁) NoE s)
    (n : Nat) (h : I n s) : codeAny (model PP w) A (.compLoop (.ListComp elt [⟨target, iter, ifs, 0⟩] scope pos) 0 it acc env) R s := by
  refine codeAny_loop rfl I (fun n s hI => ?_) n h
  show wpAny _ A ((compTurn (.ListComp elt [⟨target, iter, ifs, 0⟩] scope pos) 0 it acc env).onRaise (fun x => do noteFrame x env; theTreesLotGoes x)) _ _ s
  refine wpAny_noted ?_
  rw [compTurn_list]
  refine wpAny_bind (wpAny_standAt (wpAny_bind (wpAny_mono (turn n s hI) (fun r s₁ h₁ => ?_) fun _ _ h' => h'.elim)))
  cases r with
  | none => exact wpAny_pure h₁
  | some v =>
    refine wpAny_bind (wpAny_mono h₁ (fun _ s₁' h₁' => ?_) fun _ _ h' => h'.elim)
    refine wpAny_bind (wpAny_mono h₁' (fun _ s₂ h₂ => wpAny_bind (wpAny_mono h₂ (fun ok s₃ h₃ => ?_) fun _ _ h' => h'.elim)) fun _ _ h' => h'.elim)
    cases ok with
    | false => exact wpAny_pure ⟨rfl, h₃⟩
    | true =>
      exact wpAny_bind (wpAny_bind (wpAny_mono h₃ (fun x s₄ h₄ => wpAny_bind (wpAny_mono h₄ (fun _ s₅ h₅ => wpAny_pure (wpAny_pure ⟨rfl, h₅⟩)) fun _ _ h' => h'.elim)) fun _ _ h' => h'.elim))
end

section
variable {w : World} {A : Around} {hb h : Heap} {L : Addr} {m : Str → Option Value} {mu : Led} {Φ : Heap → Prop} {g : Array GenState} {dr : Drawn} {tk : Nat} {os : OsState} {env : Env}

/-- the end of a turn of a comprehension -/
def CompE (hc : Heap) (C D : Addr) (g : Array GenState) (dr : Drawn) (os : OsState) (it : Led) (ex₀ : List Addr) (ys ys' : List Value) (J : List Value → Led → (Heap → Prop) → Prop) (s : Shared) : Prop :=
  ∃ h tk m ex Φ, s = ⟨h, g, dr, tk, os⟩ ∧ St hc C h m (it ++ ((D, listOf ys.toArray ys.length) :: ex)) Φ ∧ J ys' ex Φ ∧ ex.map (·.1) = ex₀ ∧ ys.length ≤ sizeLine

theorem hideAll_mem {b : Addr} {o : Obj} {l : List Addr} {h : Heap} (e : (hideAll h l).get? b = some o) : b ∉ l := fun hm => by rw [hideAll_none l hm] at e; cases e

/-- from the block's frame back to the def's -/
theorem St.leave {h h' : Heap} {C I D : Addr} {o₀ o : Obj} {ex ex' : Led} {Φ' : Heap → Prop} {mc : Str → Option Value} {od : Obj}
    (F : St hb L h m ((I, o₀) :: (ex ++ mu)) Φ) (G : St (hideAll h (I :: ex.map (·.1))) C h' mc ((I, o) :: (D, od) :: ex') Φ') (hx : ex'.map (·.1) = ex.map (·.1)) (hC : h.objs.size ≤ C) :
    ∃ oC, St hb L h' m ((I, o) :: (C, oC) :: (ex' ++ mu)) (fun x => (Φ x ∧ Φ' x) ∧ x.get? D = some od) := by
  obtain ⟨f, ⟨R, N, d, c⟩, n⟩ := F
  have fg : St (hideAll h (I :: ex.map (·.1))) C h' mc ((I, o) :: ex') (fun x => Φ' x ∧ x.get? D = some od) := by
    have G1 : St (hideAll h (I :: ex.map (·.1))) C h' mc ((D, od) :: (I, o) :: ex') Φ' := G.perm (List.Perm.swap _ _ _)
    exact G1.freeze
  clear G
  obtain ⟨f', ⟨R', N', d', c'⟩, n'⟩ := fg
  have hid : ∀ b o, h.get? b = some o → b ≠ I → b ∉ ex.map (·.1) → h'.get? b = some o := fun b o e h1 h2 => f'.keep b o (hideAll_get _ e (by rw [List.mem_cons]; exact fun q => q.elim h1 h2))
  rw [List.map_cons, List.nodup_cons, List.map_append, List.nodup_append] at n
  obtain ⟨n1, n2, n3, n4⟩ := n
  rw [List.mem_append, not_or] at n1
  have zI := N (I, o₀) (by simp)
  have hexL : L ∉ ex.map (·.1) := fun q => by
    obtain ⟨p, hp, e⟩ := List.mem_map.mp q
    exact (N p (by simp [hp])).2.1 e
  have hexb : ∀ b o, hb.get? b = some o → b ∉ ex.map (·.1) := fun b o e q => by
    obtain ⟨p, hp, rfl⟩ := List.mem_map.mp q
    have := (N p (by simp [hp])).2.2; rw [e] at this; cases this
  have hIb : ∀ b o, hb.get? b = some o → b ≠ I := fun b o e q => by have := zI.2.2; rw [← q, e] at this; cases this
  obtain ⟨oL, es, ep, hL, hLr⟩ := f.ns
  obtain ⟨oC, es', ep', hCo, hCr⟩ := f'.ns
  have newC : ∀ b o, h.get? b = some o → b ≠ C := fun b o e q => absurd (Heap.lt_size e) (by rw [q]; exact Nat.not_lt.mpr hC)
  have fresh : ∀ p ∈ R', h.get? p.1 = none := fun p hp => by
    cases q : h.get? p.1 with
    | none => rfl
    | some x =>
      have e1 := (N' p (List.mem_append_right _ hp)).2.2
      have e2 : p.1 ∉ I :: ex.map (·.1) := by
        rw [← hx]
        intro hm
        rcases List.mem_cons.mp hm with hm | hm
        · exact d' (I, o) (.head _) p hp hm.symm
        · obtain ⟨p', hp', e⟩ := List.mem_map.mp hm
          exact d' p' (.tail _ hp') p hp e
      rw [hideAll_get _ q e2] at e1; cases e1
  have f2 : Fr hb L h' m := ⟨⟨oL, es, ep, hid _ _ hL (fun e => zI.2.1 e.symm) hexL, hLr⟩, fun b x e => hid b x (f.keep b x e) (hIb b x e) (hexb b x e), f.above⟩
  have hmu : ∀ p ∈ mu ++ R, h'.get? p.1 = some p.2 := fun p hp => by
    have z := N p (by rcases List.mem_append.mp hp with hp | hp <;> simp [hp])
    refine hid _ _ z.1 (fun e => ?_) fun q => ?_
    · rcases List.mem_append.mp hp with hp | hp
      · exact n1.2 (List.mem_map.mpr ⟨p, hp, e⟩)
      · exact d (I, o₀) (.head _) p hp e.symm
    · obtain ⟨q, hq, e⟩ := List.mem_map.mp q
      rcases List.mem_append.mp hp with hp | hp
      · exact n4 _ (List.mem_map_of_mem hq) _ (List.mem_map_of_mem hp) e
      · exact d q (by simp [hq]) p hp e
  have hexo : ∀ p ∈ ex', p.1 ≠ L ∧ hb.get? p.1 = none ∧ ∃ o, h.get? p.1 = some o := fun p hp => by
    have : p.1 ∈ ex.map (·.1) := by rw [← hx]; exact List.mem_map_of_mem hp
    obtain ⟨q, hq, e⟩ := List.mem_map.mp this
    have z := N q (by simp [hq])
    rw [← e]; exact ⟨z.2.1, z.2.2, _, z.1⟩
  refine ⟨oC, f2, ⟨R' ++ R, fun p hp => ?_, fun p hp q hq => ?_, fun x hh => ⟨⟨c x fun p hp => hh p (List.mem_append_right _ hp), (c' x fun p hp => hh p (List.mem_append_left _ hp)).1⟩, (c' x fun p hp => hh p (List.mem_append_left _ hp)).2⟩⟩, ?_⟩
  · have newR : p ∈ R' → h'.get? p.1 = some p.2 ∧ p.1 ≠ L ∧ hb.get? p.1 = none := fun hp => by
      have e1 := fresh p hp
      refine ⟨(N' p (List.mem_append_right _ hp)).1, fun e => ?_, ?_⟩
      · rw [e, hL] at e1; cases e1
      · cases q : hb.get? p.1 with
        | none => rfl
        | some x => rw [f.keep _ _ q] at e1; cases e1
    rw [List.cons_append] at hp
    rcases List.mem_cons.mp hp with rfl | hp
    · exact ⟨(N' (I, o) (by simp)).1, zI.2⟩
    rw [List.cons_append] at hp
    rcases List.mem_cons.mp hp with rfl | hp
    · refine ⟨hCo, fun e => newC _ _ hL (Eq.symm e), ?_⟩
      cases q : hb.get? C with
      | none => rfl
      | some x => exact absurd rfl (newC _ _ (f.keep _ _ q))
    · rcases List.mem_append.mp hp with hp | hp
      · rcases List.mem_append.mp hp with hp | hp
        · exact ⟨(N' p (by simp [hp])).1, (hexo p hp).1, (hexo p hp).2.1⟩
        · exact ⟨hmu p (List.mem_append_left _ hp), (N p (by simp [hp])).2⟩
      · rcases List.mem_append.mp hp with hp | hp
        · exact newR hp
        · exact ⟨hmu p (List.mem_append_right _ hp), (N p (by simp [hp])).2⟩
  · rcases List.mem_cons.mp hp with rfl | hp
    · rcases List.mem_append.mp hq with hq | hq
      · exact d' (I, o) (.head _) q hq
      · exact d (I, o₀) (.head _) q hq
    rcases List.mem_cons.mp hp with rfl | hp
    · rcases List.mem_append.mp hq with hq | hq
      · exact fun e => (N' q (List.mem_append_right _ hq)).2.1 e.symm
      · exact fun e => newC _ _ (N q (by simp [hq])).1 e.symm
    · rcases List.mem_append.mp hp with hp | hp
      · obtain ⟨_, _, o, ho⟩ := hexo p hp
        rcases List.mem_append.mp hq with hq | hq
        · intro e; have := fresh q hq; rw [← e, ho] at this; cases this
        · have : p.1 ∈ ex.map (·.1) := by rw [← hx]; exact List.mem_map_of_mem hp
          obtain ⟨q', hq', e⟩ := List.mem_map.mp this
          rw [← e]; exact d q' (by simp [hq']) q hq
      · rcases List.mem_append.mp hq with hq | hq
        · intro e; have := fresh q hq; rw [← e, (N p (by simp [hp])).1] at this; cases this
        · exact d p (by simp [hp]) q hq
  · rw [List.map_cons, List.nodup_cons, List.map_cons, List.nodup_cons, List.map_append, hx, List.nodup_append]
    refine ⟨fun hm => ?_, fun hm => ?_, n2, n3, n4⟩
    · rcases List.mem_cons.mp hm with e | hm
      · exact newC _ _ zI.1 e
      · rcases List.mem_append.mp hm with hm | hm
        · exact n1.1 hm
        · exact n1.2 hm
    · rw [← List.map_append] at hm
      obtain ⟨p, hp, e⟩ := List.mem_map.mp hm
      exact newC _ _ (N p (by rw [List.cons_append]; exact .tail _ (List.mem_append_left _ hp))).1 e

/-- what stands behind a comprehension's first iterator -/
def BlockAt (w : World) (A : Around) (env : Env) (cl : List (Str × Addr)) (scope : Scope) (e : Expr) (use : Option (Value → Sem Unit)) (Q : Value → Shared → Prop) (it : Value) (s₂ : Shared) : Prop :=
  wpAny (model PP w) A (newList []) (fun acc s₃ => wpAny (model PP w) A (newFunctionEnv scope env.globals cl [] env.qual none .none (some env)) (fun cenv s₄ =>
    codeAny (model PP w) A (.compStart e 0 it acc { cenv with scope := relabel scope env }) (compPost (model PP w) A NoE use Q acc cenv.locals) s₄) NoE s₃) NoE s₂

theorem z_lc {elt target iter : Expr} {ifs : List Expr} {scope : Scope} {cl : List (Str × Addr)} {pos : Pos} {Q : Value → Shared → Prop} {s : Shared}
    (k : wpAny (model PP w) A (eval iter env) (fun xv s₁ => wpAny (model PP w) A (pyIter xv) (BlockAt w A env cl scope (.ListComp elt [⟨target, iter, ifs, 0⟩] scope pos) none Q) NoE s₁) NoE s)
    (hclos : closureFor scope env = pure cl := by rfl) (hkind : scope.kind = .function := by rfl) (hnames : ∀ y ∈ scope.names, y.2 = .local → scope.names.lookup y.1 = some .local := by decide) (hs : ∀ x, foldedSetIterable iter env x = pure x := by intro _; rfl) :
    wpAny (model PP w) A (eval (.ListComp elt [⟨target, iter, ifs, 0⟩] scope pos) env) Q NoE s := by
  rw [eval_ListComp]
  exact wpAny_comprehension_free (use := none) rfl hs hclos hkind hnames k

theorem listOf_push {ys : List Value} {x : Value} : ({ cls := .type "list", data := .seq (ys.toArray.push x) (ys.length + 1) } : Obj) = listOf (ys ++ [x]).toArray (ys ++ [x]).length := by
  simp

theorem z_block {elt target iter : Expr} {ifs : List Expr} {scope : Scope} {cl : List (Str × Addr)} {pos : Pos} {Q : Value → Shared → Prop} {use : Option (Value → Sem Unit)}
    {I : Addr} {fp : List Addr} {n : Nat} {P : Nat → Value → Prop} {S : Nat → Heap → Prop} {o₀ : Obj} {ex : Led}
    (W : Walks PP w A I fp [I] n P S) (hst : S 0 h) (hob : ∀ i h, S i h → ∃ o, h.get? I = some o)
    (F : St hb L h m ((I, o₀) :: (ex ++ mu)) Φ) (hfp : ∀ b ∈ fp, b = I ∨ ((∃ o, h.get? b = some o) ∧ b ∉ ex.map (·.1)))
    (J : Nat → List Value → Led → (Heap → Prop) → Prop) (hj : J 0 [] ex (fun _ => True)) (hcell : ∀ y ∈ scope.names, y.2 ≠ .cell) (hkind : scope.kind = .function)
    (step : ∀ C D i v ys ex₁ Φ₁ h₁ tk₁ mc o, i < n → P i v → S (i + 1) h₁ → J i ys ex₁ Φ₁ → ex₁.map (·.1) = ex.map (·.1) → ys.length ≤ i → St (hideAll h (I :: ex.map (·.1))) C h₁ mc ([(I, o)] ++ ((D, listOf ys.toArray ys.length) :: ex₁)) Φ₁ →
      wpAny (model PP w) A (letOwnedTupleGo target (.ref I) v) (fun _ s₁' => wpAny (model PP w) A (assign target (compEnvC scope cl C env) v) (fun _ s₂ =>
        wpAny (model PP w) A (testsOf ifs (compEnvC scope cl C env)) (fun ok s₃ =>
          if ok = true then wpAny (model PP w) A (eval elt (compEnvC scope cl C env)) (fun x => CompE (hideAll h (I :: ex.map (·.1))) C D g dr os [(I, o)] (ex.map (·.1)) ys (ys ++ [x]) (J (i + 1))) NoE s₃
          else CompE (hideAll h (I :: ex.map (·.1))) C D g dr os [(I, o)] (ex.map (·.1)) ys ys (J (i + 1)) s₃) NoE s₂) NoE s₁') NoE ⟨h₁, g, dr, tk₁, os⟩)
    (hn : n ≤ sizeLine)
    (done : ∀ C D h' tk' ys ex' Φ' oC mm, J n ys ex' Φ' → ys.length ≤ n → h'.get? C = some oC → h'.Ns C mm → St hb L h' m ((C, oC) :: (ex' ++ mu)) (fun x => (Φ x ∧ Φ' x) ∧ x.get? D = some (listOf ys.toArray ys.length)) →
      compPost (model PP w) A NoE use Q (.ref D) C (.ok .next) ⟨h', g, dr, tk', os⟩) :
    BlockAt w A env cl scope (.ListComp elt [⟨target, iter, ifs, 0⟩] scope pos) use Q (.ref I) ⟨h, g, dr, tk, os⟩ := by
  unfold BlockAt
  refine wpAny_newObj_type (wpAny_newFunctionEnv hcell (by intro y hy; simp at hy) (fun h₁ hns₁ hsb₁ => ?_) hkind)
  dsimp only at hns₁ hsb₁ ⊢
  generalize hH2 : h.push { cls := .type "list", dict := none, data := .seq ([] : List Value).toArray } = H2 at hns₁ hsb₁ ⊢
  have hC : H2.objs.size = h.objs.size + 1 := by rw [← hH2, Heap.size_push]
  have hDC : h.objs.size ≠ H2.objs.size := by rw [hC]; exact Nat.ne_of_lt (Nat.lt_succ_self _)
  have old : ∀ b o, h.get? b = some o → h₁.get? b = some o := fun b o e => hsb₁.extBut b o (by rw [hC]; exact Nat.ne_of_lt (Nat.lt_succ_of_lt (Heap.lt_size e))) (Heap.get?_push_of_some _ (hH2 ▸ Heap.get?_push_of_some _ e))
  have hacc : h₁.get? h.objs.size = some (listOf ([] : List Value).toArray ([] : List Value).length) := hsb₁.extBut _ _ hDC (Heap.get?_push_of_some _ (hH2 ▸ Heap.get?_push_size _ rfl))
  have hst₁ : S 0 h₁ := W.frame _ _ _ hst fun b _ o e => old b o e
  have hnodup := F.nd
  have zI := F.get (.head _)
  have zex : ∀ p ∈ ex, h.get? p.1 = some p.2 := fun p hp => F.get (.tail _ (List.mem_append_left _ hp))
  rw [List.map_cons, List.nodup_cons, List.map_append, List.nodup_append] at hnodup
  have G₀ : St (hideAll h (I :: ex.map (·.1))) H2.objs.size h₁ (fun x => ([] : List (Str × Value)).reverse.lookup x) ((I, o₀) :: (h.objs.size, listOf ([] : List Value).toArray ([] : List Value).length) :: ex) (fun _ => True) := by
    refine ⟨⟨hns₁, fun b o e => old b o (of_hideAll _ e), by rw [hideAll_size, hC]; exact Nat.le_succ _⟩, ⟨[], fun p hp => ?_, (fun _ _ _ hq => by cases hq), fun _ _ => trivial⟩, ?_⟩
    · rw [List.append_nil] at hp
      have lt : ∀ {b : Addr} {o : Obj}, h.get? b = some o → b ≠ H2.objs.size := fun e => by rw [hC]; exact Nat.ne_of_lt (Nat.lt_succ_of_lt (Heap.lt_size e))
      rcases List.mem_cons.mp hp with rfl | hp
      · exact ⟨old _ _ zI, lt zI, hideAll_none _ (.head _)⟩
      · rcases List.mem_cons.mp hp with rfl | hp
        · refine ⟨hacc, hDC, ?_⟩
          cases q : (hideAll h (I :: ex.map (·.1))).get? h.objs.size with
          | none => rfl
          | some x => exact absurd (Heap.lt_size (of_hideAll _ q)) (Nat.lt_irrefl _)
        · exact ⟨old _ _ (zex p hp), lt (zex p hp), hideAll_none _ (.tail _ (List.mem_map_of_mem hp))⟩
    · rw [List.map_cons, List.nodup_cons, List.map_cons, List.nodup_cons]
      refine ⟨fun hm => ?_, fun hm => ?_, hnodup.2.1⟩
      · rcases List.mem_cons.mp hm with e | hm
        · exact absurd (Heap.lt_size zI) (by have e : I = h.objs.size := e; rw [e]; exact Nat.lt_irrefl _)
        · exact hnodup.1 (List.mem_append_left _ hm)
      · obtain ⟨p, hp, e⟩ := List.mem_map.mp hm
        exact absurd (Heap.lt_size (zex p hp)) (by rw [e]; exact Nat.lt_irrefl _)
  have loop : ∀ tk₂, codeAny (model PP w) A (.compLoop (.ListComp elt [⟨target, iter, ifs, 0⟩] scope pos) 0 (.ref I) (.ref h.objs.size) (compEnvC scope cl H2.objs.size env))
        (compPost (model PP w) A NoE use Q (.ref h.objs.size) H2.objs.size) ⟨h₁, g, dr, tk₂, os⟩ := by
    intro tk₂
    refine compLoop_gen (fun k s' => ∃ h' tk' mc ys ex' Φ' i o, s' = ⟨h', g, dr, tk', os⟩ ∧ S i h' ∧ St (hideAll h (I :: ex.map (·.1))) H2.objs.size h' mc ((I, o) :: (h.objs.size, listOf ys.toArray ys.length) :: ex') Φ' ∧ J i ys ex' Φ' ∧ ex'.map (·.1) = ex.map (·.1) ∧ i ≤ n ∧ ys.length ≤ i ∧ k = n + 1 - i) ?_ (n + 1)
      ⟨h₁, tk₂, _, [], ex, _, 0, o₀, rfl, hst₁, G₀, hj, rfl, Nat.zero_le _, Nat.le_refl _, rfl⟩
    rintro k s' ⟨h', tk', mc, ys, ex', Φ', i, o, rfl, hst', G, hJ, hexm, hi, hys, rfl⟩
    by_cases hlt : i < n
    · refine W.item i _ _ _ hlt hst' fun v h₂ tk₂ hP hst₂ hk₂ => ?_
      obtain ⟨o₁, ho₁⟩ := hob _ _ hst₂
      have G₂ := G.upd0 (h' := h₂) (o' := o₁) (fun b x hb e => hk₂ b x (by simpa using hb) e) ho₁
      have frm : ∀ h₅ : Heap, ∀ {mu₅ : Led} {m₅ Φ₅}, St (hideAll h (I :: ex.map (·.1))) H2.objs.size h₅ m₅ ((I, o₁) :: mu₅) Φ₅ → S (i + 1) h₅ := fun h₅ mu₅ m₅ Φ₅ G₅ => by
        refine W.frame _ _ _ hst₂ fun b hbf x e => ?_
        rcases hfp b hbf with rfl | ⟨⟨y, hy⟩, hne⟩
        · rw [ho₁] at e; cases e; exact G₅.get (.head _)
        · by_cases hbI : b = I
          · subst hbI; rw [ho₁] at e; cases e; exact G₅.get (.head _)
          · have e0 := hideAll_get (I :: ex.map (·.1)) hy (by rw [List.mem_cons]; exact fun q => q.elim hbI hne)
            have e1 := G₂.ext _ _ e0
            rw [e] at e1; cases e1
            exact G₅.ext _ _ e0
      refine wpAny_mono (step _ _ i v ys ex' Φ' h₂ tk₂ mc o₁ hlt hP hst₂ hJ hexm hys G₂) (fun _ s₁' h₁' => wpAny_mono h₁' (fun _ s₂ h₂' => wpAny_mono h₂' (fun ok s₃ h₃ => ?_) fun _ _ e => e.elim) fun _ _ e => e.elim) fun _ _ e => e.elim
      cases ok with
      | true =>
        simp only [if_true] at h₃ ⊢
        refine wpAny_mono h₃ (fun x s₄ h₄ => ?_) fun _ _ e => e.elim
        obtain ⟨h5, tk5, m5, ex5, Φ5, rfl, G5, hJ5, hm5, hl5⟩ := h₄
        have G6 : St (hideAll h (I :: ex.map (·.1))) H2.objs.size h5 m5 ((h.objs.size, listOf ys.toArray ys.length) :: (I, o₁) :: ex5) Φ5 := G5.perm (List.Perm.swap _ _ _)
        refine append_at (G6.get (.head _)) (fun h' hs ho' => ?_) (by rw [List.size_toArray]; exact hl5)
        have G7 := G6.upd0 (h' := h') hs.extBut (by rw [ho', listOf_push])
        have G8 := G7.perm (List.Perm.swap _ _ _)
        exact ⟨n + 1 - (i + 1), by omega, h', _, m5, ys ++ [x], ex5, Φ5, i + 1, o₁, rfl, frm _ G8, G8, hJ5, hm5, hlt, by simp; exact hys, rfl⟩
      | false =>
        simp only [Bool.false_eq_true, if_false] at h₃ ⊢
        obtain ⟨h5, tk5, m5, ex5, Φ5, rfl, G5, hJ5, hm5, hl5⟩ := h₃
        exact ⟨n + 1 - (i + 1), by omega, h5, tk5, m5, ys, ex5, Φ5, i + 1, o₁, rfl, frm _ G5, G5, hJ5, hm5, hlt, by omega, rfl⟩
    · have hin : i = n := by omega
      subst hin
      refine W.done _ _ _ hst' fun h₂ tk₂ hk₂ => ?_
      obtain ⟨oC, G₃⟩ := F.leave G hexm (by rw [hC]; exact Nat.le_succ _)
      have k2 : Heap.ExtBut I h' h₂ := fun b x hb e => hk₂ b x (by simpa using hb) e
      have G₄ := G₃.dropBut k2
      have zC : I ≠ H2.objs.size := by rw [hC]; exact Nat.ne_of_lt (Nat.lt_succ_of_lt (Heap.lt_size zI))
      exact done _ _ h₂ tk₂ ys ex' Φ' oC mc hJ hys (G₄.get (.head _)) (G.fr.ns.extBut k2 (Ne.symm zC)) G₄
  exact codeAny_compStart_list (loop _) (W.self 0 _ _ _ hst₁ (loop _))
end
end Mine
namespace Mine
section
variable {w : World} {A : Around} {hb h : Heap} {L : Addr} {m : Str → Option Value} {mu : Led} {Φ : Heap → Prop} {g : Array GenState} {dr : Drawn} {tk : Nat} {os : OsState} {env : Env}
  {x : Str} {pos px : Pos} {v : Value} {Q : Value → Shared → Prop} {QB : Bool → Shared → Prop} {QU : Unit → Shared → Prop} {QF : Flow → Shared → Prop} {E : Value → Shared → Prop}

-- names, in any block
theorem y_ld (F : St hb env.locals h m mu Φ) (hv : m x = some v) (k : Q v ⟨h, g, dr, tk, os⟩) (hk : env.scope.kind = .function := by rfl) (hl : env.kindOf x = some .local := by rfl) (hd : (x == ("__debug__" : Str)) = false := by decide) :
    wpAny (model PP w) A (eval (.Name x pos) env) Q E ⟨h, g, dr, tk, os⟩ := wpAny_Name (wpAny_loadName_local hk hl F.fr.ns hv k) hd
theorem y_gl (T : Tp w hb) (F : St hb L h m mu Φ) (e : nsIn (Mine.hd.heap_39 w.params) mainGlobals x = some (some v)) (k : Q v ⟨h, g, dr, tk, os⟩) (hg : env.globals = mainGlobals := by rfl) (hk : env.scope.kind = .function := by rfl) (hx : env.kindOf x = some .globalImplicit := by rfl) (hd : (x == ("__debug__" : Str)) = false := by decide) :
    wpAny (model PP w) A (eval (.Name x pos) env) Q E ⟨h, g, dr, tk, os⟩ := by
  obtain ⟨_, _, _, T'⟩ := T.T
  exact nameG_K F.fr T.K (topRead_of T') e k hg hk hx hd
theorem y_as (F : St hb env.locals h m mu Φ) (k : ∀ h' tk', St hb env.locals h' (fun y => if y = x then some v else m y) mu Φ → QU () ⟨h', g, dr, tk', os⟩) (hl : env.kindOf x = some .local := by rfl) (hp : (env.scope.kind == .class || (env.scope.kind == .module && env.locals != env.globals)) = false := by rfl) :
    wpAny (model PP w) A (assign (.Name x px) env v) QU E ⟨h, g, dr, tk, os⟩ :=
  wpAny_assign_Name (wpAny_storeName_local hl F.fr.ns (fun h' hn hs => k h' _ (F.store hn hs)) hp)

/-- the end of a turn of a pure comprehension -/
def CE (hc : Heap) (C : Addr) (g : Array GenState) (dr : Drawn) (os : OsState) (it : Led) (J : List Value → (Heap → Prop) → Prop) (ys' : List Value) (s : Shared) : Prop :=
  ∃ h tk m Φ, s = ⟨h, g, dr, tk, os⟩ ∧ St hc C h m it Φ ∧ J ys' Φ

theorem post_none {D C : Addr} {oC : Obj} {mm : Str → Option Value} {Ψ : Heap → Prop} {h' : Heap} (hn : h'.Ns C mm) (G : St hb L h' m ((C, oC) :: mu) Ψ) (k : ∀ h'', St hb L h'' m mu Ψ → Q (.ref D) ⟨h'', g, dr, tk, os⟩) :
    compPost (model PP w) A NoE none Q (.ref D) C (.ok .next) ⟨h', g, dr, tk, os⟩ := ⟨mm, hn, fun h'' hs => k h'' (G.dropBut hs.extBut)⟩
theorem post_some {D C : Addr} {oC : Obj} {mm : Str → Option Value} {Ψ : Heap → Prop} {h' : Heap} {y : Str} {py : Pos} {Q' : Value → Shared → Prop} (hn : h'.Ns C mm) (G : St hb env.locals h' m ((C, oC) :: mu) Ψ) (k : ∀ h'' tk', St hb env.locals h'' (fun z => if z = y then some (.ref D) else m z) mu Ψ → Q' .none ⟨h'', g, dr, tk', os⟩)
    (hl : env.kindOf y = some .local := by rfl) (hp : (env.scope.kind == .class || (env.scope.kind == .module && env.locals != env.globals)) = false := by rfl) :
    compPost (model PP w) A NoE (some (assign (.Name y py) env)) Q' (.ref D) C (.ok .next) ⟨h', g, dr, tk, os⟩ := by
  have z := G.news (C, oC) (.head _)
  show wpAny _ A (assign (.Name y py) env (.ref D)) _ _ _
  refine wpAny_assign_Name (wpAny_storeName_local hl G.fr.ns (fun h₂ hn₂ hs₂ => ?_) hp)
  exact ⟨mm, hn.sameBut hs₂ z.2.1, fun h₃ hs₃ => k h₃ _ ((G.store hn₂ hs₂).dropBut hs₃.extBut)⟩

theorem z_lcW {elt target iter : Expr} {ifs : List Expr} {scope : Scope} {cl : List (Str × Addr)} {pos : Pos} {use : Option (Value → Sem Unit)}
    {I : Addr} {fp : List Addr} {n : Nat} {P : Nat → Value → Prop} {S : Nat → Heap → Prop} {o₀ : Obj}
    (W : Walks PP w A I fp [I] n P S) (hst : S 0 h) (hob : ∀ i h, S i h → ∃ o, h.get? I = some o) (F : St hb L h m ((I, o₀) :: mu) Φ) (hfp : ∀ b ∈ fp, b = I ∨ (∃ o, h.get? b = some o))
    (J : Nat → List Value → (Heap → Prop) → Prop) (hj : J 0 [] (fun _ => True)) (hcell : ∀ y ∈ scope.names, y.2 ≠ .cell) (hkind : scope.kind = .function) (hn : n ≤ sizeLine)
    (step : ∀ hc C i v ys Φ₁ h₁ tk₁ mc it, (∀ b o, b ≠ I → h.get? b = some o → hc.get? b = some o) → i < n → P i v → S (i + 1) h₁ → J i ys Φ₁ → ys.length ≤ i → (∃ o, (I, o) ∈ it) → St hc C h₁ mc it Φ₁ →
      wpAny (model PP w) A (letOwnedTupleGo target (.ref I) v) (fun _ s₁' => wpAny (model PP w) A (assign target (compEnvC scope cl C env) v) (fun _ s₂ =>
        wpAny (model PP w) A (testsOf ifs (compEnvC scope cl C env)) (fun ok s₃ =>
          if ok = true then wpAny (model PP w) A (eval elt (compEnvC scope cl C env)) (fun x => CE hc C g dr os it (J (i + 1)) (ys ++ [x])) NoE s₃
          else CE hc C g dr os it (J (i + 1)) ys s₃) NoE s₂) NoE s₁') NoE ⟨h₁, g, dr, tk₁, os⟩)
    (done : ∀ C D h' tk' ys Φ' oC mm, J n ys Φ' → ys.length ≤ n → h'.Ns C mm → St hb L h' m ((C, oC) :: mu) (fun x => (Φ x ∧ Φ' x) ∧ x.get? D = some (listOf ys.toArray ys.length)) →
      compPost (model PP w) A NoE use Q (.ref D) C (.ok .next) ⟨h', g, dr, tk', os⟩) :
    BlockAt w A env cl scope (.ListComp elt [⟨target, iter, ifs, 0⟩] scope pos) use Q (.ref I) ⟨h, g, dr, tk, os⟩ := by
  refine z_block (ex := []) W hst hob F (fun b hb => (hfp b hb).imp id fun e => ⟨e, (fun q => nomatch q)⟩) (fun i ys ex Φ => ex = [] ∧ J i ys Φ) ⟨rfl, hj⟩ hcell hkind ?_ hn ?_
  · rintro C D i v ys ex₁ Φ₁ h₁ tk₁ mc o hi hP hS ⟨rfl, hJ⟩ - hys G
    refine wpAny_mono (step (hideAll h [I]) C i v ys Φ₁ h₁ tk₁ mc _ (fun b o hb e => hideAll_get _ e (by simpa using hb)) hi hP hS hJ hys ⟨o, .head _⟩ G) (fun _ s₁ k₁ => wpAny_mono k₁ (fun _ s₂ k₂ => wpAny_mono k₂ (fun ok s₃ k₃ => ?_) fun _ _ e => e.elim) fun _ _ e => e.elim) fun _ _ e => e.elim
    cases ok with
    | true =>
      simp only [if_true] at k₃ ⊢
      refine wpAny_mono k₃ (fun x s₄ k₄ => ?_) fun _ _ e => e.elim
      obtain ⟨h', tk', m', Φ', rfl, G', hJ'⟩ := k₄
      exact ⟨h', tk', m', [], Φ', rfl, G', ⟨rfl, hJ'⟩, rfl, by omega⟩
    | false =>
      simp only [Bool.false_eq_true, if_false] at k₃ ⊢
      obtain ⟨h', tk', m', Φ', rfl, G', hJ'⟩ := k₃
      exact ⟨h', tk', m', [], Φ', rfl, G', ⟨rfl, hJ'⟩, rfl, by omega⟩
  · rintro C D h' tk' ys ex' Φ' oC mm ⟨rfl, hJ⟩ hl hC hns G
    exact done C D h' tk' ys Φ' oC mm hJ hl hns G

theorem z_ownPass {target : Expr} {I : Addr} {v : Value} (hI : ∃ o vs, h.get? I = some o ∧ o.cls = .type "list_iterator" ∧ o.data = .fields vs) (k : QU () ⟨h, g, dr, tk, os⟩) : wpAny (model PP w) A (letOwnedTupleGo target (.ref I) v) QU E ⟨h, g, dr, tk, os⟩ := by
  obtain ⟨o, vs, ho, hc, hd⟩ := hI
  unfold letOwnedTupleGo
  split
  · split
    · rename_i r a e
      cases e
      refine wpAny_bind (wpAny_load ho ?_)
      rw [hc, hd]
      dsimp only
      rw [if_neg (by intro hcc; rw [Bool.and_eq_true] at hcc; exact absurd hcc.1 (by decide +kernel))]
      exact wpAny_pure k
    · exact wpAny_pure k
  · split
    · rename_i r a e
      cases e
      refine wpAny_bind (wpAny_load ho ?_)
      rw [hc, hd]
      dsimp only
      rw [if_neg (by intro hcc; rw [Bool.and_eq_true] at hcc; exact absurd hcc.1 (by decide +kernel))]
      exact wpAny_pure k
    · exact wpAny_pure k
  · exact wpAny_pure k
theorem z_lcL {elt target iter : Expr} {ifs : List Expr} {scope : Scope} {cl : List (Str × Addr)} {pos : Pos} {use : Option (Value → Sem Unit)}
    {l : Addr} {items : Array Value} (hA : A.handled = none) (hl : h.IsList l items) (F : St hb L h m mu Φ)
    (J : Nat → List Value → (Heap → Prop) → Prop) (hj : J 0 [] (fun _ => True)) (hn : items.size ≤ sizeLine)
    (step : ∀ hc C i v ys Φ₁ h₁ tk₁ mc it, (∀ b o, h.get? b = some o → hc.get? b = some o) → i < items.size → items[i]? = some v → J i ys Φ₁ → ys.length ≤ i → St hc C h₁ mc it Φ₁ →
      wpAny (model PP w) A (assign target (compEnvC scope cl C env) v) (fun _ s₂ =>
        wpAny (model PP w) A (testsOf ifs (compEnvC scope cl C env)) (fun ok s₃ =>
          if ok = true then wpAny (model PP w) A (eval elt (compEnvC scope cl C env)) (fun x => CE hc C g dr os it (J (i + 1)) (ys ++ [x])) NoE s₃
          else CE hc C g dr os it (J (i + 1)) ys s₃) NoE s₂) NoE ⟨h₁, g, dr, tk₁, os⟩)
    (done : ∀ C D h' tk' ys Φ' oC mm, J items.size ys Φ' → ys.length ≤ items.size → h'.Ns C mm → St hb L h' m ((C, oC) :: mu) (fun x => (Φ x ∧ Φ' x) ∧ x.get? D = some (listOf ys.toArray ys.length)) →
      compPost (model PP w) A NoE use Q (.ref D) C (.ok .next) ⟨h', g, dr, tk', os⟩)
    (hcell : ∀ y ∈ scope.names, y.2 ≠ .cell := by decide) (hkind : scope.kind = .function := by rfl) :
    wpAny (model PP w) A (pyIter (.ref l)) (BlockAt w A env cl scope (.ListComp elt [⟨target, iter, ifs, 0⟩] scope pos) use Q) NoE ⟨h, g, dr, tk, os⟩ := by
  obtain ⟨o, ho', hlc⟩ := id hl
  refine wpAny_pyIter_list hl ?_
  have hne : l ≠ h.objs.size := Nat.ne_of_lt (Heap.lt_size ho')
  have W := Walks.list (prog := PP) (w := w) hA h.objs.size l hne items
  have F1 := F.alloc_mu { cls := .type "list_iterator", data := .fields #[.ref l, .int 0 0] }
  have k1 : Ext h (h.push { cls := .type "list_iterator", data := .fields #[.ref l, .int 0 0] }) := fun b x e => Heap.get?_push_of_some _ e
  refine z_lcW W ⟨⟨_, F1.get (.head _), rfl, rfl⟩, hl.at fun o e => k1 _ _ e⟩ ?_ F1 ?_ J hj hcell hkind hn (fun hc C i v ys Φ₁ h₁ tk₁ mc it hk hi hP hS hJ hys _ G => z_ownPass (let ⟨⟨o, ho, hc, hd⟩, _⟩ := hS; ⟨o, _, ho, hc, hd⟩) (step hc C i v ys Φ₁ h₁ tk₁ mc it (fun b o e => hk b o (Nat.ne_of_lt (Heap.lt_size e)) (k1 _ _ e)) hi hP hJ hys G)) done
  · rintro i h ⟨⟨o, ho, _⟩, _⟩
    exact ⟨o, ho⟩
  · intro b hb
    rcases List.mem_cons.mp hb with e | hb
    · exact .inl e
    · rw [List.mem_singleton.mp hb]; exact .inr ⟨o, k1 _ _ ho'⟩
theorem z_pass {target : Expr} {I : Addr} {v : Value} (k : QU () ⟨h, g, dr, tk, os⟩) (ht : letOwnedTupleGo target (.ref I) v = pure () := by rfl) : wpAny (model PP w) A (letOwnedTupleGo target (.ref I) v) QU E ⟨h, g, dr, tk, os⟩ := wpAny_of_eq ht k
theorem z_tests0 {env : Env} {s : Shared} (k : QB true s) : wpAny (model PP w) A (testsOf [] env) QB E s := wpAny_tests_nil k
theorem z_tests1 {env : Env} {s : Shared} {c : Expr} (k : wpAny (model PP w) A (isTrue c env (eval c env)) QB E s) : wpAny (model PP w) A (testsOf [c] env) QB E s := wpAny_tests_one k

theorem z_asLC {elt target iter : Expr} {ifs : List Expr} {scope : Scope} {cl : List (Str × Addr)} {pos spos py : Pos} {y : Str} {s : Shared}
    (k : wpAny (model PP w) A (eval iter env) (fun xv s₁ => wpAny (model PP w) A (pyIter xv) (BlockAt w A env cl scope (.ListComp elt [⟨target, iter, ifs, 0⟩] scope pos) (some (assign (.Name y py) env)) (fun _ s' => QF .next s')) NoE s₁) NoE s)
    (hsw : swapsWith (.ListComp elt [⟨target, iter, ifs, 0⟩] scope pos) (some (.Name y py)) spos.line env = pure true := by rfl)
    (hclos : closureFor scope env = pure cl := by rfl) (hkind : scope.kind = .function := by rfl) (hnames : ∀ y ∈ scope.names, y.2 = .local → scope.names.lookup y.1 = some .local := by decide) (hs : ∀ x, foldedSetIterable iter env x = pure x := by intro _; rfl) :
    wpAny (model PP w) A (exec (.Assign [.Name y py] (.ListComp elt [⟨target, iter, ifs, 0⟩] scope pos) spos) env) QF NoE s := by
  rw [exec_Assign_Name_used _ _ _ _ hsw]
  refine wpAny_bind (wpAny_standAt (wpAny_bind ?_))
  show wpAny _ A (do let _ ← comprehension (.ListComp elt [⟨target, iter, ifs, 0⟩] scope pos) scope env _ (newList []) false (eval iter env) (some (assign (.Name y py) env))) _ _ s
  exact wpAny_bind (wpAny_mono (wpAny_comprehension_free (use := some (assign (.Name y py) env)) (Q := fun _ s' => QF .next s') rfl hs hclos hkind hnames k) (fun _ s' hq => wpAny_pure (wpAny_pure hq)) fun _ _ e => e)
end
end Mine
namespace Mine
section
variable {w : World} {A : Around} {hb h : Heap} {L : Addr} {m : Str → Option Value} {mu : Led} {Φ : Heap → Prop} {g : Array GenState} {dr : Drawn} {tk : Nat} {os : OsState} {env : Env}
  {x : Str} {pos px : Pos} {v : Value} {Q : Value → Shared → Prop} {QB : Bool → Shared → Prop} {QU : Unit → Shared → Prop} {QF : Flow → Shared → Prop} {E : Value → Shared → Prop}

theorem RDs.toTup {h : Heap} {t : Addr} {vs : List Value} {ds : List PyData} (e : IsTup h t vs.toArray) (r : RDs h vs ds) : RD h (.ref t) (.tuple ds) := by
  obtain ⟨o, e1, e2, n, e3⟩ := e; obtain ⟨as, r⟩ := r
  exact ⟨_, .tuple e1 e2 e3 r⟩

/-- tuples joined: the result is new, or one of the two -/
theorem z_addT {t b : Addr} {xs ys : List Value} (F : St hb L h m mu Φ) (ht : ∀ x, Φ x → IsTup x t xs.toArray) (hb' : ∀ x, Φ x → IsTup x b ys.toArray) (hsz : xs.length + ys.length ≤ sizeLine)
    (k : ∀ l h', St hb L h' m mu (fun x => Φ x ∧ IsTup x l (xs ++ ys).toArray) → Q (.ref l) ⟨h', g, dr, tk, os⟩) : wpAny (model PP w) A (binaryOp .Add (.ref t) (.ref b)) Q E ⟨h, g, dr, tk, os⟩ := by
  obtain ⟨R, N, _, f⟩ := F.open
  refine add_tuples F.fr N (ht _ F.now) (hb' _ F.now) (fun e => ?_) (fun _ e => ?_) (fun _ _ h' F' N' => k _ h' ((f _ _ _ _ F' N' (Nat.le_refl _)).imp fun x hx => ⟨hx.1, _, hx.2, rfl, 0, rfl⟩)) hsz
  · subst e; exact k _ h (F.imp fun x hx => ⟨hx, hb' x hx⟩)
  · subst e; rw [List.append_nil] at k; exact k _ h (F.imp fun x hx => ⟨hx, ht x hx⟩)
theorem z_tupleOf {l : Addr} {vs : List Value} (F : St hb L h m mu Φ) (hl : h.IsList l vs.toArray) (hsz : vs.length ≤ sizeLine) (k : ∀ t h', St hb L h' m mu (fun x => Φ x ∧ x.get? t = some (tupOf vs.toArray)) → Q (.ref t) ⟨h', g, dr, tk, os⟩) :
    wpAny (model PP w) A (call (.type "tuple") [.ref l]) Q E ⟨h, g, dr, tk, os⟩ := by
  obtain ⟨R, N, f1, f⟩ := F.open
  refine call_tuple_list hl (fun h' hk => ?_) (by rw [List.size_toArray]; exact hsz)
  have F1 := f1 h' m (F.fr.keeps hk) (N.grown hk)
  exact k _ _ (F1.alloc_fz _)
theorem z_cwT {T : String} {e : Expr} {rest : List Expr} {s : Shared} (k : wpAny (model PP w) A (spliced (backTo pos (starEach (e :: rest) env))) (fun vs s₁ => wpAny (model PP w) A (call (.type T) vs) Q E s₁) E s) (he : starEach (e :: rest) env = (false, eval e env) :: starEach rest env := by rfl) (hplain : (backTo pos (starEach rest env)).any (·.1) = false := by rfl) :
    wpAny (model PP w) A (callWith pos (.type T) [] (backTo pos (starEach (e :: rest) env)) []) Q E s := Pv.callWith_type1 k he hplain
theorem z_cwB {T : String} {e : Expr} {rest : List Expr} {s : Shared} (k : wpAny (model PP w) A (spliced (backTo pos (starEach (e :: rest) env))) (fun vs s₁ => wpAny (model PP w) A (call (.builtin T) vs) Q E s₁) E s) (he : starEach (e :: rest) env = (false, eval e env) :: starEach rest env := by rfl) (hplain : (backTo pos (starEach rest env)).any (·.1) = false := by rfl) :
    wpAny (model PP w) A (callWith pos (.builtin T) [] (backTo pos (starEach (e :: rest) env)) []) Q E s := callWith_builtin1 k he hplain
theorem z_slice {lower upper step : Option Expr} {p : Pos} {s : Shared} (k : wpAny (model PP w) A (evalPart lower env) (fun l s₁ => wpAny (model PP w) A (evalPart upper env) (fun u s₂ => wpAny (model PP w) A (evalPart step env) (fun st s₃ => Q (.ref s₃.heap.objs.size) ⟨s₃.heap.push { cls := .type "slice", data := .fields #[l, u, st] }, s₃.gens, s₃.drawn, s₃.toks, s₃.os⟩) E s₂) E s₁) E s) :
    wpAny (model PP w) A (eval (.Slice lower upper step p) env) Q E s := wpAny_Slice k
theorem z_slT {value slice : Expr} {l : Addr} {its : Array Value} {vl vu vk : Value} {lo hi st : Option Int} {ops : List Value} (F : St hb L h m mu Φ) (hl : h.IsList l its) (pl : IsPart vl lo) (pu : IsPart vu hi) (pk : IsPart vk st) (h0 : st ≠ some 0) (hsz : its.size ≤ sizeLine)
    (k : ∀ D h', St hb L h' m mu (fun x => Φ x ∧ x.get? D = some (listOf (slicePick its lo hi st) 0)) → Q (.ref D) ⟨h', g, dr, tk, os⟩)
    (hs : subscripted slice false (.ref l) (.ref h.objs.size) = operate ops (getItem (.ref l) (.ref h.objs.size)) := by with_unfolding_all rfl) :
    wpAny (model PP w) A (subscriptTail value slice (.ref l) (.ref h.objs.size)) Q E ⟨h.push { cls := .type "slice", data := .fields #[vl, vu, vk] }, g, dr, tk, os⟩ := by
  have F1 := F.alloc_fz { cls := .type "slice", data := .fields #[vl, vu, vk] }
  have k1 : Ext h (h.push { cls := .type "slice", data := .fields #[vl, vu, vk] }) := fun b x e => Heap.get?_push_of_some _ e
  have hl' : (h.push { cls := .type "slice", data := .fields #[vl, vu, vk] }).IsList l its := hl.at fun o e => k1 _ _ e
  refine tail_any (T := "list") (let ⟨o, ho, hc, _⟩ := hl'; ⟨o, ho, hc⟩) slot_list_getitem.lookup (wpAny_getItem_list_slice hl' ⟨_, F1.now.2, rfl, rfl⟩ pl pu pk h0 ?_ (by exact hsz)) hs
  exact k _ _ ((F1.alloc_fz _).imp fun x hx => ⟨hx.1.1, hx.2⟩)
theorem RDs.ints {h : Heap} : ∀ {vs : List Value} {ns : List Int}, RDs h vs (ns.map .int) → IntsAre vs ns
  | vs, [], r => by have := r.unnil; subst this; exact .nil
  | vs, n :: ns, r => by
    obtain ⟨v, ws, rfl, a, b⟩ := RDs.uncons r
    obtain ⟨t, rfl⟩ := a.int
    exact .cons n t (RDs.ints b)
theorem z_max {l : Addr} {vs : List Value} {ns : List Int} (hA : A.handled = none) (F : St hb L h m mu Φ) (hl : h.IsList l vs.toArray) (hi : IntsAre vs ns) (hne : 0 < ns.length)
    (k : ∀ h' M t tk', St hb L h' m mu Φ → M ∈ ns → (∀ a, a ∈ ns → a ≤ M) → Q (.int M t) ⟨h', g, dr, tk', os⟩) : wpAny (model PP w) A (call (.builtin "max") [.ref l]) Q E ⟨h, g, dr, tk, os⟩ := by
  obtain ⟨R, N, f1, f⟩ := F.open
  exact max_list_N hA F.fr N hl hi hne fun h' M t tk' F' N' h1 h2 => k h' M t tk' (f1 _ _ F' N') h1 h2
theorem z_cat {x y : Str} {t u : Tok} (hsz : x.length + y.length ≤ sizeLine) (k : ∀ t tk', Q (.str (x ++ y) t) ⟨h, g, dr, tk', os⟩) : wpAny (model PP w) A (binaryOp .Add (.str x t) (.str y u)) Q E ⟨h, g, dr, tk, os⟩ := PyProof.Rows.add_str (fun t tk => k t tk) hsz
theorem z_rep {x : Str} {i : Int} {n : Nat} {t u : Tok} (hk : x.length = n) (hx : n ≤ 16) (hlo : 0 ≤ i) (hhi : i ≤ ((1048576 : Nat) : Int)) (k : ∀ t tk', ((Txt.mul x i).length : Int) = (n : Int) * i → Q (.str (Txt.mul x i) t) ⟨h, g, dr, tk', os⟩) : wpAny (model PP w) A (binaryOp .Mult (.str x t) (.int i u)) Q E ⟨h, g, dr, tk, os⟩ :=
  KXi.mul hk hx (by omega) hhi fun t tk _ e => k t tk (e hlo)
theorem z_notInT {x : Str} {t : Tok} {c : Addr} {xs : List PyData} {b : Bool} (hc : RD h (.ref c) (.tuple xs)) (hxs : PyData.canLayAll0 xs = true) (hd : PyData.strOk x = true) (hu : A.units + 1 < cLine) (hb : (!xs.any fun y => PyData.eqv y (.str x)) = b) (k : QB b ⟨h, g, dr, tk, os⟩) :
    wpAny (model PP w) A (compareOp .NotIn (.str x t) (.ref c)) (fun v s₃ => wpAny (model PP w) A (truthy v) QB E s₃) E ⟨h, g, dr, tk, os⟩ := by
  obtain ⟨as, r⟩ := hc
  subst hb
  exact PySem.SeqAt.notIn_tuple_reads r (.str x t) hxs (by simpa [PyData.canLay0] using hd) (by simp only [PyData.depth, Nat.min_zero, Nat.add_zero]; exact hu) (wpAny_truthy_bool k)
end
end Mine
namespace Mine
theorem rangeSize_nat (n : Nat) : Builtin.Range.rangeSize 0 (n : Int) 1 = (n : Int) := by
  unfold Builtin.Range.rangeSize
  simp only [show (1 : Int) > 0 from by decide, if_true]
  split
  · omega
  · omega
section
variable {prog : Program} {w : World} {A : Around} {E : Value → Shared → Prop} {s : Shared} {Q : Value → Shared → Prop}
theorem looks_rangeFields {r : Addr} {a b c : Int} {t u v : Tok} {M : Model} {Q : Int × Int × Int → Shared → Prop} (hr : IsRange s.heap r a b c t u v) (k : Q (a, b, c) s) : wpAny M A (Builtin.Range.rangeFields (.ref r)) Q E s := by
  unfold Builtin.Range.rangeFields
  refine wpAny_bind (wpAny_field hr rfl rfl ?_)
  refine wpAny_bind (wpAny_of_eq (a := some a) rfl ?_)
  refine wpAny_bind (wpAny_field hr rfl rfl ?_)
  refine wpAny_bind (wpAny_of_eq (a := some b) rfl ?_)
  refine wpAny_bind (wpAny_field hr rfl rfl ?_)
  refine wpAny_bind (wpAny_of_eq (a := some c) rfl ?_)
  exact wpAny_pure k
def revR (n : Nat) : Obj := { cls := .type "range_iterator", data := .fields #[rawInt (0 + ((n : Int) - 1) * 1), rawInt (n : Int), rawInt (-1)] }
theorem call_rangeRev {r : Addr} {n : Nat} {t u v : Tok} (hr : IsRange s.heap r 0 (n : Int) 1 t u v) (hn : n ≤ 1000000)
    (h : Q (.ref s.heap.objs.size) { s with heap := s.heap.push (revR n) }) : wpAny (model prog w) A (call (.builtin "range.__reversed__") [.ref r]) Q E s := by
  have hT : s.TypeIs (.ref r) "range" := ⟨_, hr, rfl⟩
  refine wpAny_call_entry PySem.F.slot_range_reversed hT PySem.F.entry_range_reversed ?_ (PySem.F.args_range_reversed_1 _)
  unfold Builtin.«range.__reversed__»
  refine wpAny_bind (wpAny_of_eq (a := Value.ref r) rfl ?_)
  refine wpAny_bind (looks_rangeFields hr ?_)
  dsimp only
  rw [rangeSize_nat]
  have hs : (Builtin.Range.rangeFitsLong 0 && Builtin.Range.rangeFitsLong (n : Int) && Builtin.Range.rangeFitsLong 1 && Builtin.Range.rangeFitsLong (-1) && Builtin.Range.rangeFitsLong (0 - 1) && Builtin.Range.rangeFitsLong (n : Int)) = true := by
    have hp : (2 : Int) ^ 63 = 9223372036854775808 := by decide +kernel
    simp only [Builtin.Range.rangeFitsLong, hp, Bool.and_eq_true, decide_eq_true_eq]
    omega
  rw [hs]
  simp only [Bool.not_true, Bool.false_eq_true, if_false, if_true]
  exact wpAny_bind (wpAny_newObj_type (wpAny_pure ⟨_, rfl, h⟩))
theorem sub_ri_reversed : isSubtype (.type "range_iterator") (.type "reversed") = pure false := by rw [isSubtype_type]; kernel_rfl
theorem code_reversed_newR {r : Addr} {n : Nat} {t u v : Tok} {Q₁ : Value → Shared → Prop} (hr : IsRange s.heap r 0 (n : Int) 1 t u v) (hn : n ≤ 1000000)
    (h : Q₁ (.ref s.heap.objs.size) { s with heap := s.heap.push (revR n) }) :
    codeAny (model prog w) A (.call (.builtin "reversed.__new__") ⟨[.type "reversed", .ref r], []⟩) (wants Q₁ E) s := by
  have hT : s.TypeIs (.ref r) "range" := ⟨_, hr, rfl⟩
  refine codeAny_of_tree ?_
  show wpAny _ A.in1 (do checkBuiltinCall "reversed.__new__" ⟨[.type "reversed", .ref r], []⟩; again (.builtin "reversed.__new__" ⟨[.type "reversed", .ref r], []⟩)) _ _ s
  refine wpAny_bind (wpAny_of_eq (PySem.F.newCall_reversed_1 _) (wpAny_pure ⟨plainId_quiet PySem.F.plain_reversed_new _, codeAny_builtin PySem.F.entry_reversed_new ?_⟩))
  rw [Around.under_plainId PySem.F.plain_reversed_new _]
  unfold Builtin.«reversed.__new__»
  refine wpAny_bind (wpAny_of_eq (newClass_reversed _) ?_)
  try dsimp only
  refine wpAny_bind (wpAny_of_eq (a := ()) (by first | rfl | kernel_rfl) ?_)
  refine wpAny_bind (wpAny_of_eq (a := ()) (by first | rfl | kernel_rfl) ?_)
  try dsimp only
  refine wpAny_bind (wpAny_specialOf hT PySem.F.slot_range_reversed.lookup ?_)
  try dsimp only
  refine wpAny_bind (wpAny_of_eq (PySem.F.slot_range_reversed.bind _) ?_)
  try dsimp only
  first
  | rw [if_neg (show ¬ ((Value.builtin "range.__reversed__" == Value.none) = true) from Bool.false_ne_true)]
  | (show wpAny _ _ (if (Value.builtin "range.__reversed__" == Value.none) = true then _ else _) _ _ _; rw [if_neg (show ¬ ((Value.builtin "range.__reversed__" == Value.none) = true) from Bool.false_ne_true)])
  refine wpAny_bind (wpAny_rule ?_)
  refine wpAny_bind (m := runValue (.call (.builtin "range.__reversed__") ⟨[.ref r], []⟩)) (show wpAny _ _ (call (.builtin "range.__reversed__") [.ref r]) _ _ _ from call_rangeRev hr hn ?_)
  first
  | exact wpAny_pure h
  | exact wpAny_bind (wpAny_pure (wpAny_pure h))
theorem call_reversed_range {r : Addr} {n : Nat} {t u v : Tok} (hr : IsRange s.heap r 0 (n : Int) 1 t u v) (hn : n ≤ 1000000)
    (h : Q (.ref s.heap.objs.size) { s with heap := s.heap.push (revR n) }) : wpAny (model prog w) A (call (.type "reversed") [.ref r]) Q E s := by
  refine callType_other (U := "range_iterator") (Q₁ := fun obj s₁ => obj = .ref s.heap.objs.size ∧ s₁ = { s with heap := s.heap.push (revR n) }) (by decide +kernel) PySem.F.create_reversed ⟨_, _, PySem.F.mro_reversed⟩ PySem.F.made_reversed sub_ri_reversed (PySem.F.typeCall_reversed_1 _) (code_reversed_newR hr hn ⟨rfl, rfl⟩) ?_
  rintro obj s₁ ⟨rfl, rfl⟩
  exact ⟨⟨_, Heap.get?_push_size _ rfl, rfl⟩, h⟩
end

section
open PyProof.Rows
variable {prog : Program} {w : World} {A : Around} {E : Value → Shared → Prop} {s : Shared}
theorem adjust_upto (b n : Nat) (hb : b ≤ n) : Builtin.Slice.sliceAdjust none (some (b : Int)) 1 (n : Int) = (0, (b : Int)) := by
  unfold Builtin.Slice.sliceAdjust
  have h1 : ¬ ((1 : Int) < 0) := by omega
  have h2 : ¬ ((b : Int) < 0) := by omega
  simp only [h1, h2, if_false]
  congr 1
  omega
theorem places_upto (b : Nat) : Builtin.Slice.slicePlaces 0 (b : Int) 1 = b := by
  unfold Builtin.Slice.slicePlaces
  have h1 : (1 : Int) > 0 := by omega
  simp only [h1, if_true, Int.ediv_one]
  split <;> omega
theorem sliceApplied_upto {sl : Addr} {b n : Nat} {u : Tok} {Q : Int × Int × Nat → Shared → Prop} (hs : s.heap.IsSliceOf sl .none (.int b u) .none) (hb : b ≤ n) (h : Q (0, 1, b) s) :
    wpAny (model prog w) A (Builtin.Slice.sliceApplied (.ref sl) (pure (n : Int))) Q E s := by
  obtain ⟨os, hos, hcs, hds⟩ := id hs
  unfold Builtin.Slice.sliceApplied Builtin.Slice.sliceFields
  refine wpAny_bind (wpAny_bind (wpAny_field hos hds (x := .none) rfl (wpAny_bind (wpAny_field hos hds (x := .int b u) rfl (wpAny_bind (wpAny_field hos hds (x := .none) rfl (wpAny_pure ?_)))))))
  refine wpAny_bind (slicePart_none ?_)
  show wpAny _ _ (if ((1 : Int) == 0) = true then _ else _) _ _ s
  rw [if_neg (by decide)]
  refine wpAny_bind (slicePart_none (wpAny_bind (slicePart_int (wpAny_bind (wpAny_pure ?_)))))
  show wpAny _ _ (match Builtin.Slice.sliceAdjust none (some (b : Int)) 1 (n : Int) with | (lo, hi) => pure (lo, (1 : Int), Builtin.Slice.slicePlaces lo hi 1)) _ _ s
  rw [adjust_upto b n hb]
  show wpAny _ _ (pure ((0 : Int), (1 : Int), Builtin.Slice.slicePlaces 0 (b : Int) 1)) _ _ s
  rw [places_upto b]
  exact wpAny_pure h
theorem pick_upto (xs : Array Value) (b : Nat) : ((List.range b).filterMap fun (k : Nat) => xs[((0 : Int) + (k : Int) * 1).toNat]?).toArray = (xs.toList.take b).toArray := by
  have e : (fun (k : Nat) => xs[((0 : Int) + (k : Int) * 1).toNat]?) = fun k => xs[0 + k]? := by
    funext k
    have : ((0 : Int) + (k : Int) * 1).toNat = 0 + k := by omega
    rw [this]
  rw [e]
  have := pick_run xs 0 b
  rw [List.filterMap_map] at this
  have e2 : ((fun x => xs[x]?) ∘ fun x => 0 + x) = fun k => xs[0 + k]? := rfl
  rw [e2] at this
  rw [this, List.drop_zero]
theorem getItem_tuple_upto {t sl : Addr} {items : Array Value} {b : Nat} {u : Tok} {Q : Value → Shared → Prop} (ht : IsTup s.heap t items) (hs : s.heap.IsSliceOf sl .none (.int b u) .none) (hb : b < items.size)
    (h : Q (.ref s.heap.objs.size) { s with heap := s.heap.push { cls := .type "tuple", data := .seq (items.toList.take b).toArray } })
    (hsz : items.size ≤ sizeLine) : wpAny (model prog w) A (getItem (.ref t) (.ref sl)) Q E s := by
  have hdrop : sizeOk (.seq (items.toList.take b).toArray) := by
    show (items.toList.take b).toArray.size ≤ sizeLine
    rw [List.size_toArray, List.length_take, Array.length_toList]
    omega
  obtain ⟨os, hos, hcs, hds⟩ := id hs
  have hTs : s.TypeIs (.ref sl) "slice" := ⟨os, hos, hcs⟩
  unfold getItem
  try with_reducible refine wpAny_holding ?_
  first | refine wpAny_bind (wpAny_pure ?_) | skip
  refine wpAny_bind (wpAny_sequenceKey ht.typeIs (by decide) ?_)
  refine wpAny_bind (wpAny_callSpecial?_slot (name := Str.ofString "__getitem__") ht.typeIs slot_tuple_getitem
    (wpAny_call_entry slot_tuple_getitem ht.typeIs entry_tuple_getitem ?_ (args_tuple_getitem _ _)))
  show wpAny _ _ (Builtin.Tuple.tupleItemsOf (.ref t) >>= _) _ _ s
  refine wpAny_bind (tupleItemsOf_ ht ?_)
  refine wpAny_bind (wpAny_typeOf hTs ?_)
  rw [if_pos (by decide)]
  refine wpAny_bind (sliceApplied_upto hs (Nat.le_of_lt hb) ?_)
  have hno : ¬ (((0 : Int) == 0 && (1 : Int) == 1 && b == items.size) = true) := by
    have : (b == items.size) = false := by rw [beq_eq_false_iff_ne]; omega
    rw [this]; simp
  show wpAny _ _ (if ((0 : Int) == 0 && (1 : Int) == 1 && b == items.size) = true then _ else _) _ _ s
  rw [if_neg hno, pick_upto items b]
  first
    | exact wpAny_bind (m := Builtin.Tuple.tupleExact _) (wpAny_newObj_type (wpAny_pure ⟨_, rfl, wpAny_pure h⟩) hdrop)
    | exact wpAny_bind (m := Builtin.Tuple.tupleExact _) (wpAny_newObj_type (wpAny_bind (wpAny_pure (wpAny_pure ⟨_, rfl, wpAny_pure h⟩))) hdrop)
    | exact wpAny_bind (wpAny_bind (m := Builtin.Tuple.tupleExact _) (wpAny_newObj_type (wpAny_pure (wpAny_pure ⟨_, rfl, wpAny_pure h⟩)) hdrop))
    | exact wpAny_bind (wpAny_bind (m := Builtin.Tuple.tupleExact _) (wpAny_newObj_type (wpAny_pure ⟨_, rfl, wpAny_pure h⟩) hdrop))
end

section
variable {w : World} {A : Around} {hb h : Heap} {L : Addr} {m : Str → Option Value} {mu : Led} {Φ : Heap → Prop} {g : Array GenState} {dr : Drawn} {tk : Nat} {os : OsState} {env : Env}
  {x : Str} {pos px : Pos} {v : Value} {Q : Value → Shared → Prop} {QB : Bool → Shared → Prop} {QU : Unit → Shared → Prop} {QF : Flow → Shared → Prop} {E : Value → Shared → Prop}
theorem z_tupUpto {value slice : Expr} {l : Addr} {its : List Value} {b : Nat} {u : Tok} {ops : List Value} (F : St hb L h m mu Φ) (hl : IsTup h l its.toArray) (hb' : b < its.length) (hsz : its.length ≤ sizeLine)
    (k : ∀ D h', St hb L h' m mu (fun x => Φ x ∧ x.get? D = some (tupOf (its.take b).toArray)) → Q (.ref D) ⟨h', g, dr, tk, os⟩)
    (hs : subscripted slice false (.ref l) (.ref h.objs.size) = operate ops (getItem (.ref l) (.ref h.objs.size)) := by with_unfolding_all rfl) :
    wpAny (model PP w) A (subscriptTail value slice (.ref l) (.ref h.objs.size)) Q E ⟨h.push { cls := .type "slice", data := .fields #[.none, .int b u, .none] }, g, dr, tk, os⟩ := by
  have F1 := F.alloc_fz { cls := .type "slice", data := .fields #[.none, .int b u, .none] }
  have k1 : Ext h (h.push { cls := .type "slice", data := .fields #[.none, .int b u, .none] }) := fun b x e => Heap.get?_push_of_some _ e
  have hl' : IsTup (h.push { cls := .type "slice", data := .fields #[.none, .int b u, .none] }) l its.toArray := let ⟨o, ho, r⟩ := hl; ⟨o, k1 _ _ ho, r⟩
  refine tail_any (T := "tuple") (let ⟨o, ho, hc, _⟩ := hl'; ⟨o, ho, hc⟩) slot_tuple_getitem.lookup (getItem_tuple_upto hl' ⟨_, F1.now.2, rfl, rfl⟩ (by rw [List.size_toArray]; exact hb') ?_ (by rw [List.size_toArray]; exact hsz)) hs
  exact k _ _ ((F1.alloc_fz _).imp fun x hx => ⟨hx.1.1, hx.2⟩)
theorem fit63 {n : Nat} (h : n ≤ sizeLine) : (n : Int) < 2 ^ 63 := by
  have e : sizeLine = 16777216 := by decide
  have e2 : (2 : Int) ^ 63 = 9223372036854775808 := by decide +kernel
  rw [e] at h; rw [e2]; omega
theorem z_lenL {l : Addr} {its : Array Value} (hl : h.IsList l its) (hsz : its.size ≤ sizeLine) (k : ∀ t tk', Q (.int its.size t) ⟨h, g, dr, tk', os⟩) : wpAny (model PP w) A (call (.builtin "len") [.ref l]) Q E ⟨h, g, dr, tk, os⟩ :=
  PyProof.Rows.len_list hl (fit63 hsz) (k _ _)
theorem z_range {n : Int} {t : Tok} (F : St hb L h m mu Φ) (k : ∀ r h' t1 t2 tk', St hb L h' m mu (fun x => Φ x ∧ IsRange x r 0 n 1 t1 t t2) → Q (.ref r) ⟨h', g, dr, tk', os⟩) : wpAny (model PP w) A (call (.type "range") [.int n t]) Q E ⟨h, g, dr, tk, os⟩ :=
  call_range_1 (k _ _ _ _ _ (F.alloc_fz _))
/-- a for over reversed(range(n)) -/
theorem z_forRevRange {R : Result → Shared → Prop} {target : Expr} {body : List Stmt} {r : Addr} {n : Nat} {t u v : Tok} {Φ₀ : Heap → Prop} (hA : A.handled = none) (hr : IsRange h r 0 (n : Int) 1 t u v) (hn : n ≤ 1000000)
    (J : Nat → (Str → Option Value) → Led → (Heap → Prop) → Prop) (F : St hb L h m mu (fun x => Φ₀ x ∧ Φ x)) (hj : J 0 m mu Φ)
    (step : ∀ i v m₁ mu₁ Φ₁ h₁ tk₁ it, i < n → (∃ t, v = .int ((n - 1 - i : Nat) : Int) t) → J i m₁ mu₁ Φ₁ → St hb L h₁ m₁ (it ++ mu₁) (fun x => Φ₀ x ∧ Φ₁ x) →
      wpAny (model PP w) A (assign target env v) (fun _ s₂ => wpAny (model PP w) A (execs body env) (TurnE hb L g dr os Φ₀ it (J (i + 1)) R) NoE s₂) NoE ⟨h₁, g, dr, tk₁, os⟩)
    (done : ∀ h' tk' m' mu' Φ', J n m' mu' Φ' → St hb L h' m' mu' (fun x => Φ₀ x ∧ Φ' x) → R (.ok .next) ⟨h', g, dr, tk', os⟩)
    (ht : ∀ I v, letOwnedTupleGo target (.ref I) v = pure () := by intro _ _; rfl) :
    wpAny (model PP w) A (call (.type "reversed") [.ref r]) (fun xv s₁ => wpAny (model PP w) A (pyIter xv) (fun it s₂ => codeAny (model PP w) A (.forLoop target it body [] env) R s₂) NoE s₁) NoE ⟨h, g, dr, tk, os⟩ := by
  refine call_reversed_range hr hn ?_
  have F1 := F.alloc_mu (revR n)
  have W := Walks.range (prog := PP) (w := w) hA h.objs.size (0 + ((n : Int) - 1) * 1) (-1) n
  have st0 : IsRangeIter (h.push (revR n)) h.objs.size ((0 + ((n : Int) - 1) * 1) + ((0 : Nat) : Int) * (-1)) ((n : Int) - ((0 : Nat) : Int)) (-1) := by
    have e1 : (0 + ((n : Int) - 1) * 1) + ((0 : Nat) : Int) * (-1) = 0 + ((n : Int) - 1) * 1 := by omega
    have e2 : (n : Int) - ((0 : Nat) : Int) = n := by omega
    rw [e1, e2]
    exact F1.get (.head _)
  refine W.self 0 _ _ _ st0 ?_
  refine z_forW W ?_ ?_ J st0 F1 hj (fun i v m₁ mu₁ Φ₁ h₁ tk₁ o hi hP hJ F => step i v m₁ mu₁ Φ₁ h₁ tk₁ _ hi ?_ hJ F) done (ht _)
  · intro b hb; exact .inl (List.mem_singleton.mp hb)
  · intro i h hs; exact ⟨_, hs⟩
  · obtain ⟨t, rfl⟩ := hP
    refine ⟨t, ?_⟩
    congr 1
    omega
/-- two names stored in the other order -/
theorem z_swap2 {elts : List Expr} {k1 k2 : Nat} {tpos vpos : Pos} {es : List Expr} {n1 n2 : Str} {s : Shared}
    (hw : swappedStores [.Tuple elts k1 tpos] (.Tuple es k2 vpos) env = pure (some [n1, n2]))
    (k : wpAny (model PP w) A (eval (.Tuple es k2 vpos) env) (fun v s₁ => wpAny (model PP w) A (unpackItems v 2 none) (fun items s₂ => wpAny (model PP w) A (assignInOrder [bindName env n2, bindName env n1] items.reverse) (fun _ => QF .next) E s₂) E s₁) E s) :
    wpAny (model PP w) A (exec (.Assign [.Tuple elts k1 tpos] (.Tuple es k2 vpos) pos) env) QF E s :=
  Assign_Tuple_swapped (names := [n1, n2]) k (by rfl) hw
theorem z_unpackT {t : Addr} {its : Array Value} (hA : A.handled = none) (F : St hb L h m mu Φ) (ht : IsTup h t its) (hn : n = its.size) {QL : List Value → Shared → Prop} (k : ∀ h', St hb L h' m mu Φ → QL its.toList ⟨h', g, dr, tk, os⟩) :
    wpAny (model PP w) A (unpackItems (.ref t) n none) QL E ⟨h, g, dr, tk, os⟩ := by
  obtain ⟨R, N, f1, f⟩ := F.open
  exact unpackItemsN_ F.fr N ht hA hn fun h' F' N' => k h' (f1 _ _ F' N')
theorem z_bind (F : St hb env.locals h m mu Φ) (k : ∀ h' tk', St hb env.locals h' (fun y => if y = x then some v else m y) mu Φ → QU () ⟨h', g, dr, tk', os⟩) (hl : env.kindOf x = some .local := by rfl) (hp : (env.scope.kind == .class || (env.scope.kind == .module && env.locals != env.globals)) = false := by rfl) :
    wpAny (model PP w) A (bindName env x v) QU E ⟨h, g, dr, tk, os⟩ := wpAny_bindName (wpAny_storeName_local hl F.fr.ns (fun h' hn hs => k h' _ (F.store hn hs)) hp)
theorem z_asTup {elts : List Expr} {kk : Nat} {t : Addr} {its : Array Value} (hA : A.handled = none) (F : St hb L h m mu Φ) (ht : IsTup h t its) (hn : (assignEach elts env).length = its.size) (hstar : (assignEach elts env).findIdx? (·.1) = none)
    (k : ∀ h', St hb L h' m mu Φ → wpAny (model PP w) A (assignInOrder ((assignEach elts env).map (·.2)) its.toList) QU E ⟨h', g, dr, tk, os⟩) : wpAny (model PP w) A (assign (.Tuple elts kk pos) env (.ref t)) QU E ⟨h, g, dr, tk, os⟩ := by
  obtain ⟨R, N, f1, f⟩ := F.open
  exact unpackN_ F.fr N ht hA hn hstar fun h' F' N' => k h' (f1 _ _ F' N')
end
end Mine
namespace Mine

theorem rules_ok (w : World) : ∀ n (p : P) (v : Value), p.ht < n → p.Ok → p.size ≤ 200 → Pur w 218 [v] (n + 1) (3 * n + 3) (fun h => RD h v p.data) (LR (p.rules.map .int)) := by
  intro n
  induction n with
  | zero => intro p v hn; exact absurd hn (Nat.not_lt_zero _)
  | succ n ih =>
    intro p v hn hok hsz
    refine' Pur.intro (binds := [(Str.ofString "plain", v)]) (d := n + 1) (u := 3 * n + 3) (by exact rfl) (by exact rfl) (fun _ _ => BindsTo.of_eq rfl) (locs rfl) rfl rfl rfl (by decide) ?_
    intro A s h₁ tk C T hp F
    cases p with
    | leaf k t =>
      obtain ⟨a, t0, t1, t2, rfl, ht⟩ := RD.leaf hp
      refine wpAny_execs_cons (wpAny_If (wpAny_isTrue_Compare1 (Subscript_ (z_ld F rfl (z_int fun t tk => z_itemT (ht.keeps F.ext) (by decide) (by decide) rfl rfl (z_int fun t tk => z_eqi ?_))))))
      refine wpAny_execs_cons (wpAny_Return_some (List_ (spliced_none (z_list F (by decide) fun l h' F => ?_))))
      exact ⟨_, _, _, _, _, _, rfl, F, fun R hR => ⟨l, [], 0, rfl, fun h hh => ⟨(hR h hh).2, RDs.nil⟩⟩⟩
    | node r nm cs =>
      obtain ⟨a, t0, t1, l, rfl, ht, vs, n', o', hlo, hlc, hld, hr⟩ := RD.node hp
      simp only [P.ht] at hn
      simp only [P.size] at hsz
      refine wpAny_execs_cons (wpAny_If (wpAny_isTrue_Compare1 (Subscript_ (z_ld F rfl (z_int fun t tk => z_itemT (ht.keeps F.ext) (by decide) (by decide) rfl rfl (z_int fun t tk => z_eqi (z_f (by simpa using hok.1.1) (wpAny_execs_nil ?_))))))))
      refine wpAny_execs_cons (wpAny_Assign_Name (List_ (spliced_none (z_list F (by decide) fun l0 h' F => z_st F fun h' tk' F => ?_))))
      refine wpAny_execs_cons (wpAny_For (Subscript_ (z_ld F rfl (z_int fun t tk => z_itemT (ht.keeps F.ext) (by decide) (by decide) rfl rfl ?_))))
      refine z_forList (items := vs) (Φ₀ := fun _ => True) C.hd ⟨o', fun h' e _ => ⟨e _ _ hlo, hlc, _, hld⟩⟩
        (fun i m mu Φ => mu = [] ∧ m "plain" = some (.ref a) ∧ ∃ lf ws, m "found" = some (.ref lf) ∧ ∀ h, Φ h → h.get? lf = some (listOf (List.toArray ws) 0) ∧ RDs h ws ((P.ruless (cs.take i)).map .int))
        (F.imp fun h hh => ⟨trivial, hh⟩) ⟨rfl, rfl, l0, [], rfl, fun h hh => ⟨hh.2, RDs.nil⟩⟩ ?_ ?_
      · rintro i v m₁ mu₁ Φ₁ h₁ tk₁ it hi hv ⟨rfl, hm1, lf, ws, hm2, hΦ⟩ F
        have hlen := hr.len
        rw [P.datas_len, Array.length_toList] at hlen
        obtain ⟨c, hc⟩ : ∃ c, cs[i]? = some c := ⟨cs[i]'(by omega), by simp⟩
        have hcv : RD s.heap v c.data := hr.at (i := i) (by simpa using hv) (by rw [P.datas_get, hc]; rfl)
        refine z_as F fun h' tk' F => ?_
        refine wpAny_execs_cons (wpAny_Assign_Name (wpAny_BinOp (z_ld F hm2 (Call_ (z_gl T F rfl (z_cw T (by exact rfl) (spliced_more (z_ld F rfl (spliced_none ⟨T.keeps F.ext, ?_⟩)))))))))
        refine Pur.use (ih c v (by have := P.ht_lt hc; omega) (P.ok_at hok.2 hc) (by have := P.size_le hc; omega)) C T F (hcv.keeps F.ext) fun x h' tk' R hpost hadd => ?_
        obtain ⟨lx, xs, nx, rfl, hx⟩ := hpost
        have F := hadd _ hx
        obtain ⟨e1, e2⟩ := hΦ _ F.now.1.2
        obtain ⟨e3, e4⟩ := F.now.2
        have b1 := e2.len; have b2 := e4.len
        have b3 := P.ruless_len (cs.take i); have b4 := P.sizes_take (cs := cs) (i := i); have b5 := P.rules_len c; have b6 := P.size_le hc
        simp only [List.length_map] at b1 b2
        refine z_addL F ⟨_, e1, rfl, 0, rfl⟩ ⟨_, e3, rfl, nx, rfl⟩ (sz_lt (by omega)) fun l2 h' F => z_st F fun h' tk' F => wpAny_execs_nil ?_
        refine ⟨_, _, _, [], fun h => h.get? l2 = some (listOf (ws ++ xs).toArray 0) ∧ RDs h (ws ++ xs) ((P.ruless (cs.take (i + 1))).map .int), rfl, F.imp fun h hh => ⟨trivial, hh.2, ?_⟩, rfl, hm1, l2, _, rfl, fun h hh => hh⟩
        rw [P.ruless_take hc, List.map_append]
        exact RDs.append (hΦ _ hh.1.1.2).2 hh.1.2.2
      · rintro h' tk' m' mu' Φ' ⟨rfl, hm1, lf, ws, hm2, hΦ⟩ F
        refine wpAny_execs_cons (wpAny_Return_some (wpAny_BinOp (z_ld F hm2 (List_ (spliced_more (Subscript_ (z_ld F hm1 (z_int fun t tk => z_itemT (ht.keeps F.ext) (by decide) (by decide) rfl rfl (spliced_none (z_list F (sz_lt (by simp)) fun l2 h' F => ?_))))))))))
        obtain ⟨e1, e2⟩ := hΦ _ F.now.1.2
        have b1 := e2.len
        have hlen := hr.len
        rw [P.datas_len, Array.length_toList] at hlen
        rw [List.take_of_length_le (by omega)] at b1 hΦ
        have b3 := P.ruless_len cs
        simp only [List.length_map] at b1
        refine z_addL F ⟨_, e1, rfl, 0, rfl⟩ ⟨_, F.now.2, rfl, 0, rfl⟩ (sz_lt (by simp; omega)) fun l2 h' F => ?_
        refine ⟨_, _, _, _, _, _, rfl, F, fun R hR => ⟨l2, _, 0, rfl, fun h hh => ⟨(hR h hh).2, ?_⟩⟩⟩
        rw [P.rules, List.map_append]
        exact RDs.append (hΦ _ (hR h hh).1.1.2).2 (RDs.cons RD.mkInt RDs.nil)
end Mine
namespace Mine

mutual
def P.told : P → PyData
  | .leaf k t => .tuple [.str k, .str t]
  | .node _ nm cs => .tuple (.str nm :: P.tolds cs)
def P.tolds : List P → List PyData
  | [] => []
  | c :: cs => c.told :: P.tolds cs
end
theorem P.tolds_take {c : P} : ∀ {cs : List P} {i : Nat}, cs[i]? = some c → P.tolds (cs.take (i + 1)) = P.tolds (cs.take i) ++ [c.told]
  | [], i, e => by simp at e
  | d :: cs, 0, e => by simp at e; subst e; simp [P.tolds]
  | d :: cs, i + 1, e => by have := P.tolds_take (cs := cs) (i := i) (by simpa using e); simp [P.tolds, this]
theorem told_ok (w : World) : ∀ n (p : P) (v : Value), p.ht < n → p.Ok → p.size ≤ 200 → Pur w 204 [v] (n + 1) (3 * n + 3) (fun h => RD h v p.data) (DR p.told) := by
  intro n
  induction n with
  | zero => intro p v hn; exact absurd hn (Nat.not_lt_zero _)
  | succ n ih =>
    intro p v hn hok hsz
    refine' Pur.intro (binds := [(Str.ofString "plain", v)]) (d := n + 1) (u := 3 * n + 3) (by exact rfl) (by exact rfl) (fun _ _ => BindsTo.of_eq rfl) (locs rfl) rfl rfl rfl (by decide) ?_
    intro A s h₁ tk C T hp F
    cases p with
    | leaf k t =>
      obtain ⟨a, t0, t1, t2, rfl, ht⟩ := RD.leaf hp
      refine wpAny_execs_cons (wpAny_Return_some (IfExp_ (wpAny_isTrue_Compare1 (Subscript_ (z_ld F rfl (z_int fun t tk => z_itemT (ht.keeps F.ext) (by decide) (by decide) rfl rfl (z_int fun t tk => z_eqi (z_t rfl ?_))))))))
      refine Tuple_ (spliced_more (Subscript_ (z_ld F rfl (z_int fun t tk => z_itemT (ht.keeps F.ext) (by decide) (by decide) rfl rfl (spliced_more (Subscript_ (z_ld F rfl (z_int fun t tk => z_itemT (ht.keeps F.ext) (by decide) (by decide) rfl rfl (spliced_none (z_tup F (sz_lt (by simp)) fun l h' F => ?_)))))))))) 
      exact ⟨_, _, _, _, _, _, rfl, F, fun R hR h hh => RD.mkTup (hR h hh).2 (RDs.cons RD.mkStr (RDs.cons RD.mkStr RDs.nil))⟩
    | node r nm cs =>
      obtain ⟨a, t0, t1, l, rfl, ht, vs, n', o', hlo, hlc, hld, hr⟩ := RD.node hp
      simp only [P.ht] at hn
      simp only [P.size] at hsz
      have hlen := hr.len
      rw [P.datas_len, Array.length_toList] at hlen
      have hcl := P.len_le cs
      refine wpAny_execs_cons (wpAny_Return_some (IfExp_ (wpAny_isTrue_Compare1 (Subscript_ (z_ld F rfl (z_int fun t tk => z_itemT (ht.keeps F.ext) (by decide) (by decide) rfl rfl (z_int fun t tk => z_eqi (z_f (by simpa using hok.1.1) ?_))))))))
      refine wpAny_BinOp (Tuple_ (spliced_more (Subscript_ (z_ld F rfl (z_int fun t tk => z_itemT (ht.keeps F.ext) (by decide) (by decide) rfl rfl (spliced_none (z_tup F (sz_lt (by simp)) fun lt h' F => ?_)))))))
      refine Call_ (z_bn T F (by exact rfl) (v := .type "tuple") (by boot_fast) (by decide) (z_cwT (spliced_more (z_lc (Subscript_ (z_ld F rfl (z_int fun t tk => z_itemT (ht.keeps F.ext) (by decide) (by decide) rfl rfl ?_)))))))
      refine z_lcL (items := vs) C.hd ⟨o', F.ext _ _ hlo, hlc, _, hld⟩ F (fun i ys Φ => ∀ h', Φ h' → RDs h' ys (P.tolds (cs.take i))) (fun h' _ => RDs.nil) (sz_lt (by omega)) ?_ ?_
      · intro hc C' i v ys Φ₁ h₁ tk₁ mc it hk hi hv hJ hys G
        obtain ⟨c, hcc⟩ : ∃ c, cs[i]? = some c := ⟨cs[i]'(by omega), by simp⟩
        have hcv : RD s.heap v c.data := hr.at (i := i) (by simpa using hv) (by rw [P.datas_get, hcc]; rfl)
        have kc : Ext s.heap hc := fun b o e => hk b o (F.ext b o e)
        have T' : Tp w hc := T.keeps kc
        refine y_as G fun h' tk' G => z_tests0 (z_t rfl ?_)
        refine Call_ (y_gl T' G rfl (z_cw T' (by exact rfl) (spliced_more (y_ld G rfl (spliced_none ⟨T'.keeps G.ext, ?_⟩)))))
        refine Pur.use (ih c v (by have := P.ht_lt hcc; omega) (P.ok_at hok.2 hcc) (by have := P.size_le hcc; omega)) C T' G (hcv.keeps (kc.trans G.ext)) fun x h' tk' R hpost hadd => ?_
        exact ⟨_, _, _, _, rfl, hadd _ hpost, fun h hh => by rw [P.tolds_take hcc]; exact RDs.append (hJ _ hh.1) (RDs.cons hh.2 RDs.nil)⟩
      · intro C' D h' tk' ys Φ' oC mm hJ hys hns G
        refine post_none hns G fun h'' F => ?_
        have b := (hJ _ F.now.1.2).len
        refine spliced_none (z_tupleOf F ⟨_, F.now.2, rfl, _, rfl⟩ (sz_lt (by omega)) fun tt h' F => ?_)
        refine z_addT F (fun x hx => ⟨_, hx.1.1.1.2, rfl, 0, rfl⟩) (fun x hx => ⟨_, hx.2, rfl, 0, rfl⟩) (sz_lt (by simp; omega)) fun l h' F => ?_
        refine ⟨_, _, _, _, _, _, rfl, F, fun R hR h hh => RDs.toTup (hR h hh).2 ?_⟩
        have := hJ h (hR h hh).1.1.1.2
        rw [List.take_of_length_le (by omega)] at this
        exact RDs.cons RD.mkStr this
end Mine
namespace Mine
mutual
def P.lvs : P → List (Str × Str)
  | .leaf k t => [(k, t)]
  | .node _ _ cs => P.lvss cs
def P.lvss : List P → List (Str × Str)
  | [] => []
  | c :: cs => c.lvs ++ P.lvss cs
end
def pairD (p : Str × Str) : PyData := .tuple [.str p.1, .str p.2]
theorem P.lvss_take {c : P} : ∀ {cs : List P} {i : Nat}, cs[i]? = some c → P.lvss (cs.take (i + 1)) = P.lvss (cs.take i) ++ c.lvs
  | [], i, e => by simp at e
  | d :: cs, 0, e => by simp at e; subst e; simp [P.lvss]
  | d :: cs, i + 1, e => by have := P.lvss_take (cs := cs) (i := i) (by simpa using e); simp [P.lvss, this]
mutual
theorem P.lvs_len : ∀ p : P, p.lvs.length ≤ p.size
  | .leaf _ _ => by simp [P.lvs, P.size]
  | .node _ _ cs => by have := P.lvss_len cs; simp only [P.lvs, P.size]; omega
theorem P.lvss_len : ∀ cs : List P, (P.lvss cs).length ≤ P.sizes cs
  | [] => by simp [P.lvss]
  | c :: cs => by have := P.lvs_len c; have := P.lvss_len cs; simp only [P.lvss, P.sizes, List.length_append]; omega
end

theorem leaves_ok (w : World) : ∀ n (p : P) (v : Value), p.ht < n → p.Ok → p.size ≤ 200 → Pur w 211 [v] (n + 1) (3 * n + 3) (fun h => RD h v p.data) (LR (p.lvs.map pairD)) := by
  intro n
  induction n with
  | zero => intro p v hn; exact absurd hn (Nat.not_lt_zero _)
  | succ n ih =>
    intro p v hn hok hsz
    refine' Pur.intro (binds := [(Str.ofString "plain", v)]) (d := n + 1) (u := 3 * n + 3) (by exact rfl) (by exact rfl) (fun _ _ => BindsTo.of_eq rfl) (locs rfl) rfl rfl rfl (by decide) ?_
    intro A s h₁ tk C T hp F
    cases p with
    | leaf k t =>
      obtain ⟨a, t0, t1, t2, rfl, ht⟩ := RD.leaf hp
      refine wpAny_execs_cons (wpAny_If (wpAny_isTrue_Compare1 (Subscript_ (z_ld F rfl (z_int fun t tk => z_itemT (ht.keeps F.ext) (by decide) (by decide) rfl rfl (z_int fun t tk => z_eqi (z_t rfl ?_)))))))
      refine wpAny_execs_cons (wpAny_Return_some (List_ (spliced_more (Tuple_ (spliced_more (Subscript_ (z_ld F rfl (z_int fun t tk => z_itemT (ht.keeps F.ext) (by decide) (by decide) rfl rfl (spliced_more (Subscript_ (z_ld F rfl (z_int fun t tk => z_itemT (ht.keeps F.ext) (by decide) (by decide) rfl rfl (spliced_none (z_tup F (sz_lt (by simp)) fun l h' F => spliced_none (z_list F (sz_lt (by simp)) fun l2 h' F => ?_)))))))))))))))
      exact ⟨_, _, _, _, _, _, rfl, F, fun R hR => ⟨l2, _, 0, rfl, fun h hh => ⟨(hR h hh).2, RDs.cons (RD.mkTup (hR h hh).1.2 (RDs.cons RD.mkStr (RDs.cons RD.mkStr RDs.nil))) RDs.nil⟩⟩⟩
    | node r nm cs =>
      obtain ⟨a, t0, t1, l, rfl, ht, vs, n', o', hlo, hlc, hld, hr⟩ := RD.node hp
      simp only [P.ht] at hn
      simp only [P.size] at hsz
      have hlen := hr.len
      rw [P.datas_len, Array.length_toList] at hlen
      refine wpAny_execs_cons (wpAny_If (wpAny_isTrue_Compare1 (Subscript_ (z_ld F rfl (z_int fun t tk => z_itemT (ht.keeps F.ext) (by decide) (by decide) rfl rfl (z_int fun t tk => z_eqi (z_f (by simpa using hok.1.1) (wpAny_execs_nil ?_))))))))
      refine wpAny_execs_cons (wpAny_Assign_Name (List_ (spliced_none (z_list F (by decide) fun l0 h' F => z_st F fun h' tk' F => ?_))))
      refine wpAny_execs_cons (wpAny_For (Subscript_ (z_ld F rfl (z_int fun t tk => z_itemT (ht.keeps F.ext) (by decide) (by decide) rfl rfl ?_))))
      refine z_forList (items := vs) (Φ₀ := fun _ => True) C.hd ⟨o', fun h' e _ => ⟨e _ _ hlo, hlc, _, hld⟩⟩
        (fun i m mu Φ => mu = [] ∧ m "plain" = some (.ref a) ∧ ∃ lf ws, m "found" = some (.ref lf) ∧ ∀ h, Φ h → h.get? lf = some (listOf (List.toArray ws) 0) ∧ RDs h ws ((P.lvss (cs.take i)).map pairD))
        (F.imp fun h hh => ⟨trivial, hh⟩) ⟨rfl, rfl, l0, [], rfl, fun h hh => ⟨hh.2, RDs.nil⟩⟩ ?_ ?_
      · rintro i v m₁ mu₁ Φ₁ h₁ tk₁ it hi hv ⟨rfl, hm1, lf, ws, hm2, hΦ⟩ F
        obtain ⟨c, hc⟩ : ∃ c, cs[i]? = some c := ⟨cs[i]'(by omega), by simp⟩
        have hcv : RD s.heap v c.data := hr.at (i := i) (by simpa using hv) (by rw [P.datas_get, hc]; rfl)
        refine z_as F fun h' tk' F => ?_
        refine wpAny_execs_cons (wpAny_Assign_Name (wpAny_BinOp (z_ld F hm2 (Call_ (z_gl T F rfl (z_cw T (by exact rfl) (spliced_more (z_ld F rfl (spliced_none ⟨T.keeps F.ext, ?_⟩)))))))))
        refine Pur.use (ih c v (by have := P.ht_lt hc; omega) (P.ok_at hok.2 hc) (by have := P.size_le hc; omega)) C T F (hcv.keeps F.ext) fun x h' tk' R hpost hadd => ?_
        obtain ⟨lx, xs, nx, rfl, hx⟩ := hpost
        have F := hadd _ hx
        obtain ⟨e1, e2⟩ := hΦ _ F.now.1.2
        obtain ⟨e3, e4⟩ := F.now.2
        have b1 := e2.len; have b2 := e4.len
        have b3 := P.lvss_len (cs.take i); have b4 := P.sizes_take (cs := cs) (i := i); have b5 := P.lvs_len c; have b6 := P.size_le hc
        simp only [List.length_map] at b1 b2
        refine z_addL F ⟨_, e1, rfl, 0, rfl⟩ ⟨_, e3, rfl, nx, rfl⟩ (sz_lt (by omega)) fun l2 h' F => z_st F fun h' tk' F => wpAny_execs_nil ?_
        refine ⟨_, _, _, [], fun h => h.get? l2 = some (listOf (ws ++ xs).toArray 0) ∧ RDs h (ws ++ xs) ((P.lvss (cs.take (i + 1))).map pairD), rfl, F.imp fun h hh => ⟨trivial, hh.2, ?_⟩, rfl, hm1, l2, _, rfl, fun h hh => hh⟩
        rw [P.lvss_take hc, List.map_append]
        exact RDs.append (hΦ _ hh.1.1.2).2 hh.1.2.2
      · rintro h' tk' m' mu' Φ' ⟨rfl, hm1, lf, ws, hm2, hΦ⟩ F
        refine wpAny_execs_cons (wpAny_Return_some (z_ld F hm2 ?_))
        rw [List.take_of_length_le (by omega)] at hΦ
        exact ⟨_, _, _, _, _, _, rfl, F, fun R hR => ⟨lf, _, 0, rfl, fun h hh => hΦ _ (hR h hh).2⟩⟩
end Mine
namespace Mine
mutual
def P.opened : P → List Int
  | .leaf _ _ => []
  | .node r _ cs => r :: P.openedR cs
def P.openedR : List P → List Int
  | [] => []
  | c :: cs => P.openedR cs ++ c.opened
end
mutual
theorem P.opened_eq : ∀ p : P, p.opened = p.rules.reverse
  | .leaf _ _ => by simp [P.opened, P.rules]
  | .node _ _ cs => by simp [P.opened, P.rules, P.openedR_eq cs]
theorem P.openedR_eq : ∀ cs : List P, P.openedR cs = (P.ruless cs).reverse
  | [] => by simp [P.openedR, P.ruless]
  | c :: cs => by simp [P.openedR, P.ruless, P.opened_eq c, P.openedR_eq cs]
end
theorem P.opened_len (p : P) : p.opened.length ≤ p.size := by rw [P.opened_eq, List.length_reverse]; exact P.rules_len p
theorem P.openedR_len (cs : List P) : (P.openedR cs).length ≤ P.sizes cs := by rw [P.openedR_eq, List.length_reverse]; exact P.ruless_len cs
theorem P.sizes_drop : ∀ {cs : List P} {i : Nat}, P.sizes (cs.drop i) ≤ P.sizes cs
  | [], i => by simp [P.sizes]
  | d :: cs, 0 => by simp [P.sizes]
  | d :: cs, i + 1 => by have := P.sizes_drop (cs := cs) (i := i); simp only [List.drop_succ_cons, P.sizes]; omega
theorem rev_at {α : Type} {xs : List α} {i : Nat} {v : α} (h : xs.reverse.toArray[i]? = some v) : i < xs.length ∧ xs[xs.length - 1 - i]? = some v := by
  simp only [List.getElem?_toArray] at h
  have hi : i < xs.length := by have := (List.getElem?_eq_some_iff.mp h).1; simpa using this
  rw [List.getElem?_reverse hi] at h
  exact ⟨hi, h⟩

theorem opened_ok (w : World) : ∀ n (p : P) (v : Value), p.ht < n → p.Ok → p.size ≤ 200 → Pur w 242 [v] (n + 1) (3 * n + 3) (fun h => RD h v p.data) (LR (p.opened.map .int)) := by
  intro n
  induction n with
  | zero => intro p v hn; exact absurd hn (Nat.not_lt_zero _)
  | succ n ih =>
    intro p v hn hok hsz
    refine' Pur.intro (binds := [(Str.ofString "plain", v)]) (d := n + 1) (u := 3 * n + 3) (by exact rfl) (by exact rfl) (fun _ _ => BindsTo.of_eq rfl) (locs rfl) rfl rfl rfl (by decide) ?_
    intro A s h₁ tk C T hp F
    cases p with
    | leaf k t =>
      obtain ⟨a, t0, t1, t2, rfl, ht⟩ := RD.leaf hp
      refine wpAny_execs_cons (wpAny_If (wpAny_isTrue_Compare1 (Subscript_ (z_ld F rfl (z_int fun t tk => z_itemT (ht.keeps F.ext) (by decide) (by decide) rfl rfl (z_int fun t tk => z_eqi (z_t rfl ?_)))))))
      refine wpAny_execs_cons (wpAny_Return_some (List_ (spliced_none (z_list F (by decide) fun l h' F => ?_))))
      exact ⟨_, _, _, _, _, _, rfl, F, fun R hR => ⟨l, [], 0, rfl, fun h hh => ⟨(hR h hh).2, RDs.nil⟩⟩⟩
    | node r nm cs =>
      obtain ⟨a, t0, t1, l, rfl, ht, vs, n', o', hlo, hlc, hld, hr⟩ := RD.node hp
      simp only [P.ht] at hn
      simp only [P.size] at hsz
      have hlen := hr.len
      rw [P.datas_len] at hlen
      have hcl := P.len_le cs
      have hvs : vs.size = vs.toList.length := by simp
      refine wpAny_execs_cons (wpAny_If (wpAny_isTrue_Compare1 (Subscript_ (z_ld F rfl (z_int fun t tk => z_itemT (ht.keeps F.ext) (by decide) (by decide) rfl rfl (z_int fun t tk => z_eqi (z_f (by simpa using hok.1.1) (wpAny_execs_nil ?_))))))))
      refine wpAny_execs_cons (wpAny_Assign_Name (List_ (spliced_more (Subscript_ (z_ld F rfl (z_int fun t tk => z_itemT (ht.keeps F.ext) (by decide) (by decide) rfl rfl (spliced_none (z_list F (sz_lt (by simp)) fun l0 h' F => z_st F fun h' tk' F => ?_))))))))
      refine wpAny_execs_cons (wpAny_For (Subscript_ (Subscript_ (z_ld F rfl (z_int fun t tk => z_itemT (ht.keeps F.ext) (by decide) (by decide) rfl rfl (z_slice (wpAny_evalPart_none (wpAny_evalPart_none (wpAny_evalPart_some (wpAny_UnaryOp (z_int fun t tk => neg_int ?_)))))))))))
      refine z_slT (its := vs) F ⟨o', F.ext _ _ hlo, hlc, _, hld⟩ .none .none (.int _ _) (by decide) (sz_lt (by omega)) fun lr h' F => ?_
      rw [krv_pick] at F
      refine z_forList (items := vs.toList.reverse.toArray) (Φ₀ := fun h => h.get? lr = some (listOf vs.toList.reverse.toArray 0)) (Φ := fun x => x.get? l0 = some (listOf (List.toArray [.int r t0]) 0)) C.hd ⟨_, fun h' e hh => ⟨hh, rfl, _, rfl⟩⟩
        (fun i m mu Φ => mu = [] ∧ m "plain" = some (.ref a) ∧ ∃ lf ws, m "found" = some (.ref lf) ∧ ∀ h, Φ h → h.get? lf = some (listOf (List.toArray ws) 0) ∧ RDs h ws ((r :: P.openedR (cs.drop (cs.length - i))).map .int))
        (F.imp fun h hh => ⟨hh.2, hh.1.2⟩) ⟨rfl, rfl, l0, _, rfl, fun h hh => ⟨hh, by simp [P.openedR]; exact RDs.cons RD.mkInt RDs.nil⟩⟩ ?_ ?_
      · rintro i v m₁ mu₁ Φ₁ h₁ tk₁ it hi hv ⟨rfl, hm1, lf, ws, hm2, hΦ⟩ F
        obtain ⟨hi', hv⟩ := rev_at hv
        obtain ⟨c, hc⟩ : ∃ c, cs[cs.length - 1 - i]? = some c := ⟨cs[cs.length - 1 - i]'(by omega), by simp⟩
        have hcv : RD s.heap v c.data := hr.at (i := cs.length - 1 - i) (by rw [← hlen]; exact hv) (by rw [P.datas_get, hc]; rfl)
        refine z_as F fun h' tk' F => ?_
        refine wpAny_execs_cons (wpAny_Assign_Name (wpAny_BinOp (z_ld F hm2 (Call_ (z_gl T F rfl (z_cw T (by exact rfl) (spliced_more (z_ld F rfl (spliced_none ⟨T.keeps F.ext, ?_⟩)))))))))
        refine Pur.use (ih c v (by have := P.ht_lt hc; omega) (P.ok_at hok.2 hc) (by have := P.size_le hc; omega)) C T F (hcv.keeps F.ext) fun x h' tk' R hpost hadd => ?_
        obtain ⟨lx, xs, nx, rfl, hx⟩ := hpost
        have F := hadd _ hx
        obtain ⟨e1, e2⟩ := hΦ _ F.now.1.2
        obtain ⟨e3, e4⟩ := F.now.2
        have b1 := e2.len; have b2 := e4.len
        have b3 := P.openedR_len (cs.drop (cs.length - i)); have b4 := P.sizes_drop (cs := cs) (i := cs.length - i); have b5 := P.opened_len c; have b6 := P.size_le hc
        simp only [List.length_map, List.length_cons] at b1 b2
        refine z_addL F ⟨_, e1, rfl, 0, rfl⟩ ⟨_, e3, rfl, nx, rfl⟩ (sz_lt (by omega)) fun l2 h' F => z_st F fun h' tk' F => wpAny_execs_nil ?_
        refine ⟨_, _, _, [], fun h => h.get? l2 = some (listOf (ws ++ xs).toArray 0) ∧ RDs h (ws ++ xs) ((r :: P.openedR (cs.drop (cs.length - (i + 1)))).map .int), rfl, F.imp fun h hh => ⟨hh.1.1.1, hh.2, ?_⟩, rfl, hm1, l2, _, rfl, fun h hh => hh⟩
        have ed : cs.drop (cs.length - (i + 1)) = c :: cs.drop (cs.length - i) := by
          have e := List.drop_eq_getElem_cons (l := cs) (i := cs.length - (i + 1)) (by omega)
          rw [e]
          have e2 : cs.length - (i + 1) + 1 = cs.length - i := by omega
          rw [e2]
          congr 1
          have e3 : cs.length - (i + 1) = cs.length - 1 - i := by omega
          have := (List.getElem?_eq_some_iff.mp hc).2
          simp only [e3]; exact this
        rw [ed, P.openedR, ← List.cons_append, List.map_append]
        exact RDs.append (hΦ _ hh.1.1.2).2 hh.1.2.2
      · rintro h' tk' m' mu' Φ' ⟨rfl, hm1, lf, ws, hm2, hΦ⟩ F
        refine wpAny_execs_cons (wpAny_Return_some (z_ld F hm2 ?_))
        have e0 : cs.length - vs.toList.reverse.toArray.size = 0 := by simp; omega
        rw [e0, List.drop_zero] at hΦ
        exact ⟨_, _, _, _, _, _, rfl, F, fun R hR => ⟨lf, _, 0, rfl, fun h hh => hΦ _ (hR h hh).2⟩⟩
end Mine
namespace Mine
theorem P.hts_mem : ∀ {cs : List P} {M : Int}, M ∈ (cs.map fun c => (c.ht : Int)) ++ [0] → (∀ a, a ∈ (cs.map fun c => (c.ht : Int)) ++ [0] → a ≤ M) → M = P.hts cs
  | cs, M, hm, hall => by
    have up : ∀ (cs : List P) (a : Int), a ∈ (cs.map fun c => (c.ht : Int)) ++ [0] → a ≤ P.hts cs := by
      intro cs
      induction cs with
      | nil => intro a ha; simp at ha; simp [ha, P.hts]
      | cons c cs ih =>
        intro a ha
        simp only [List.map_cons, List.cons_append, List.mem_cons] at ha
        simp only [P.hts]
        rcases ha with rfl | ha
        · omega
        · have := ih a ha; omega
    have low : ∀ cs : List P, (P.hts cs : Int) ∈ (cs.map fun c => (c.ht : Int)) ++ [0] := by
      intro cs
      induction cs with
      | nil => simp [P.hts]
      | cons c cs ih =>
        simp only [P.hts, List.map_cons, List.cons_append, List.mem_cons]
        by_cases hh : P.hts cs ≤ c.ht
        · left; omega
        · right; rw [show max c.ht (P.hts cs) = P.hts cs by omega]; exact ih
    have h1 := up cs M hm
    have h2 := hall _ (low cs)
    omega
def IR (i : Int) (_ : Led) (v : Value) : Prop := ∃ t, v = .int i t
theorem height_ok (w : World) : ∀ n (p : P) (v : Value), p.ht < n → p.Ok → p.size ≤ 200 → Pur w 223 [v] (n + 1) (3 * n + 3) (fun h => RD h v p.data) (IR p.ht) := by
  intro n
  induction n with
  | zero => intro p v hn; exact absurd hn (Nat.not_lt_zero _)
  | succ n ih =>
    intro p v hn hok hsz
    refine' Pur.intro (binds := [(Str.ofString "plain", v)]) (d := n + 1) (u := 3 * n + 3) (by exact rfl) (by exact rfl) (fun _ _ => BindsTo.of_eq rfl) (locs rfl) rfl rfl rfl (by decide) ?_
    intro A s h₁ tk C T hp F
    cases p with
    | leaf k t =>
      obtain ⟨a, t0, t1, t2, rfl, ht⟩ := RD.leaf hp
      refine wpAny_execs_cons (wpAny_Return_some (IfExp_ (wpAny_isTrue_Compare1 (Subscript_ (z_ld F rfl (z_int fun t tk => z_itemT (ht.keeps F.ext) (by decide) (by decide) rfl rfl (z_int fun t tk => z_eqi (z_t rfl (z_int fun t tk => ?_)))))))))
      exact ⟨_, _, _, _, _, _, rfl, F, fun R hR => ⟨t, rfl⟩⟩
    | node r nm cs =>
      obtain ⟨a, t0, t1, l, rfl, ht, vs, n', o', hlo, hlc, hld, hr⟩ := RD.node hp
      simp only [P.ht] at hn
      simp only [P.size] at hsz
      have hlen := hr.len
      rw [P.datas_len, Array.length_toList] at hlen
      have hcl := P.len_le cs
      refine wpAny_execs_cons (wpAny_Return_some (IfExp_ (wpAny_isTrue_Compare1 (Subscript_ (z_ld F rfl (z_int fun t tk => z_itemT (ht.keeps F.ext) (by decide) (by decide) rfl rfl (z_int fun t tk => z_eqi (z_f (by simpa using hok.1.1) ?_))))))))
      refine wpAny_BinOp (z_int fun t tk => Call_ (z_bn T F (by exact rfl) (v := .builtin "max") (by boot_fast) (by decide) (z_cwB (spliced_more (wpAny_BinOp (z_lc (Subscript_ (z_ld F rfl (z_int fun t tk => z_itemT (ht.keeps F.ext) (by decide) (by decide) rfl rfl ?_)))))))))
      refine z_lcL (items := vs) C.hd ⟨o', F.ext _ _ hlo, hlc, _, hld⟩ F (fun i ys Φ => ∀ h', Φ h' → RDs h' ys ((cs.take i).map fun c => .int c.ht)) (fun h' _ => RDs.nil) (sz_lt (by omega)) ?_ ?_
      · intro hc C' i v ys Φ₁ h₁ tk₁ mc it hk hi hv hJ hys G
        obtain ⟨c, hcc⟩ : ∃ c, cs[i]? = some c := ⟨cs[i]'(by omega), by simp⟩
        have hcv : RD s.heap v c.data := hr.at (i := i) (by simpa using hv) (by rw [P.datas_get, hcc]; rfl)
        have kc : Ext s.heap hc := fun b o e => hk b o (F.ext b o e)
        have T' : Tp w hc := T.keeps kc
        refine y_as G fun h' tk' G => z_tests0 (z_t rfl ?_)
        refine Call_ (y_gl T' G rfl (z_cw T' (by exact rfl) (spliced_more (y_ld G rfl (spliced_none ⟨T'.keeps G.ext, ?_⟩)))))
        refine Pur.use (ih c v (by have := P.ht_lt hcc; omega) (P.ok_at hok.2 hcc) (by have := P.size_le hcc; omega)) C T' G (hcv.keeps (kc.trans G.ext)) fun x h' tk' R hpost hadd => ?_
        obtain ⟨t, rfl⟩ := hpost
        refine ⟨_, _, _, _, rfl, hadd (fun _ => True) fun _ _ => trivial, fun h hh => ?_⟩
        rw [List.take_add_one, hcc, Option.toList_some, List.map_append]
        exact RDs.append (hJ _ hh.1) (RDs.cons RD.mkInt RDs.nil)
      · intro C' D h' tk' ys Φ' oC mm hJ hys hns G
        refine post_none hns G fun h'' F => ?_
        have b := hJ _ F.now.1.2
        rw [List.take_of_length_le (by omega)] at b
        have bl := b.len
        simp only [List.length_map] at bl
        refine List_ (spliced_more (z_int fun t tk => spliced_none (z_list F (sz_lt (by simp)) fun l2 h' F => ?_)))
        refine z_addL F ⟨_, F.now.1.2, rfl, _, rfl⟩ ⟨_, F.now.2, rfl, _, rfl⟩ (sz_lt (by simp; omega)) fun l3 h' F => spliced_none ?_
        have hi : IntsAre (ys ++ [.int 0 t]) ((cs.map fun c => (c.ht : Int)) ++ [0]) := by
          refine RDs.ints (h := h'') ?_
          rw [List.map_append, List.map_map]
          exact RDs.append b (RDs.cons RD.mkInt RDs.nil)
        refine z_max C.hd F ⟨_, F.now.2, rfl, _, rfl⟩ hi (by simp) fun h' M t tk' F hm hall => z_add fun t tk => ?_
        refine ⟨_, _, _, _, _, _, rfl, F, fun R hR => ⟨t, ?_⟩⟩
        rw [P.hts_mem hm hall, P.ht, Int.add_comm]; rfl
end Mine
namespace Mine
/-- what a leaf's row shows behind its indent -/
def leafHead (k t : Str) : Str := if t = k ∨ t = Str.ofString "" then k else k ++ Str.ofString " " ++ t
def pad (d : Nat) : Str := Txt.mul (Str.ofString "  ") d
mutual
def P.page : P → Nat → List Str
  | .leaf k t, d => [pad d ++ leafHead k t]
  | .node _ nm cs, d => (pad d ++ nm) :: P.pages cs (d + 1)
def P.pages : List P → Nat → List Str
  | [], _ => []
  | c :: cs, d => c.page d ++ P.pages cs d
end
theorem P.pages_take {c : P} {d : Nat} : ∀ {cs : List P} {i : Nat}, cs[i]? = some c → P.pages (cs.take (i + 1)) d = P.pages (cs.take i) d ++ c.page d
  | [], i, e => by simp at e
  | b :: cs, 0, e => by simp at e; subst e; simp [P.pages]
  | b :: cs, i + 1, e => by have := P.pages_take (d := d) (cs := cs) (i := i) (by simpa using e); simp [P.pages, this]
mutual
theorem P.page_len : ∀ (p : P) (d : Nat), (p.page d).length ≤ p.size
  | .leaf _ _, d => by simp [P.page, P.size]
  | .node _ _ cs, d => by have := P.pages_len cs (d + 1); simp only [P.page, P.size, List.length_cons]; omega
theorem P.pages_len : ∀ (cs : List P) (d : Nat), (P.pages cs d).length ≤ P.sizes cs
  | [], d => by simp [P.pages]
  | c :: cs, d => by have := P.page_len c d; have := P.pages_len cs d; simp only [P.pages, P.sizes, List.length_append]; omega
end
theorem str_empty : Str.ofString "" = (Str.empty : Str) := by decide +kernel
theorem append_emptyS (x : Str) : x ++ Str.ofString "" = x := by rw [str_empty]; exact Str.append_empty x

theorem notIn_cond (k t : Str) : (!([PyData.str (Str.ofString ""), PyData.str k].any fun y => PyData.eqv y (.str t))) = !decide (t = k ∨ t = Str.ofString "") := by
  simp only [List.any_cons, List.any_nil, PyData.eqv, Bool.or_false]
  congr 1
  rw [Bool.eq_iff_iff]
  simp only [Bool.or_eq_true, beq_iff_eq, decide_eq_true_eq]
  exact ⟨fun h => h.elim (fun e => .inr e.symm) fun e => .inl e.symm, fun h => h.elim (fun e => .inr e.symm) fun e => .inl e.symm⟩
theorem page_ok (w : World) : ∀ n (p : P) (v : Value) (d : Nat) (td : Tok), p.ht < n → p.Ok → p.size ≤ 200 → d + p.ht ≤ 200 → Pur w 230 [v, .int d td] (n + 1) (3 * n + 6) (fun h => RD h v p.data) (LR ((p.page d).map .str)) := by
  intro n
  induction n with
  | zero => intro p v d td hn; exact absurd hn (Nat.not_lt_zero _)
  | succ n ih =>
    intro p v d td hn hok hsz hdd
    refine' Pur.intro (binds := [(Str.ofString "plain", v), (Str.ofString "deep", .int d td)]) (d := n + 1) (u := 3 * n + 6) (by exact rfl) (by exact rfl) (fun _ _ => BindsTo.of_eq rfl) (locs rfl) rfl rfl rfl (by decide) ?_
    intro A s h₁ tk C T hp F
    have e2 : (Str.ofString "  ").length = 2 := by decide +kernel
    have e1 : (Str.ofString " ").length = 1 := by decide +kernel
    have e0 : (Str.ofString "").length = 0 := by decide +kernel
    cases p with
    | leaf k tx =>
      obtain ⟨a, t0, t1, t2, rfl, ht⟩ := RD.leaf hp
      have hk := hok.1; have ht' := hok.2
      refine wpAny_execs_cons (wpAny_If (wpAny_isTrue_Compare1 (Subscript_ (z_ld F rfl (z_int fun t tk => z_itemT (ht.keeps F.ext) (by decide) (by decide) rfl rfl (z_int fun t tk => z_eqi (z_t rfl ?_)))))))
      refine wpAny_execs_cons (wpAny_Return_some (List_ (spliced_more (wpAny_BinOp (wpAny_BinOp (wpAny_BinOp (z_str fun t tk => z_ld F rfl (z_rep e2 (by decide) (by omega) (by omega) fun tp tk hp2 => ?_))))))))
      refine Subscript_ (z_ld F rfl (z_int fun t tk => z_itemT (ht.keeps F.ext) (by decide) (by decide) rfl rfl (z_cat (sz_lt (by have := hk.len; omega)) fun t3 tk => ?_)))
      have hl1 : (Txt.mul (Str.ofString "  ") d ++ k).length ≤ 1000 := by rw [Str.length_append]; have := hk.len; omega
      refine IfExp_ (wpAny_isTrue_Compare1 (Subscript_ (z_ld F rfl (z_int fun t tk => z_itemT (ht.keeps F.ext) (by decide) (by decide) rfl rfl (Tuple_ (spliced_more (z_str fun te tk => spliced_more (Subscript_ (z_ld F rfl (z_int fun t tk => z_itemT (ht.keeps F.ext) (by decide) (by decide) rfl rfl (spliced_none (z_tup F (sz_lt (by simp)) fun l h' F => ?_))))))))))))
      have hin : RD h' (.ref l) (.tuple [.str (Str.ofString ""), .str k]) := RD.mkTup F.now.2 (RDs.cons RD.mkStr (RDs.cons RD.mkStr RDs.nil))
      refine z_notInT hin (by simp only [PyData.canLayAll0, PyData.canLay0, hk.ok]; decide +kernel) ht'.ok (by have := C.un; omega) rfl ?_
      have hcond := notIn_cond k tx
      rw [hcond]
      by_cases hc : tx = k ∨ tx = Str.ofString ""
      · refine z_f (by simp [hc]) (z_str fun te tk => z_cat (sz_lt (by omega)) fun t4 tk => spliced_none (z_list F (sz_lt (by simp)) fun l2 h' F => ?_))
        refine ⟨_, _, _, _, _, _, rfl, F, fun R hR => ⟨l2, _, 0, rfl, fun h hh => ⟨(hR h hh).2, ?_⟩⟩⟩
        rw [append_emptyS]
        simp only [P.page, leafHead, if_pos hc, List.map_cons, List.map_nil]
        exact RDs.cons RD.mkStr RDs.nil
      · refine z_t (by simp [hc]) (wpAny_BinOp (z_str fun te tk => Subscript_ (z_ld F rfl (z_int fun t tk => z_itemT (ht.keeps F.ext) (by decide) (by decide) rfl rfl (z_cat (sz_lt (by have := ht'.len; omega)) fun t4 tk => ?_)))))
        refine z_cat (sz_lt (by simp only [Str.length_append]; have := ht'.len; have := hk.len; omega)) fun t4 tk => spliced_none (z_list F (sz_lt (by simp)) fun l2 h' F => ?_)
        refine ⟨_, _, _, _, _, _, rfl, F, fun R hR => ⟨l2, _, 0, rfl, fun h hh => ⟨(hR h hh).2, ?_⟩⟩⟩
        simp only [P.page, leafHead, if_neg hc, List.map_cons, List.map_nil]
        have e : Txt.mul (Str.ofString "  ") d ++ k ++ (Str.ofString " " ++ tx) = pad d ++ (k ++ Str.ofString " " ++ tx) := by rw [pad, Str.append_assoc, Str.append_assoc]
        rw [e]
        exact RDs.cons RD.mkStr RDs.nil
    | node r nm cs =>
      obtain ⟨a, t0, t1, l, rfl, ht, vs, n', o', hlo, hlc, hld, hr⟩ := RD.node hp
      simp only [P.ht] at hn hdd
      simp only [P.size] at hsz
      have hnm := hok.1.2
      have hlen := hr.len
      rw [P.datas_len, Array.length_toList] at hlen
      refine wpAny_execs_cons (wpAny_If (wpAny_isTrue_Compare1 (Subscript_ (z_ld F rfl (z_int fun t tk => z_itemT (ht.keeps F.ext) (by decide) (by decide) rfl rfl (z_int fun t tk => z_eqi (z_f (by simpa using hok.1.1) (wpAny_execs_nil ?_))))))))
      refine wpAny_execs_cons (wpAny_Assign_Name (List_ (spliced_more (wpAny_BinOp (wpAny_BinOp (z_str fun t tk => z_ld F rfl (z_rep e2 (by decide) (by omega) (by omega) fun tp tk hp2 => ?_)))))))
      refine Subscript_ (z_ld F rfl (z_int fun t tk => z_itemT (ht.keeps F.ext) (by decide) (by decide) rfl rfl (z_cat (sz_lt (by have := hnm.len; omega)) fun t3 tk => spliced_none (z_list F (sz_lt (by simp)) fun l0 h' F => z_st F fun h' tk' F => ?_))))
      refine wpAny_execs_cons (wpAny_For (Subscript_ (z_ld F rfl (z_int fun t tk => z_itemT (ht.keeps F.ext) (by decide) (by decide) rfl rfl ?_))))
      refine z_forList (items := vs) (Φ₀ := fun _ => True) C.hd ⟨o', fun h' e _ => ⟨e _ _ hlo, hlc, _, hld⟩⟩
        (fun i m mu Φ => mu = [] ∧ m "plain" = some (.ref a) ∧ m "deep" = some (.int d td) ∧ ∃ lf ws, m "rows" = some (.ref lf) ∧ ∀ h, Φ h → h.get? lf = some (listOf (List.toArray ws) 0) ∧ RDs h ws (((pad d ++ nm) :: P.pages (cs.take i) (d + 1)).map .str))
        (F.imp fun h hh => ⟨trivial, hh⟩) ⟨rfl, rfl, rfl, l0, _, rfl, fun h hh => ⟨hh.2, by simp [P.pages]; exact RDs.cons RD.mkStr RDs.nil⟩⟩ ?_ ?_
      · rintro i v m₁ mu₁ Φ₁ h₁ tk₁ it hi hv ⟨rfl, hm1, hm3, lf, ws, hm2, hΦ⟩ F
        obtain ⟨c, hc⟩ : ∃ c, cs[i]? = some c := ⟨cs[i]'(by omega), by simp⟩
        have hcv : RD s.heap v c.data := hr.at (i := i) (by simpa using hv) (by rw [P.datas_get, hc]; rfl)
        refine z_as F fun h' tk' F => ?_
        refine wpAny_execs_cons (wpAny_Assign_Name (wpAny_BinOp (z_ld F hm2 (Call_ (z_gl T F rfl (z_cw T (by exact rfl) (spliced_more (z_ld F rfl (spliced_more (wpAny_BinOp (z_ld F hm3 (z_int fun t tk => z_add fun td' tk => spliced_none ⟨T.keeps F.ext, ?_⟩))))))))))))
        refine Pur.use (ih c v (d + 1) td' (by have := P.ht_lt hc; omega) (P.ok_at hok.2 hc) (by have := P.size_le hc; omega) (by have := P.ht_lt hc; omega)) C T F (hcv.keeps F.ext) fun x h' tk' R hpost hadd => ?_
        obtain ⟨lx, xs, nx, rfl, hx⟩ := hpost
        have F := hadd _ hx
        obtain ⟨e1, e2⟩ := hΦ _ F.now.1.2
        obtain ⟨e3, e4⟩ := F.now.2
        have b1 := e2.len; have b2 := e4.len
        have b3 := P.pages_len (cs.take i) (d + 1); have b4 := P.sizes_take (cs := cs) (i := i); have b5 := P.page_len c (d + 1); have b6 := P.size_le hc
        simp only [List.length_map, List.length_cons] at b1 b2
        refine z_addL F ⟨_, e1, rfl, 0, rfl⟩ ⟨_, e3, rfl, nx, rfl⟩ (sz_lt (by omega)) fun l2 h' F => z_st F fun h' tk' F => wpAny_execs_nil ?_
        refine ⟨_, _, _, [], fun h => h.get? l2 = some (listOf (ws ++ xs).toArray 0) ∧ RDs h (ws ++ xs) (((pad d ++ nm) :: P.pages (cs.take (i + 1)) (d + 1)).map .str), rfl, F.imp fun h hh => ⟨trivial, hh.2, ?_⟩, rfl, hm1, hm3, l2, _, rfl, fun h hh => hh⟩
        rw [P.pages_take hc, ← List.cons_append, List.map_append]
        exact RDs.append (hΦ _ hh.1.1.2).2 hh.1.2.2
      · rintro h' tk' m' mu' Φ' ⟨rfl, hm1, hm3, lf, ws, hm2, hΦ⟩ F
        refine wpAny_execs_cons (wpAny_Return_some (z_ld F hm2 ?_))
        rw [List.take_of_length_le (by omega)] at hΦ
        exact ⟨_, _, _, _, _, _, rfl, F, fun R hR => ⟨lf, _, 0, rfl, fun h hh => hΦ _ (hR h hh).2⟩⟩
end Mine
namespace Mine

/-- the made tree, by its addresses -/
inductive O where
  | leaf (a d l ta td : Addr) (k t : Str)
  | node (a d l : Addr) (r : Int) (nm : Str) (cs : List O)
def O.addr : O → Addr
  | .leaf a _ _ _ _ _ _ => a
  | .node a _ _ _ _ _ => a
def O.cs : O → List O
  | .leaf _ _ _ _ _ _ _ => []
  | .node _ _ _ _ _ cs => cs
def O.isLeaf : O → Bool
  | .leaf _ _ _ _ _ _ _ => true
  | .node _ _ _ _ _ _ => false
def O.nm : O → Str
  | .leaf _ _ _ _ _ k _ => k
  | .node _ _ _ _ nm _ => nm
def O.rl : O → Int
  | .leaf _ _ _ _ _ _ _ => 0
  | .node _ _ _ r _ _ => r
mutual
def O.plain : O → P
  | .leaf _ _ _ _ _ k t => .leaf k t
  | .node _ _ _ r nm cs => .node r nm (O.plains cs)
def O.plains : List O → List P
  | [] => []
  | c :: cs => c.plain :: O.plains cs
end
abbrev refs (cs : List O) : List Value := cs.map fun c => .ref c.addr
abbrev ent (w : World) (x : String) (u : Tok) (v : Value) : DictEntry := ⟨PyData.keyHash w.params (Str.ofString x), .str (Str.ofString x) u, v⟩
def LeafAt (w : World) (h : Heap) (a d l ta td : Addr) (k t : Str) : Prop :=
  h.get? a = some (instObj 118 d) ∧ (∃ u1 u2 u3 u4 t1 t2 n, h.get? d = some (dictOf [ent w "name" u1 (.str k t1), ent w "rule" u2 (.int 0 t2), ent w "children" u3 (.ref l), ent w "token" u4 (.ref ta)] n)) ∧
  (∃ n, h.get? l = some (listOf #[] n)) ∧ h.get? ta = some (instObj 164 td) ∧
  (∃ u1 u2 u3 u4 t1 t2 t3 n, h.get? td = some (dictOf [ent w "kind" u1 (.str k t1), ent w "text" u2 (.str t t2), ent w "at" u3 .none, ent w "worth" u4 (.str t t3)] n))
def NodeAt (w : World) (h : Heap) (a d l : Addr) (r : Int) (nm : Str) (cs : List Value) : Prop :=
  h.get? a = some (instObj 83 d) ∧ (∃ u1 u2 u3 t1 t2 n, h.get? d = some (dictOf [ent w "name" u1 (.str nm t1), ent w "rule" u2 (.int r t2), ent w "children" u3 (.ref l)] n)) ∧
  (∃ n, h.get? l = some (listOf cs.toArray n))
mutual
def O.At (w : World) (h : Heap) : O → Prop
  | .leaf a d l ta td k t => LeafAt w h a d l ta td k t
  | .node a d l r nm cs => NodeAt w h a d l r nm (refs cs) ∧ O.Ats w h cs
def O.Ats (w : World) (h : Heap) : List O → Prop
  | [] => True
  | c :: cs => O.At w h c ∧ O.Ats w h cs
end
theorem LeafAt.keeps {w : World} {h h' : Heap} {a d l ta td : Addr} {k t : Str} (x : LeafAt w h a d l ta td k t) (e : Ext h h') : LeafAt w h' a d l ta td k t := by
  obtain ⟨h1, ⟨u1, u2, u3, u4, t1, t2, n, h2⟩, ⟨n2, h3⟩, h4, ⟨v1, v2, v3, v4, s1, s2, s3, n3, h5⟩⟩ := x
  exact ⟨e _ _ h1, ⟨u1, u2, u3, u4, t1, t2, n, e _ _ h2⟩, ⟨n2, e _ _ h3⟩, e _ _ h4, ⟨v1, v2, v3, v4, s1, s2, s3, n3, e _ _ h5⟩⟩
theorem NodeAt.keeps {w : World} {h h' : Heap} {a d l : Addr} {r : Int} {nm : Str} {cs : List Value} (x : NodeAt w h a d l r nm cs) (e : Ext h h') : NodeAt w h' a d l r nm cs := by
  obtain ⟨h1, ⟨u1, u2, u3, t1, t2, n, h2⟩, ⟨n2, h3⟩⟩ := x
  exact ⟨e _ _ h1, ⟨u1, u2, u3, t1, t2, n, e _ _ h2⟩, ⟨n2, e _ _ h3⟩⟩
mutual
theorem O.At.keeps {w : World} {h h' : Heap} (e : Ext h h') : ∀ {o : O}, O.At w h o → O.At w h' o
  | .leaf _ _ _ _ _ _ _, x => by rw [O.At] at x ⊢; exact x.keeps e
  | .node _ _ _ _ _ cs, x => by rw [O.At] at x ⊢; exact ⟨x.1.keeps e, O.Ats.keeps e x.2⟩
theorem O.Ats.keeps {w : World} {h h' : Heap} (e : Ext h h') : ∀ {cs : List O}, O.Ats w h cs → O.Ats w h' cs
  | [], _ => by rw [O.Ats]; trivial
  | c :: cs, x => by rw [O.Ats] at x ⊢; exact ⟨O.At.keeps e x.1, O.Ats.keeps e x.2⟩
end
theorem O.Ats.mem {w : World} {h : Heap} : ∀ {cs : List O}, O.Ats w h cs → ∀ c ∈ cs, O.At w h c
  | [], _, _, hc => nomatch hc
  | c :: cs, x, b, hb => by
    rw [O.Ats] at x
    rcases List.mem_cons.mp hb with rfl | hb
    · exact x.1
    · exact x.2.mem b hb
theorem O.Ats.of {w : World} {h : Heap} : ∀ {cs : List O}, (∀ c ∈ cs, O.At w h c) → O.Ats w h cs
  | [], _ => by rw [O.Ats]; trivial
  | c :: cs, x => by rw [O.Ats]; exact ⟨x c (.head _), O.Ats.of fun b hb => x b (.tail _ hb)⟩
theorem O.At.kids {w : World} {h : Heap} {o : O} (x : o.At w h) : ∀ c ∈ o.cs, O.At w h c := by
  cases o with
  | leaf => intro c hc; cases hc
  | node => rw [O.At] at x; exact x.2.mem

noncomputable abbrev KK (w : World) : Frag := Mine.hd.heap_39 w.params
section
variable (w : World)
theorem kk_pg83 (x : Str) : plainGet (KK w) 83 x = true := by exact rfl
theorem kk_pg118 (x : Str) : plainGet (KK w) 118 x = true := by exact rfl
theorem kk_pg164 (x : Str) : plainGet (KK w) 164 x = true := by exact rfl
theorem kk_hd83 : hasDictIn (KK w) 83 = true := by exact rfl
theorem kk_hd118 : hasDictIn (KK w) 118 = true := by exact rfl
theorem kk_hd164 : hasDictIn (KK w) 164 = true := by exact rfl
end

section
variable {w : World} {A : Around} {hb h : Heap} {L x C dx : Addr} {m : Str → Option Value} {mu : Led} {Φ : Heap → Prop} {g : Array GenState} {dr : Drawn} {tk : Nat} {os : OsState} {env : Env}
  {pos px : Pos} {v : Value} {Q : Value → Shared → Prop} {QB : Bool → Shared → Prop} {QU : Unit → Shared → Prop} {QF : Flow → Shared → Prop} {E : Value → Shared → Prop}
theorem inst_at {C : Addr} {d : Addr} {od : Obj} (h1 : h.get? x = some (instObj C d)) (h2 : h.get? d = some od) : InstAt h x (instObj C d) C (some od) := ⟨h1, rfl, rfl, h2⟩
theorem z_get {es : List DictEntry} {n : Nat} {d : Addr} {name : Str} {expr : Bool} (T : Tp w hb) (F : St hb L h m mu Φ) (h1 : h.get? x = some (instObj C d)) (h2 : h.get? d = some (dictOf es n)) (hg : plainGet (KK w) C name = true) (hh : hasDictIn (KK w) C = true)
    (hl : getL name es = some (some v)) (hv : handedIn v = true) (k : Q v ⟨h, g, dr, tk + 1, os⟩) (ha : findIn (KK w) (.ref C) name = some none := by exact rfl) : wpAny (model PP w) A (getAttr (.ref x) name expr) Q E ⟨h, g, dr, tk, os⟩ :=
  get_own (attr := none) (s := ⟨h, g, dr, tk, os⟩) F.fr T.K (inst_at h1 h2) hg hh ha rfl hl hv k
theorem z_meth {es : List DictEntry} {n : Nat} {d f : Addr} {name : Str} {pl : Sem Bool} {QM : Value × List Value → Shared → Prop} (T : Tp w hb) (F : St hb L h m mu Φ) (h1 : h.get? x = some (instObj C d)) (h2 : h.get? d = some (dictOf es n)) (hg : plainGet (KK w) C name = true)
    (hf : findIn (KK w) (.ref C) name = some (some (.ref f))) (ht : isFn (KK w) (.ref f) = true) (hl : getL name es = some none) (k : QM (.ref f, [.ref x]) ⟨h, g, dr, tk, os⟩) : wpAny (model PP w) A (getMethod (.ref x) name pl) QM E ⟨h, g, dr, tk, os⟩ :=
  method_inst (s := ⟨h, g, dr, tk, os⟩) F.fr T.K (inst_at h1 h2) hg hf ht hl k

theorem a_name {o : O} {expr : Bool} (T : Tp w hb) (F : St hb L h m mu Φ) (ho : o.At w h) (k : ∀ t tk', Q (.str o.nm t) ⟨h, g, dr, tk', os⟩) : wpAny (model PP w) A (getAttr (.ref o.addr) "name" expr) Q E ⟨h, g, dr, tk, os⟩ := by
  cases o with
  | leaf a d l ta td kd tx =>
    rw [O.At] at ho
    obtain ⟨h1, ⟨u1, u2, u3, u4, t1, t2, n, h2⟩, _⟩ := ho
    exact z_get T F h1 h2 (kk_pg118 w _) (kk_hd118 w) rfl rfl (k _ _)
  | node a d l r nm cs =>
    rw [O.At] at ho
    obtain ⟨⟨h1, ⟨u1, u2, u3, t1, t2, n, h2⟩, _⟩, _⟩ := ho
    exact z_get T F h1 h2 (kk_pg83 w _) (kk_hd83 w) rfl rfl (k _ _)
theorem a_rule {o : O} {expr : Bool} (T : Tp w hb) (F : St hb L h m mu Φ) (ho : o.At w h) (k : ∀ t tk', Q (.int o.rl t) ⟨h, g, dr, tk', os⟩) : wpAny (model PP w) A (getAttr (.ref o.addr) "rule" expr) Q E ⟨h, g, dr, tk, os⟩ := by
  cases o with
  | leaf a d l ta td kd tx =>
    rw [O.At] at ho
    obtain ⟨h1, ⟨u1, u2, u3, u4, t1, t2, n, h2⟩, _⟩ := ho
    exact z_get T F h1 h2 (kk_pg118 w _) (kk_hd118 w) rfl rfl (k _ _)
  | node a d l r nm cs =>
    rw [O.At] at ho
    obtain ⟨⟨h1, ⟨u1, u2, u3, t1, t2, n, h2⟩, _⟩, _⟩ := ho
    exact z_get T F h1 h2 (kk_pg83 w _) (kk_hd83 w) rfl rfl (k _ _)
theorem a_kids {o : O} {expr : Bool} (T : Tp w hb) (F : St hb L h m mu Φ) (ho : o.At w h) (k : ∀ l n tk', (∀ h', Ext h h' → h'.get? l = some (listOf (refs o.cs).toArray n)) → Q (.ref l) ⟨h, g, dr, tk', os⟩) : wpAny (model PP w) A (getAttr (.ref o.addr) "children" expr) Q E ⟨h, g, dr, tk, os⟩ := by
  cases o with
  | leaf a d l ta td kd tx =>
    rw [O.At] at ho
    obtain ⟨h1, ⟨u1, u2, u3, u4, t1, t2, n, h2⟩, ⟨n', h3⟩, _⟩ := ho
    exact z_get T F h1 h2 (kk_pg118 w _) (kk_hd118 w) rfl rfl (k _ _ _ fun h' e => e _ _ h3)
  | node a d l r nm cs =>
    rw [O.At] at ho
    obtain ⟨⟨h1, ⟨u1, u2, u3, t1, t2, n, h2⟩, ⟨n', h3⟩⟩, _⟩ := ho
    exact z_get T F h1 h2 (kk_pg83 w _) (kk_hd83 w) rfl rfl (k _ _ _ fun h' e => e _ _ h3)
theorem a_token {a d l ta td : Addr} {kd tx : Str} {expr : Bool} (T : Tp w hb) (F : St hb L h m mu Φ) (ho : (O.leaf a d l ta td kd tx).At w h) (k : ∀ tk', Q (.ref ta) ⟨h, g, dr, tk', os⟩) : wpAny (model PP w) A (getAttr (.ref a) "token" expr) Q E ⟨h, g, dr, tk, os⟩ := by
  rw [O.At] at ho
  obtain ⟨h1, ⟨u1, u2, u3, u4, t1, t2, n, h2⟩, _⟩ := ho
  exact z_get T F h1 h2 (kk_pg118 w _) (kk_hd118 w) rfl rfl (k _)
theorem a_kind {a d l ta td : Addr} {kd tx : Str} {expr : Bool} (T : Tp w hb) (F : St hb L h m mu Φ) (ho : LeafAt w h a d l ta td kd tx) (k : ∀ t tk', Q (.str kd t) ⟨h, g, dr, tk', os⟩) : wpAny (model PP w) A (getAttr (.ref ta) "kind" expr) Q E ⟨h, g, dr, tk, os⟩ := by
  obtain ⟨_, _, _, h1, ⟨u1, u2, u3, u4, t1, t2, t3, n, h2⟩⟩ := ho
  exact z_get T F h1 h2 (kk_pg164 w _) (kk_hd164 w) rfl rfl (k _ _)
theorem a_text {a d l ta td : Addr} {kd tx : Str} {expr : Bool} (T : Tp w hb) (F : St hb L h m mu Φ) (ho : LeafAt w h a d l ta td kd tx) (k : ∀ t tk', Q (.str tx t) ⟨h, g, dr, tk', os⟩) : wpAny (model PP w) A (getAttr (.ref ta) "text" expr) Q E ⟨h, g, dr, tk, os⟩ := by
  obtain ⟨_, _, _, h1, ⟨u1, u2, u3, u4, t1, t2, t3, n, h2⟩⟩ := ho
  exact z_get T F h1 h2 (kk_pg164 w _) (kk_hd164 w) rfl rfl (k _ _)

-- method calls
theorem z_cm0 {f : Addr} {self : Value} (T : Tp w hb) (F : St hb L h m mu Φ) (hk : keepIn (KK w) (.ref f) = true) (k : wpAny (model PP w) A (call (.ref f) [self]) Q E ⟨h, g, dr, tk, os⟩) : wpAny (model PP w) A (callWith pos (.ref f) [self] (backTo pos (starEach [] env)) []) Q E ⟨h, g, dr, tk, os⟩ :=
  callWith_K0 (s := ⟨h, g, dr, tk, os⟩) (T.K.keeps F.ext) hk k
theorem z_cb0 {id : String} {self : Value} {s : Shared} (k : wpAny (model PP w) A (call (.builtin id) [self]) Q E s) : wpAny (model PP w) A (callWith pos (.builtin id) [self] (backTo pos (starEach [] env)) []) Q E s :=
  callWith_builtin rfl (evalArgs_nil3 k)
theorem z_cb1 {id : String} {self : Value} {e : Expr} {rest : List Expr} {s : Shared} (k : wpAny (model PP w) A (spliced (backTo pos (starEach (e :: rest) env))) (fun vs s₁ => wpAny (model PP w) A (call (.builtin id) (self :: vs)) Q E s₁) E s) (he : starEach (e :: rest) env = (false, eval e env) :: starEach rest env := by rfl) (hplain : (backTo pos (starEach rest env)).any (·.1) = false := by rfl) :
    wpAny (model PP w) A (callWith pos (.builtin id) [self] (backTo pos (starEach (e :: rest) env)) []) Q E s := by
  rw [he] at k ⊢
  exact callWith_builtin (by show (false || (backTo pos (starEach rest env)).any (·.1)) = false; rw [hplain]; rfl) (evalArgs_plain (wpAny_mono k (fun _ _ h => h) fun _ _ e => e))

-- lists that change
theorem z_app {D : Addr} {its : List Value} {n : Nat} {y : Value} (F : St hb L h m ((D, listOf its.toArray n) :: mu) Φ) (hsz : its.length ≤ sizeLine) (k : ∀ h', St hb L h' m ((D, listOf (its ++ [y]).toArray (n + 1)) :: mu) Φ → Q .none ⟨h', g, dr, tk, os⟩) :
    wpAny (model PP w) A (call (.builtin "list.append") [.ref D, y]) Q E ⟨h, g, dr, tk, os⟩ := by
  refine append_at (F.get (.head _)) (fun h' hs ho' => ?_) (by rw [List.size_toArray]; exact hsz)
  exact k h' (F.upd0 hs.extBut (by rw [ho']; simp))
theorem z_mapp {D : Addr} {its : Array Value} {n : Nat} {pl : Sem Bool} {QM : Value × List Value → Shared → Prop} (hD : h.get? D = some (listOf its n)) (k : QM (.builtin "list.append", [.ref D]) ⟨h, g, dr, tk, os⟩) : wpAny (model PP w) A (getMethod (.ref D) "append" pl) QM E ⟨h, g, dr, tk, os⟩ :=
  getMethod_builtin ⟨_, hD, rfl⟩ PySem.F.plainAttrs_list PySem.F.slot_list_append PySem.F.type_list_append (fun a e => by cases e; exact ⟨_, hD, rfl⟩) k
theorem z_mpop {D : Addr} {its : Array Value} {n : Nat} {pl : Sem Bool} {QM : Value × List Value → Shared → Prop} (hD : h.get? D = some (listOf its n)) (k : QM (.builtin "list.pop", [.ref D]) ⟨h, g, dr, tk, os⟩) : wpAny (model PP w) A (getMethod (.ref D) "pop" pl) QM E ⟨h, g, dr, tk, os⟩ :=
  getMethod_builtin ⟨_, hD, rfl⟩ PySem.F.plainAttrs_list PySem.F.slot_list_pop PySem.F.type_list_pop (fun a e => by cases e; exact ⟨_, hD, rfl⟩) k
theorem z_pop {D : Addr} {its : List Value} {n : Nat} {y : Value} (F : St hb L h m ((D, listOf (its ++ [y]).toArray n) :: mu) Φ) (hsz : its.length + 1 ≤ sizeLine) (k : ∀ h', St hb L h' m ((D, listOf its.toArray (n + 1)) :: mu) Φ → Q y ⟨h', g, dr, tk, os⟩) :
    wpAny (model PP w) A (call (.builtin "list.pop") [.ref D]) Q E ⟨h, g, dr, tk, os⟩ := by
  have hz' : (its ++ [y]).toArray.size ≤ sizeLine := by rw [List.size_toArray, List.length_append]; exact hsz
  have hk : (its ++ [y]).toArray.size - 1 = its.length := by rw [List.size_toArray, List.length_append]; rfl
  have hy : (its ++ [y]).toArray[(its ++ [y]).toArray.size - 1]? = some y := by rw [hk]; simp
  have z := F.get (.head _)
  refine call_meets PySem.F.slot_list_pop ⟨_, z, rfl⟩ PySem.F.entry_list_pop (PySem.F.args_list_pop_1 _) (PySem.MeetsSeq.list_pop_last D _ n y hy hz') ⟨z, k _ (F.upd0 (Heap.SameBut.update ..).extBut ?_)⟩
  have q := PySem.IsL.update z (fun xs => xs.eraseIdxIfInBounds ((its ++ [y]).toArray.size - 1))
  have e : (its ++ [y]).toArray.eraseIdxIfInBounds ((its ++ [y]).toArray.size - 1) = its.toArray := by rw [hk, kl_erase, List.append_nil]
  rw [e, if_neg (by rw [List.size_toArray, List.size_toArray, List.length_append]; simp)] at q
  exact q
theorem dep0 {n : Nat} (hu : n + 1 < cLine) : n + min (PyData.list []).depth (PyData.list []).depth < cLine := by
  have : min (PyData.list []).depth (PyData.list []).depth ≤ 1 := by decide
  omega
theorem z_neNil {a b : Addr} {xs : List Value} (hu : A.units + 1 < cLine) (ha : h.IsList a xs.toArray) (hb' : h.IsList b #[]) (k : QB (decide (xs ≠ [])) ⟨h, g, dr, tk, os⟩) :
    wpAny (model PP w) A (compareOp .NotEq (.ref a) (.ref b)) (fun c s₃ => wpAny (model PP w) A (truthy c) QB E s₃) E ⟨h, g, dr, tk, os⟩ := by
  cases xs with
  | nil =>
    obtain ⟨o, h1, h2, n, h3⟩ := ha
    obtain ⟨o', h1', h2', n', h3'⟩ := hb'
    refine PySem.SeqAt.compareNe_reads (s := ⟨h, g, dr, tk, os⟩) (da := .list []) (db := .list []) (.list h1 h2 h3 .nil) (.list h1' h2' h3' .nil) rfl rfl (dep0 hu) (wpAny_truthy_bool ?_)
    exact k
  | cons y ys =>
    refine cmp_ofNotEq ?_
    refine PySem.SeqAt.RcNeAt.lists_lengths ha hb' (by simp) (by omega) PP w _ _ (wpAny_truthy_bool ?_)
    exact k
theorem z_eqNil {a b : Addr} {xs : List Value} (hu : A.units + 1 < cLine) (ha : h.IsList a xs.toArray) (hb' : h.IsList b #[]) (k : QB (decide (xs = [])) ⟨h, g, dr, tk, os⟩) :
    wpAny (model PP w) A (compareOp .Eq (.ref a) (.ref b)) (fun c s₃ => wpAny (model PP w) A (truthy c) QB E s₃) E ⟨h, g, dr, tk, os⟩ := by
  cases xs with
  | nil =>
    obtain ⟨o, h1, h2, n, h3⟩ := ha
    obtain ⟨o', h1', h2', n', h3'⟩ := hb'
    refine PySem.SeqAt.compareEq_reads (s := ⟨h, g, dr, tk, os⟩) (da := .list []) (db := .list []) (.list h1 h2 h3 .nil) (.list h1' h2' h3' .nil) rfl rfl (dep0 hu) (wpAny_truthy_bool ?_)
    exact k
  | cons y ys =>
    refine cmp_ofEq ?_
    refine PySem.SeqAt.RcAt.lists_lengths ha hb' (by simp) (by omega) PP w _ _ (wpAny_truthy_bool ?_)
    exact k
end
end Mine
namespace Mine
theorem refs_snoc {xs : List O} {o : O} : refs (xs ++ [o]) = refs xs ++ [.ref o.addr] := List.map_append
mutual
def O.pre : O → List O
  | .leaf a d l ta td k t => [.leaf a d l ta td k t]
  | .node a d l r nm cs => .node a d l r nm cs :: O.preR cs
def O.preR : List O → List O
  | [] => []
  | c :: cs => O.preR cs ++ c.pre
end
mutual
def O.post : O → List O
  | .leaf a d l ta td k t => [.leaf a d l ta td k t]
  | .node a d l r nm cs => O.posts cs ++ [.node a d l r nm cs]
def O.posts : List O → List O
  | [] => []
  | c :: cs => c.post ++ O.posts cs
end
mutual
theorem O.pre_rev : ∀ o : O, o.pre.reverse = o.post
  | .leaf _ _ _ _ _ _ _ => by simp [O.pre, O.post]
  | .node _ _ _ _ _ cs => by simp [O.pre, O.post, O.preR_rev cs]
theorem O.preR_rev : ∀ cs : List O, (O.preR cs).reverse = O.posts cs
  | [] => by simp [O.preR, O.posts]
  | c :: cs => by simp [O.preR, O.posts, O.pre_rev c, O.preR_rev cs]
end
mutual
theorem O.post_len : ∀ o : O, o.post.length = o.plain.size
  | .leaf _ _ _ _ _ _ _ => by simp [O.post, O.plain, P.size]
  | .node _ _ _ _ _ cs => by simp [O.post, O.plain, P.size, O.posts_len cs]
theorem O.posts_len : ∀ cs : List O, (O.posts cs).length = P.sizes (O.plains cs)
  | [] => by simp [O.posts, O.plains, P.sizes]
  | c :: cs => by simp [O.posts, O.plains, P.sizes, O.post_len c, O.posts_len cs]
end
theorem O.pre_len (o : O) : o.pre.length = o.plain.size := by rw [← O.post_len, ← O.pre_rev, List.length_reverse]
theorem O.pre_eq (o : O) : o.pre = o :: O.preR o.cs := by cases o <;> simp [O.pre, O.cs, O.preR]
theorem O.preR_append : ∀ (xs ys : List O), O.preR (xs ++ ys) = O.preR ys ++ O.preR xs
  | [], ys => by simp [O.preR]
  | x :: xs, ys => by simp [O.preR, O.preR_append xs ys]
theorem O.preR_len : ∀ (xs : List O), xs.length ≤ (O.preR xs).length
  | [] => by simp
  | x :: xs => by have := O.preR_len xs; rw [O.preR, List.length_append, O.pre_eq]; simp only [List.length_cons]; omega
mutual
theorem O.pre_at {w : World} {h : Heap} : ∀ {o : O}, O.At w h o → ∀ p ∈ o.pre, O.At w h p
  | .leaf a d l ta td k t, x, p, hp => by rw [O.pre] at hp; rw [List.mem_singleton.mp hp]; exact x
  | .node a d l r nm cs, x, p, hp => by
    rw [O.pre] at hp
    rcases List.mem_cons.mp hp with rfl | hp
    · exact x
    · rw [O.At] at x; exact O.preR_at x.2 p hp
theorem O.preR_at {w : World} {h : Heap} : ∀ {cs : List O}, O.Ats w h cs → ∀ p ∈ O.preR cs, O.At w h p
  | [], _, p, hp => by rw [O.preR] at hp; cases hp
  | c :: cs, x, p, hp => by
    rw [O.preR] at hp
    rw [O.Ats] at x
    rcases List.mem_append.mp hp with hp | hp
    · exact O.preR_at x.2 p hp
    · exact O.pre_at x.1 p hp
end
theorem O.post_at {w : World} {h : Heap} {o : O} (x : O.At w h o) : ∀ p ∈ o.post, O.At w h p := fun p hp => O.pre_at x p (by rw [← List.mem_reverse, O.pre_rev]; exact hp)

section
variable {w : World} {A : Around} {hb h h0 : Heap} {L x C dx : Addr} {m : Str → Option Value} {mu : Led} {Φ : Heap → Prop} {g : Array GenState} {dr : Drawn} {tk : Nat} {os : OsState} {env : Env}
  {pos px : Pos} {v : Value} {Q : Value → Shared → Prop} {QB : Bool → Shared → Prop} {QU : Unit → Shared → Prop} {QF : Flow → Shared → Prop} {E : Value → Shared → Prop}
theorem a_kids0 {o : O} {expr : Bool} (T : Tp w hb) (F : St hb L h m mu Φ) (ho : o.At w h0) (e : Ext h0 h) (k : ∀ l n tk', (∀ h', Ext h0 h' → h'.get? l = some (listOf (refs o.cs).toArray n)) → Q (.ref l) ⟨h, g, dr, tk', os⟩) : wpAny (model PP w) A (getAttr (.ref o.addr) "children" expr) Q E ⟨h, g, dr, tk, os⟩ := by
  cases o with
  | leaf a d l ta td kd tx =>
    rw [O.At] at ho
    obtain ⟨h1, ⟨u1, u2, u3, u4, t1, t2, n, h2⟩, ⟨n', h3⟩, _⟩ := ho
    exact z_get T F (e _ _ h1) (e _ _ h2) (kk_pg118 w _) (kk_hd118 w) rfl rfl (k _ _ _ fun h' e => e _ _ h3)
  | node a d l r nm cs =>
    rw [O.At] at ho
    obtain ⟨⟨h1, ⟨u1, u2, u3, t1, t2, n, h2⟩, ⟨n', h3⟩⟩, _⟩ := ho
    exact z_get T F (e _ _ h1) (e _ _ h2) (kk_pg83 w _) (kk_hd83 w) rfl rfl (k _ _ _ fun h' e => e _ _ h3)
theorem St.mid {it : Led} {p : Addr × Obj} (F : St hb L h m (it ++ p :: mu) Φ) : St hb L h m (p :: (it ++ mu)) Φ := F.perm List.perm_middle.symm
theorem St.unmid {it : Led} {p : Addr × Obj} (F : St hb L h m (p :: (it ++ mu)) Φ) : St hb L h m (it ++ p :: mu) Φ := F.perm List.perm_middle
def WTurn (hb : Heap) (L : Addr) (g : Array GenState) (dr : Drawn) (os : OsState) (n : Nat) (J : Nat → (Str → Option Value) → Led → (Heap → Prop) → Prop) (R : Result → Shared → Prop) (f : Flow) (s : Shared) : Prop :=
  match f with
  | .next | .cont => ∃ n', n' < n ∧ ∃ h tk m mu Φ, s = ⟨h, g, dr, tk, os⟩ ∧ St hb L h m mu Φ ∧ J n' m mu Φ
  | .brk => R (.ok .next) s
  | .ret v => R (.ok (.ret v)) s
theorem z_while {test : Expr} {body : List Stmt} (J : Nat → (Str → Option Value) → Led → (Heap → Prop) → Prop) (n : Nat) (F : St hb L h m mu Φ) (hj : J n m mu Φ)
    (turn : ∀ n m₁ mu₁ Φ₁ h₁ tk₁, J n m₁ mu₁ Φ₁ → St hb L h₁ m₁ mu₁ Φ₁ → wpAny (model PP w) A (isTrue test env (eval test env)) (fun b s₂ => if b = true then wpAny (model PP w) A (execs body env) (WTurn hb L g dr os n J (fun r s' => match r with | .ok f => QF f s' | .error e => False)) NoE s₂ else QF .next s₂) NoE ⟨h₁, g, dr, tk₁, os⟩) :
    wpAny (model PP w) A (exec (.While test body [] pos) env) QF E ⟨h, g, dr, tk, os⟩ := by
  refine wpAny_While ?_
  refine codeAny_whileLoop (fun k s' => ∃ h' tk' m' mu' Φ', s' = ⟨h', g, dr, tk', os⟩ ∧ St hb L h' m' mu' Φ' ∧ J k m' mu' Φ') ?_ n ⟨h, tk, m, mu, Φ, rfl, F, hj⟩
  rintro k s' ⟨h', tk', m', mu', Φ', rfl, F', hJ⟩
  refine wpAny_mono (turn k m' mu' Φ' h' tk' hJ F') (fun b s₂ h₂ => ?_) fun _ _ e => e.elim
  cases b with
  | true =>
    rw [if_pos rfl] at h₂ ⊢
    refine wpAny_mono h₂ (fun f s₃ h₃ => ?_) fun _ _ e => e.elim
    cases f with
    | next => exact h₃
    | cont => exact h₃
    | brk => exact h₃
    | ret v => exact h₃
  | false =>
    rw [if_neg (by decide)] at h₂ ⊢
    exact wpAny_execs_nil h₂
theorem z_load {D : Addr} {o : Obj} (F : St hb L h m ((D, o) :: mu) Φ) : h.get? D = some o := F.get (.head _)
end

/-- a list of the tree's nodes, fresh -/
def LO (os : List O) (R : Led) (v : Value) : Prop := ∃ l n, v = .ref l ∧ ∀ h, Has h R → h.get? l = some (listOf (refs os).toArray n)
def BR (b : Bool) (_ : Led) (v : Value) : Prop := v = .bool b

theorem isleaf_T (w : World) (self : Value) : Pur w 42 [self] 1 3 (fun _ => True) (BR false) := by
  refine' Pur.intro (binds := [(Str.ofString "self", self)]) (d := 0) (u := 0) (by exact rfl) (by exact rfl) (fun _ _ => BindsTo.of_eq rfl) (locs rfl) rfl rfl rfl (by decide) ?_
  intro A s h₁ tk C T hp F
  refine wpAny_execs_cons (wpAny_Return_some (wpAny_Constant_bool ?_))
  exact ⟨_, _, _, _, _, _, rfl, F, fun R hR => rfl⟩
theorem isleaf_L (w : World) (self : Value) : Pur w 108 [self] 1 3 (fun _ => True) (BR true) := by
  refine' Pur.intro (binds := [(Str.ofString "self", self)]) (d := 0) (u := 0) (by exact rfl) (by exact rfl) (fun _ _ => BindsTo.of_eq rfl) (locs rfl) rfl rfl rfl (by decide) ?_
  intro A s h₁ tk C T hp F
  refine wpAny_execs_cons (wpAny_Return_some (wpAny_Constant_bool ?_))
  exact ⟨_, _, _, _, _, _, rfl, F, fun R hR => rfl⟩
end Mine
namespace Mine
section
variable {w : World} {A : Around} {hb h h0 : Heap} {L x C dx : Addr} {m : Str → Option Value} {mu : Led} {Φ : Heap → Prop} {g : Array GenState} {dr : Drawn} {tk : Nat} {os : OsState} {env : Env}
  {pos px : Pos} {v : Value} {Q : Value → Shared → Prop} {QB : Bool → Shared → Prop} {QU : Unit → Shared → Prop} {QF : Flow → Shared → Prop} {E : Value → Shared → Prop}
theorem z_isleaf {d u : Nat} {o : O} {pl : Sem Bool} (C : Cx A d u) (T : Tp w hb) (F : St hb L h m mu Φ) (ho : o.At w h) (k : ∀ h' tk', St hb L h' m mu Φ → Q (.bool o.isLeaf) ⟨h', g, dr, tk', os⟩) (hd : 1 ≤ d := by omega) (hu : 3 ≤ u := by omega) :
    wpAny (model PP w) A (getMethod (.ref o.addr) "is_leaf" pl) (fun fx s₂ => wpAny (model PP w) A (callWith pos fx.1 fx.2 (backTo pos (starEach [] env)) []) Q NoE s₂) NoE ⟨h, g, dr, tk, os⟩ := by
  cases o with
  | leaf a d l ta td kd tx =>
    rw [O.At] at ho
    obtain ⟨h1, ⟨u1, u2, u3, u4, t1, t2, n, h2⟩, _⟩ := ho
    refine z_meth (f := 108) T F h1 h2 (kk_pg118 w _) (by exact rfl) (by exact rfl) rfl (z_cm0 T F (by exact rfl) ?_)
    exact Pur.use (s := ⟨h, g, dr, tk, os⟩) (isleaf_L w _) C T F trivial fun v h' tk R hv hadd => by cases hv; exact k h' tk ((hadd (fun _ => True) fun _ _ => trivial).imp fun _ x => x.1)
  | node a d l r nm cs =>
    rw [O.At] at ho
    obtain ⟨⟨h1, ⟨u1, u2, u3, t1, t2, n, h2⟩, _⟩, _⟩ := ho
    refine z_meth (f := 42) T F h1 h2 (kk_pg83 w _) (by exact rfl) (by exact rfl) rfl (z_cm0 T F (by exact rfl) ?_)
    exact Pur.use (s := ⟨h, g, dr, tk, os⟩) (isleaf_T w _) C T F trivial fun v h' tk R hv hadd => by cases hv; exact k h' tk ((hadd (fun _ => True) fun _ _ => trivial).imp fun _ x => x.1)
end

theorem post_ok (w : World) (o : O) (hsz : o.plain.size ≤ 200) : Pur w 127 [.ref o.addr] 2 6 (fun h => o.At w h) (LO o.post) := by
  refine' Pur.intro (binds := [(Str.ofString "tree", .ref o.addr)]) (d := 1) (u := 3) (by exact rfl) (by exact rfl) (fun _ _ => BindsTo.of_eq rfl) (locs rfl) rfl rfl rfl (by decide) ?_
  intro A s h₁ tk C T hp F
  have hpl := O.pre_len o
  refine wpAny_execs_cons (wpAny_Assign_Name (List_ (spliced_none (z_listM F (sz_lt (by simp)) fun lf h' F => z_st F fun h' tk' F => ?_))))
  refine wpAny_execs_cons (wpAny_Assign_Name (List_ (spliced_more (z_ld F rfl (spliced_none (z_listM F (sz_lt (by simp)) fun ll h' F => z_st F fun h' tk' F => ?_))))))
  refine wpAny_execs_cons (z_while (fun n m mu Φ => ∃ line found n1 n2, mu = [(ll, listOf (refs line).toArray n1), (lf, listOf (refs found).toArray n2)] ∧ m "line" = some (.ref ll) ∧ m "found" = some (.ref lf) ∧
    found ++ O.preR line = o.pre ∧ (O.preR line).length = n ∧ (∀ p ∈ line, O.At w s.heap p)) o.pre.length F ⟨[o], [], 0, 0, rfl, rfl, rfl, by simp [O.preR], by simp [O.preR], by simpa using hp⟩ ?_)
  rintro n m₁ mu₁ Φ₁ h₁ tk₁ ⟨line, found, n1, n2, rfl, hm1, hm2, heq, hn, hat⟩ F
  have hl1 := O.preR_len line
  have hl2 : found.length + (O.preR line).length = o.pre.length := by rw [← heq, List.length_append]
  refine wpAny_isTrue_Compare1 (z_ld F hm1 (List_ (spliced_none (z_list F (sz_lt (by simp)) fun le h' F => ?_))))
  refine z_neNil (by have := C.un; omega) ⟨_, F.get (.head _), rfl, _, rfl⟩ ⟨_, F.now.2, rfl, _, rfl⟩ ?_
  rcases List.eq_nil_or_concat line with rfl | ⟨line, o', rfl⟩
  · refine z_f (by simp) ?_
    refine wpAny_execs_cons (wpAny_Return_some (Subscript_ (z_ld F hm2 (z_slice (wpAny_evalPart_none (wpAny_evalPart_none (wpAny_evalPart_some (wpAny_UnaryOp (z_int fun t tk => neg_int ?_)))))))))
    have F := F.swap
    refine z_slT (its := (refs found).toArray) F ⟨_, F.get (.head _), rfl, _, rfl⟩ .none .none (.int _ _) (by decide) (sz_lt (by simp; omega)) fun lr h' F => ?_
    rw [krv_pick] at F
    refine ⟨_, _, _, _, _, _, rfl, F, fun R hR => ⟨lr, 0, rfl, fun h hh => ?_⟩⟩
    have := (hR h hh).2
    rw [O.preR, List.append_nil] at heq
    rw [this, ← O.pre_rev, ← heq]
    simp
  · rw [List.concat_eq_append] at *
    have hat' : O.At w s.heap o' := hat o' (by simp)
    rw [O.preR_append, O.preR, O.preR, List.nil_append, O.pre_eq] at heq hn hl2
    simp only [List.length_append, List.length_cons] at hn hl2
    have hl3 := O.preR_len line
    have hl4 := O.preR_len o'.cs
    refine z_t (by simp) ?_
    rw [refs_snoc] at F
    refine wpAny_execs_cons (wpAny_Assign_Name (MethodCall_ (z_ld F hm1 (z_mpop (F.get (.head _)) (z_cb0 (z_pop F (sz_lt (by simp; omega)) fun h' F => z_st F fun h' tk' F => ?_))))))
    refine wpAny_execs_cons (wpAny_Expr (MethodCall_ (z_ld F hm2 (z_mapp (F.get (.tail _ (.head _))) (z_cb1 (spliced_more (z_ld F rfl (spliced_none (z_app F.swap (sz_lt (by simp; omega)) fun h' F => ?_)))))))))
    refine wpAny_execs_cons (wpAny_For (Attribute_any_ (z_ld F rfl (a_kids0 T F hat' F.ext fun lc nc tk' hlc => ?_))))
    refine z_forList (items := (refs o'.cs).toArray) (Φ₀ := fun _ => True) (Φ := fun _ => True) C.hd ⟨_, fun h' e _ => ⟨hlc _ e, rfl, _, rfl⟩⟩
      (fun i m mu Φ => ∃ n1, mu = [(ll, listOf (refs (line ++ o'.cs.take i)).toArray n1), (lf, listOf (refs (found ++ [o'])).toArray (n2 + 1))] ∧ m "line" = some (.ref ll) ∧ m "found" = some (.ref lf))
      (F.swap.imp fun h hh => ⟨trivial, trivial⟩) ⟨n1 + 1, by simp [refs], hm1, hm2⟩ ?_ ?_
    · rintro i v m₁ mu₁ Φ₁ h₁ tk₁ it hi hv ⟨n1, rfl, hm1, hm2⟩ F
      obtain ⟨c, hc⟩ : ∃ c, o'.cs[i]? = some c := ⟨o'.cs[i]'(by simpa using hi), by simp⟩
      have hve : v = .ref c.addr := by simp [hc] at hv; exact hv.symm
      refine z_as F fun h' tk' F => ?_
      have F := F.mid
      refine wpAny_execs_cons (wpAny_Expr (MethodCall_ (z_ld F hm1 (z_mapp (F.get (.head _)) (z_cb1 (spliced_more (z_ld F rfl (spliced_none (z_app F (sz_lt (by simp; omega)) fun h' F => wpAny_execs_nil ?_)))))))))
      refine ⟨_, _, _, _, _, rfl, F.unmid, n1 + 1, ?_, hm1, hm2⟩
      rw [List.take_add_one, hc, hve]
      simp [refs]
    · rintro h' tk' m' mu' Φ' ⟨n1, rfl, hm1, hm2⟩ F
      refine wpAny_execs_nil ?_
      have e : (refs o'.cs).toArray.size = o'.cs.length := by simp
      rw [e, List.take_length] at F
      refine ⟨_, ?_, _, _, _, _, _, rfl, F, line ++ o'.cs, found ++ [o'], _, _, rfl, hm1, hm2, ?_, rfl, ?_⟩
      · rw [O.preR_append, List.length_append]; omega
      · rw [← heq, O.preR_append]; simp
      · intro p hp
        rcases List.mem_append.mp hp with hp | hp
        · exact hat p (by simp [hp])
        · exact hat'.kids p hp
end Mine
namespace Mine
def SR (x : Str) (_ : Led) (v : Value) : Prop := ∃ t, v = .str x t
theorem str_beq (x y : Str) : (x == y) = decide (x = y) := by
  rw [Bool.eq_iff_iff]
  simp only [beq_iff_eq, decide_eq_true_eq]
section
variable {w : World} {A : Around} {h : Heap} {g : Array GenState} {dr : Drawn} {tk : Nat} {os : OsState} {QB : Bool → Shared → Prop} {E : Value → Shared → Prop}
theorem z_eqs {x y : Str} {t u : Tok} (k : QB (decide (x = y)) ⟨h, g, dr, tk, os⟩) :
    wpAny (model PP w) A (compareOp .Eq (.str x t) (.str y u)) (fun c s₃ => wpAny (model PP w) A (truthy c) QB E s₃) E ⟨h, g, dr, tk, os⟩ := eq_str (wpAny_truthy_bool (by rw [str_beq]; exact k))
end
theorem ttold_ok (w : World) (a d l ta td : Addr) (kd tx : Str) : Pur w 154 [.ref ta] 1 3 (fun h => LeafAt w h a d l ta td kd tx) (DR (pairD (kd, tx))) := by
  refine' Pur.intro (binds := [(Str.ofString "self", .ref ta)]) (d := 0) (u := 0) (by exact rfl) (by exact rfl) (fun _ _ => BindsTo.of_eq rfl) (locs rfl) rfl rfl rfl (by decide) ?_
  intro A s h₁ tk C T hp F
  refine wpAny_execs_cons (wpAny_Return_some (Tuple_ (spliced_more (Attribute_any_ (z_ld F rfl (a_kind T F (hp.keeps F.ext) fun t tk => spliced_more (Attribute_any_ (z_ld F rfl (a_text T F (hp.keeps F.ext) fun t tk => spliced_none (z_tup F (sz_lt (by simp)) fun l h' F => ?_))))))))))
  exact ⟨_, _, _, _, _, _, rfl, F, fun R hR h hh => RD.mkTup (hR h hh).2 (RDs.cons RD.mkStr (RDs.cons RD.mkStr RDs.nil))⟩
theorem head_T (w : World) (a d l : Addr) (r : Int) (nm : Str) (cs : List O) : Pur w 49 [.ref a] 1 3 (fun h => (O.node a d l r nm cs).At w h) (SR nm) := by
  refine' Pur.intro (binds := [(Str.ofString "self", .ref a)]) (d := 0) (u := 0) (by exact rfl) (by exact rfl) (fun _ _ => BindsTo.of_eq rfl) (locs rfl) rfl rfl rfl (by decide) ?_
  intro A s h₁ tk C T hp F
  refine wpAny_execs_cons (wpAny_Return_some (Attribute_any_ (z_ld F rfl (a_name T F (hp.keeps F.ext) fun t tk => ?_))))
  exact ⟨_, _, _, _, _, _, rfl, F, fun R hR => ⟨t, rfl⟩⟩
theorem head_L (w : World) (a d l ta td : Addr) (kd tx : Str) (hk : OkS kd) (ht : OkS tx) : Pur w 115 [.ref a] 1 3 (fun h => (O.leaf a d l ta td kd tx).At w h) (SR (leafHead kd tx)) := by
  refine' Pur.intro (binds := [(Str.ofString "self", .ref a)]) (d := 0) (u := 0) (by exact rfl) (by exact rfl) (fun _ _ => BindsTo.of_eq rfl) (locs rfl) rfl rfl rfl (by decide) ?_
  intro A s h₁ tk C T hp F
  have hp1 := hp.keeps F.ext
  have hp2 : LeafAt w h₁ a d l ta td kd tx := by rw [O.At] at hp1; exact hp1
  have e1 : (Str.ofString " ").length = 1 := by decide +kernel
  refine wpAny_execs_cons (wpAny_If (isTrue_or (wpAny_isTrue_Compare1 (Attribute_any_ (Attribute_any_ (z_ld F rfl (a_token T F hp1 fun tk => a_text T F hp2 fun t1 tk => Attribute_any_ (Attribute_any_ (z_ld F rfl (a_token T F hp1 fun tk => a_kind T F hp2 fun t2 tk => z_eqs ?_))))))))))
  by_cases h1 : tx = kd
  · refine z_t (by simp [h1]) (wpAny_execs_cons (wpAny_Return_some (Attribute_any_ (Attribute_any_ (z_ld F rfl (a_token T F hp1 fun tk => a_kind T F hp2 fun t2 tk => ?_))))))
    exact ⟨_, _, _, _, _, _, rfl, F, fun R hR => ⟨t2, by rw [leafHead, if_pos (.inl h1)]⟩⟩
  refine z_f (by simp [h1]) (isTrue_or (wpAny_isTrue_Compare1 (Attribute_any_ (Attribute_any_ (z_ld F rfl (a_token T F hp1 fun tk => a_text T F hp2 fun t1 tk => z_str fun te tk => z_eqs ?_))))))
  by_cases h2 : tx = Str.ofString ""
  · refine z_t (by simp [h2]) (wpAny_execs_cons (wpAny_Return_some (Attribute_any_ (Attribute_any_ (z_ld F rfl (a_token T F hp1 fun tk => a_kind T F hp2 fun t2 tk => ?_))))))
    exact ⟨_, _, _, _, _, _, rfl, F, fun R hR => ⟨t2, by rw [leafHead, if_pos (.inr h2)]⟩⟩
  refine z_f (by simp [h2]) (isTrue_or_nil (wpAny_execs_nil ?_))
  refine wpAny_execs_cons (wpAny_Return_some (wpAny_BinOp (wpAny_BinOp (Attribute_any_ (Attribute_any_ (z_ld F rfl (a_token T F hp1 fun tk => a_kind T F hp2 fun t2 tk => z_str fun te tk => z_cat (sz_lt (by have := hk.len; omega)) fun t3 tk => ?_)))))))
  refine Attribute_any_ (Attribute_any_ (z_ld F rfl (a_token T F hp1 fun tk => a_text T F hp2 fun t2 tk => z_cat (sz_lt (by rw [Str.length_append]; have := hk.len; have := ht.len; omega)) fun t3 tk => ?_)))
  exact ⟨_, _, _, _, _, _, rfl, F, fun R hR => ⟨t3, by rw [leafHead, if_neg (by simp [h1, h2])]⟩⟩
end Mine
namespace Mine
def rulesOf (l : List O) : List Int := (l.filter fun o => !o.isLeaf).map O.rl
theorem rulesOf_append (a b : List O) : rulesOf (a ++ b) = rulesOf a ++ rulesOf b := by simp [rulesOf]
mutual
theorem O.rules_post : ∀ o : O, rulesOf o.post = o.plain.rules
  | .leaf _ _ _ _ _ _ _ => rfl
  | .node _ _ _ _ _ cs => by rw [O.post, rulesOf_append, O.rules_posts cs, O.plain, P.rules]; rfl
theorem O.rules_posts : ∀ cs : List O, rulesOf (O.posts cs) = P.ruless (O.plains cs)
  | [] => rfl
  | c :: cs => by rw [O.posts, rulesOf_append, O.rules_post c, O.rules_posts cs, O.plains, P.ruless]
end
theorem refs_at {cs : List O} {i : Nat} {v : Value} (hv : (refs cs).toArray[i]? = some v) : ∃ c, cs[i]? = some c ∧ v = .ref c.addr := by
  simp only [List.getElem?_toArray, List.getElem?_map, Option.map_eq_some_iff] at hv
  obtain ⟨c, hc, rfl⟩ := hv
  exact ⟨c, hc, rfl⟩
theorem refs_size {cs : List O} : (refs cs).toArray.size = cs.length := by simp
theorem take_snoc {α : Type} {l : List α} {i : Nat} {c : α} (h : l[i]? = some c) : l.take (i + 1) = l.take i ++ [c] := by rw [List.take_add_one, h, Option.toList_some]
theorem mem_at {α : Type} {l : List α} {i : Nat} {c : α} (h : l[i]? = some c) : c ∈ l := List.mem_of_getElem? h

theorem red_ok (w : World) (o : O) (hsz : o.plain.size ≤ 200) : Pur w 66 [.ref o.addr] 3 9 (fun h => o.At w h) (LR (o.plain.rules.map .int)) := by
  refine' Pur.intro (binds := [(Str.ofString "self", .ref o.addr)]) (d := 2) (u := 6) (by exact rfl) (by exact rfl) (fun _ _ => BindsTo.of_eq rfl) (locs rfl) rfl rfl rfl (by decide) ?_
  intro A s h₁ tk C T hp F
  have hpl := O.post_len o
  refine wpAny_execs_cons (wpAny_Return_some (z_lc (Call_ (z_gl T F rfl (z_cw T (by exact rfl) (spliced_more (z_ld F rfl (spliced_none ⟨T.keeps F.ext, ?_⟩))))))))
  refine Pur.use (post_ok w o hsz) C T F (hp.keeps F.ext) fun x h' tk' R hpost hadd => ?_
  obtain ⟨lx, nx, rfl, hx⟩ := hpost
  have F := hadd _ hx
  refine z_lcL (items := (refs o.post).toArray) C.hd ⟨_, F.now.2, rfl, _, rfl⟩ F (fun i ys Φ => ∀ h', RDs h' ys ((rulesOf (o.post.take i)).map .int)) (fun h' => RDs.nil) (sz_lt (by simp; omega)) ?_ ?_
  · intro hc C' i v ys Φ₁ h₁ tk₁ mc it hk hi hv hJ hys G
    obtain ⟨c, hcc, rfl⟩ := refs_at hv
    have hat := O.post_at hp c (mem_at hcc)
    have kc : Ext s.heap hc := fun b o e => hk b o (F.ext b o e)
    have T' : Tp w hc := T.keeps kc
    refine y_as G fun h' tk' G => z_tests1 (isTrue_not (isTrue_plain (MethodCall_ (y_ld G rfl (z_isleaf C T' G (hat.keeps (kc.trans G.ext)) fun h' tk' G => wpAny_truthy_bool ?_)))))
    cases hl : c.isLeaf with
    | true =>
      refine z_f rfl ⟨_, _, _, _, rfl, G, fun h => ?_⟩
      rw [take_snoc hcc, rulesOf_append]
      simpa [rulesOf, hl] using hJ h
    | false =>
      refine z_t rfl (Attribute_any_ (y_ld G rfl (a_rule T' G (hat.keeps (kc.trans G.ext)) fun t tk => ⟨_, _, _, _, rfl, G, fun h => ?_⟩)))
      rw [take_snoc hcc, rulesOf_append, List.map_append]
      refine RDs.append (hJ h) ?_
      simp only [rulesOf, hl, List.filter, Bool.not_false, List.map]
      exact RDs.cons RD.mkInt RDs.nil
  · intro C' D h' tk' ys Φ' oC mm hJ hys hns G
    refine post_none hns G fun h'' F => ?_
    rw [refs_size, List.take_length, O.rules_post] at hJ
    exact ⟨_, _, _, _, _, _, rfl, F, fun R hR => ⟨D, ys, _, rfl, fun h hh => ⟨(hR h hh).2, hJ h⟩⟩⟩
end Mine
namespace Mine
def O.tok : O → Value
  | .leaf _ _ _ ta _ _ _ => .ref ta
  | .node _ _ _ _ _ _ => .none
def leavesOf (l : List O) : List O := l.filter O.isLeaf
theorem leavesOf_append (a b : List O) : leavesOf (a ++ b) = leavesOf a ++ leavesOf b := by simp [leavesOf]
def O.lv : O → Str × Str
  | .leaf _ _ _ _ _ k t => (k, t)
  | .node _ _ _ _ _ _ => (Str.empty, Str.empty)
mutual
theorem O.lvs_post : ∀ o : O, (leavesOf o.post).map O.lv = o.plain.lvs
  | .leaf _ _ _ _ _ _ _ => rfl
  | .node _ _ _ _ _ cs => by rw [O.post, leavesOf_append, List.map_append, O.lvs_posts cs, O.plain, P.lvs]; simp [leavesOf, O.isLeaf]
theorem O.lvs_posts : ∀ cs : List O, (leavesOf (O.posts cs)).map O.lv = P.lvss (O.plains cs)
  | [] => rfl
  | c :: cs => by rw [O.posts, leavesOf_append, List.map_append, O.lvs_post c, O.lvs_posts cs, O.plains, P.lvss]
end
def LTk (os : List O) (R : Led) (v : Value) : Prop := ∃ l n, v = .ref l ∧ ∀ h, Has h R → h.get? l = some (listOf (os.map O.tok).toArray n)
theorem tlv_ok (w : World) (o : O) (hsz : o.plain.size ≤ 200) : Pur w 61 [.ref o.addr] 3 9 (fun h => o.At w h) (LTk (leavesOf o.post)) := by
  refine' Pur.intro (binds := [(Str.ofString "self", .ref o.addr)]) (d := 2) (u := 6) (by exact rfl) (by exact rfl) (fun _ _ => BindsTo.of_eq rfl) (locs rfl) rfl rfl rfl (by decide) ?_
  intro A s h₁ tk C T hp F
  have hpl := O.post_len o
  refine wpAny_execs_cons (wpAny_Return_some (z_lc (Call_ (z_gl T F rfl (z_cw T (by exact rfl) (spliced_more (z_ld F rfl (spliced_none ⟨T.keeps F.ext, ?_⟩))))))))
  refine Pur.use (post_ok w o hsz) C T F (hp.keeps F.ext) fun x h' tk' R hpost hadd => ?_
  obtain ⟨lx, nx, rfl, hx⟩ := hpost
  have F := hadd _ hx
  refine z_lcL (items := (refs o.post).toArray) C.hd ⟨_, F.now.2, rfl, _, rfl⟩ F (fun i ys Φ => ys = (leavesOf (o.post.take i)).map O.tok) rfl (sz_lt (by simp; omega)) ?_ ?_
  · intro hc C' i v ys Φ₁ h₁ tk₁ mc it hk hi hv hJ hys G
    obtain ⟨c, hcc, rfl⟩ := refs_at hv
    have hat := O.post_at hp c (mem_at hcc)
    have kc : Ext s.heap hc := fun b o e => hk b o (F.ext b o e)
    have T' : Tp w hc := T.keeps kc
    refine y_as G fun h' tk' G => z_tests1 (isTrue_plain (MethodCall_ (y_ld G rfl (z_isleaf C T' G (hat.keeps (kc.trans G.ext)) fun h' tk' G => wpAny_truthy_bool ?_))))
    cases c with
    | node a d l r nm cs =>
      refine z_f rfl ⟨_, _, _, _, rfl, G, ?_⟩
      rw [take_snoc hcc, leavesOf_append, List.map_append, hJ]
      simp [leavesOf, O.isLeaf]
    | leaf a d l ta td kd tx =>
      refine z_t rfl (Attribute_any_ (y_ld G rfl (a_token T' G (hat.keeps (kc.trans G.ext)) fun tk => ⟨_, _, _, _, rfl, G, ?_⟩)))
      rw [take_snoc hcc, leavesOf_append, List.map_append, hJ]
      rfl
  · intro C' D h' tk' ys Φ' oC mm hJ hys hns G
    refine post_none hns G fun h'' F => ?_
    rw [refs_size, List.take_length] at hJ
    subst hJ
    exact ⟨_, _, _, _, _, _, rfl, F, fun R hR => ⟨D, _, rfl, fun h hh => (hR h hh).2⟩⟩

-- a machine with a stack
section
variable {α : Type} (f : O → List α → α)
def stepS (S : List α) (o : O) : List α := S.take (S.length - o.cs.length) ++ [f o (S.drop (S.length - o.cs.length))]
def runS (S : List α) (l : List O) : List α := l.foldl (stepS f) S
mutual
def O.val : O → α
  | .leaf a d l ta td k t => f (.leaf a d l ta td k t) []
  | .node a d l r nm cs => f (.node a d l r nm cs) (O.vals cs)
def O.vals : List O → List α
  | [] => []
  | c :: cs => c.val :: O.vals cs
end
theorem O.vals_len : ∀ cs : List O, (O.vals f cs).length = cs.length
  | [] => rfl
  | c :: cs => congrArg (· + 1) (O.vals_len cs)
theorem runS_append (S : List α) (a b : List O) : runS f S (a ++ b) = runS f (runS f S a) b := List.foldl_append
mutual
theorem runS_post : ∀ (o : O) (S : List α), runS f S o.post = S ++ [o.val f]
  | .leaf _ _ _ _ _ _ _, S => by simp [O.post, runS, stepS, O.cs, O.val]
  | .node a d l r nm cs, S => by
    rw [O.post, runS_append, runS_posts cs S]
    have e : (S ++ O.vals f cs).length - cs.length = S.length := by rw [List.length_append, O.vals_len]; omega
    show stepS f (S ++ O.vals f cs) (.node a d l r nm cs) = _
    unfold stepS
    rw [show (O.node a d l r nm cs).cs = cs from rfl, e, List.take_left, List.drop_left, O.val]
theorem runS_posts : ∀ (cs : List O) (S : List α), runS f S (O.posts cs) = S ++ O.vals f cs
  | [], S => by simp [O.posts, runS, O.vals]
  | c :: cs, S => by rw [O.posts, runS_append, runS_post c S, runS_posts cs, O.vals, List.append_assoc]; rfl
end
theorem take_append {β : Type} (xs ys : List β) (i : Nat) : (xs ++ ys).take i = xs.take i ++ ys.take (i - xs.length) := List.take_append
mutual
theorem fits_post : ∀ (o : O) (S : List α) (i : Nat) (c : O), o.post[i]? = some c → c.cs.length ≤ (runS f S (o.post.take i)).length
  | .leaf _ _ _ _ _ _ _, S, i, c, h => by
    rw [O.post] at h
    rw [List.mem_singleton.mp (mem_at h)]
    exact Nat.zero_le _
  | .node a d l r nm cs, S, i, c, h => by
    rw [O.post] at h ⊢
    by_cases hi : i < (O.posts cs).length
    · rw [List.getElem?_append_left hi] at h
      rw [List.take_append_of_le_length (Nat.le_of_lt hi)]
      exact fits_posts cs S i c h
    · have hi' : (O.posts cs).length ≤ i := Nat.le_of_not_lt hi
      rw [List.getElem?_append_right hi'] at h
      have hc := List.mem_singleton.mp (mem_at h)
      have h0 : i - (O.posts cs).length = 0 := by
        have := (List.getElem?_eq_some_iff.mp h).1
        simpa using this
      rw [take_append, h0, List.take_of_length_le hi', List.take_zero, List.append_nil, runS_posts, List.length_append, O.vals_len, hc]
      exact Nat.le_add_left _ _
theorem fits_posts : ∀ (cs : List O) (S : List α) (i : Nat) (c : O), (O.posts cs)[i]? = some c → c.cs.length ≤ (runS f S ((O.posts cs).take i)).length
  | [], S, i, c, h => by rw [O.posts] at h; simp at h
  | b :: cs, S, i, c, h => by
    rw [O.posts] at h ⊢
    by_cases hi : i < b.post.length
    · rw [List.getElem?_append_left hi] at h
      rw [List.take_append_of_le_length (Nat.le_of_lt hi)]
      exact fits_post b S i c h
    · have hi' : b.post.length ≤ i := Nat.le_of_not_lt hi
      rw [List.getElem?_append_right hi'] at h
      rw [take_append, List.take_of_length_le hi', runS_append]
      exact fits_posts cs _ _ c h
end
theorem runS_len : ∀ (l : List O) (S : List α), (runS f S l).length ≤ S.length + l.length
  | [], S => by simp [runS]
  | o :: l, S => by
    have e : runS f S (o :: l) = runS f (stepS f S o) l := rfl
    rw [e]
    have := runS_len l (stepS f S o)
    have h2 : (stepS f S o).length ≤ S.length + 1 := by simp only [stepS, List.length_append, List.length_take, List.length_singleton]; omega
    simp only [List.length_cons]; omega
theorem runS_take {l : List O} {i : Nat} {c : O} (h : l[i]? = some c) (S : List α) : runS f S (l.take (i + 1)) = stepS f (runS f S (l.take i)) c := by rw [take_snoc h, runS_append]; rfl
end
def toldF (o : O) (ds : List PyData) : PyData := match o with
  | .leaf _ _ _ _ _ k t => pairD (k, t)
  | .node _ _ _ _ nm _ => .tuple (.str nm :: ds)
mutual
theorem O.told_val : ∀ o : O, o.val toldF = o.plain.told
  | .leaf _ _ _ _ _ _ _ => rfl
  | .node _ _ _ _ _ cs => by rw [O.val, O.plain, P.told, ← O.told_vals cs]; rfl
theorem O.told_vals : ∀ cs : List O, O.vals toldF cs = P.tolds (O.plains cs)
  | [] => rfl
  | c :: cs => by rw [O.vals, O.plains, P.tolds, O.told_val c, O.told_vals cs]
end
theorem RDs.take {h : Heap} : ∀ {vs : List Value} {ds : List PyData} (n : Nat), RDs h vs ds → RDs h (vs.take n) (ds.take n)
  | vs, ds, 0, _ => by simpa using RDs.nil
  | [], [], n + 1, r => by simpa using r
  | v :: vs, d :: ds, n + 1, ⟨_, .cons a b⟩ => by simpa using RDs.cons ⟨_, a⟩ (RDs.take n ⟨_, b⟩)
  | [], _ :: _, _ + 1, ⟨_, r⟩ => nomatch r
  | _ :: _, [], _ + 1, ⟨_, r⟩ => nomatch r
theorem RDs.drop {h : Heap} : ∀ {vs : List Value} {ds : List PyData} (n : Nat), RDs h vs ds → RDs h (vs.drop n) (ds.drop n)
  | vs, ds, 0, r => by simpa using r
  | [], [], n + 1, r => by simpa using r
  | v :: vs, d :: ds, n + 1, ⟨_, .cons a b⟩ => by simpa using RDs.drop n ⟨_, b⟩
  | [], _ :: _, _ + 1, ⟨_, r⟩ => nomatch r
  | _ :: _, [], _ + 1, ⟨_, r⟩ => nomatch r
end Mine
namespace Mine
section
variable {w : World} {A : Around} {hb h h0 : Heap} {L x : Addr} {m : Str → Option Value} {mu : Led} {Φ : Heap → Prop} {g : Array GenState} {dr : Drawn} {tk : Nat} {os : OsState} {env : Env}
  {pos px : Pos} {v : Value} {Q : Value → Shared → Prop} {QB : Bool → Shared → Prop} {QU : Unit → Shared → Prop} {QF : Flow → Shared → Prop} {E : Value → Shared → Prop}
theorem St.openM (F : St hb L h m mu Φ) : ∃ R, News hb L h (mu ++ R) ∧
    (∀ h' m' a o, Fr hb L h' m' → News hb L h' ((a, o) :: (mu ++ R)) → h.objs.size ≤ a → St hb L h' m' ((a, o) :: mu) Φ) := by
  obtain ⟨f, ⟨R, N, d, c⟩, n⟩ := F
  refine ⟨R, N, fun h' m' a o F' N' ha => ⟨F', ⟨R, N', fun p hp q hq => ?_, c⟩, ?_⟩⟩
  · rcases List.mem_cons.mp hp with rfl | hp
    · exact Ne.symm (Nat.ne_of_lt (Nat.lt_of_lt_of_le (News.lt N (List.mem_append_right _ hq)) ha))
    · exact d p hp q hq
  · rw [List.map_cons, List.nodup_cons]
    refine ⟨fun hm => ?_, n⟩
    obtain ⟨p, hp, e⟩ := List.mem_map.mp hm
    exact absurd (Nat.lt_of_lt_of_le (News.lt N (List.mem_append_left _ hp)) ha) (by rw [e]; exact Nat.lt_irrefl _)
theorem z_addLM {l b : Addr} {xs ys : List Value} (F : St hb L h m mu Φ) (hl : h.IsList l xs.toArray) (hl2 : h.IsList b ys.toArray) (hsz : xs.length + ys.length ≤ sizeLine)
    (k : ∀ l h', St hb L h' m ((l, listOf (xs ++ ys).toArray 0) :: mu) Φ → Q (.ref l) ⟨h', g, dr, tk, os⟩) : wpAny (model PP w) A (binaryOp .Add (.ref l) (.ref b)) Q E ⟨h, g, dr, tk, os⟩ := by
  obtain ⟨R, N, f⟩ := F.openM
  exact add_lists F.fr N hl hl2 (fun h' F' N' => k _ h' (f _ _ _ _ F' N' (Nat.le_refl _))) hsz
theorem z_ttold {d u : Nat} {a dd l ta td : Addr} {kd tx : Str} {pl : Sem Bool} (C : Cx A d u) (T : Tp w hb) (F : St hb L h m mu Φ) (ho : LeafAt w h a dd l ta td kd tx) (k : ∀ v h' tk' R, DR (pairD (kd, tx)) R v → Adds hb L h' m mu Φ R → Q v ⟨h', g, dr, tk', os⟩) (hd : 1 ≤ d := by omega) (hu : 3 ≤ u := by omega) :
    wpAny (model PP w) A (getMethod (.ref ta) "told" pl) (fun fx s₂ => wpAny (model PP w) A (callWith pos fx.1 fx.2 (backTo pos (starEach [] env)) []) Q NoE s₂) NoE ⟨h, g, dr, tk, os⟩ := by
  obtain ⟨_, _, _, h1, ⟨u1, u2, u3, u4, t1, t2, t3, n, h2⟩⟩ := id ho
  refine z_meth (f := 154) T F h1 h2 (kk_pg164 w _) (by exact rfl) (by exact rfl) rfl (z_cm0 T F (by exact rfl) ?_)
  exact Pur.use (s := ⟨h, g, dr, tk, os⟩) (ttold_ok w a dd l ta td kd tx) C T F ho fun v h' tk R hv hadd => k v h' tk R hv hadd
end
theorem slice_up {xs : List Value} {b : Nat} {i : Int} (h : i = b) : slicePick xs.toArray none (some i) none = (xs.take b).toArray := by rw [h, slicePick_upto']
theorem slice_fr {xs : List Value} {b : Nat} {i : Int} (h : i = b) : slicePick xs.toArray (some i) none none = (xs.drop b).toArray := by rw [h, slicePick_from']

theorem tt_ok (w : World) (o : O) (hsz : o.plain.size ≤ 200) : Pur w 56 [.ref o.addr] 3 9 (fun h => o.At w h) (DR o.plain.told) := by
  refine' Pur.intro (binds := [(Str.ofString "self", .ref o.addr)]) (d := 2) (u := 6) (by exact rfl) (by exact rfl) (fun _ _ => BindsTo.of_eq rfl) (locs rfl) rfl rfl rfl (by decide) ?_
  intro A s h₁ tk C T hp F
  have hpl := O.post_len o
  refine wpAny_execs_cons (wpAny_Assign_Name (List_ (spliced_none (z_listM F (sz_lt (by simp)) fun ld h' F => z_st F fun h' tk' F => ?_))))
  refine wpAny_execs_cons (wpAny_For (Call_ (z_gl T F rfl (z_cw T (by exact rfl) (spliced_more (z_ld F rfl (spliced_none ⟨T.keeps F.ext, ?_⟩)))))))
  refine Pur.use (post_ok w o hsz) C T F (hp.keeps F.ext) fun x h' tk' R hpost hadd => ?_
  obtain ⟨lx, nx, rfl, hx⟩ := hpost
  have F := hadd _ hx
  refine z_forList (items := (refs o.post).toArray) (Φ₀ := fun h => h.get? lx = some (listOf (refs o.post).toArray nx)) (Φ := fun _ => True) C.hd ⟨_, fun h' e hh => ⟨hh, rfl, _, rfl⟩⟩
    (fun i m mu Φ => ∃ dn ys n, mu = [(dn, listOf (List.toArray ys) n)] ∧ m "done" = some (.ref dn) ∧ ∀ h, Φ h → RDs h ys (runS toldF [] (o.post.take i)))
    (F.imp fun h hh => ⟨hh.2, trivial⟩) ⟨ld, [], 0, rfl, rfl, fun h hh => RDs.nil⟩ ?_ ?_
  · rintro i v m₁ mu₁ Φ₁ h₁ tk₁ it hi hv ⟨dn, ys, n, rfl, hm2, hΦ⟩ F
    obtain ⟨c, hcc, rfl⟩ := refs_at hv
    have hat := O.post_at hp c (mem_at hcc)
    have hfit := fits_post toldF o [] i c hcc
    have hlen := runS_len toldF (o.post.take i) []
    have hyl := (hΦ _ F.now.2).len
    have htl : (o.post.take i).length ≤ o.post.length := by rw [List.length_take]; omega
    have hst := runS_take toldF hcc []
    simp only [List.length_nil, Nat.zero_add] at hlen
    generalize hS : runS toldF [] (o.post.take i) = S at *
    refine z_as F fun h' tk' F => ?_
    have F := F.mid
    refine wpAny_execs_cons (wpAny_If (isTrue_plain (MethodCall_ (z_ld F rfl (z_isleaf C T F (hat.keeps F.ext) fun h' tk' F => wpAny_truthy_bool ?_)))))
    cases c with
    | leaf a d l ta td kd tx =>
      have hat2 : LeafAt w s.heap a d l ta td kd tx := by rw [O.At] at hat; exact hat
      refine z_t rfl (wpAny_execs_cons (wpAny_Expr (MethodCall_ (z_ld F hm2 (z_mapp (F.get (.head _)) (z_cb1 (spliced_more (MethodCall_ (Attribute_any_ (z_ld F rfl (a_token T F (hat.keeps F.ext) fun tk => z_ttold C T F (hat2.keeps F.ext) fun v h' tk' R hv hadd => spliced_none ?_)))))))))))
      have F := hadd _ hv
      refine z_app F (sz_lt (by omega)) fun h' F => wpAny_execs_nil (wpAny_execs_nil ?_)
      refine ⟨_, _, _, _, fun h => RDs h (ys ++ [v]) (S ++ [pairD (kd, tx)]), rfl, F.unmid.imp fun h hh => ⟨hh.1.1, RDs.append (hΦ _ hh.1.2) (RDs.cons hh.2 RDs.nil)⟩, _, _, _, rfl, hm2, fun h hh => ?_⟩
      rw [hst]
      simpa [stepS, O.cs, toldF] using hh
    | node a d l r nm cs =>
      have hcs : cs.length ≤ S.length := hfit
      have hst' : runS toldF [] (o.post.take (i + 1)) = S.take (S.length - cs.length) ++ [.tuple (.str nm :: S.drop (S.length - cs.length))] := hst
      refine z_f rfl ?_
      refine wpAny_execs_cons (wpAny_Assign_Name (wpAny_BinOp (Call_ (z_bn T F (by exact rfl) (v := .builtin "len") (by boot_fast) (by decide) (z_cwB (spliced_more (z_ld F hm2 (spliced_none (z_lenL ⟨_, F.get (.head _), rfl, _, rfl⟩ (sz_lt (by simp; omega)) fun t1 tk => ?_)))))))))
      refine Call_ (z_bn T F (by exact rfl) (v := .builtin "len") (by boot_fast) (by decide) (z_cwB (spliced_more (Attribute_any_ (z_ld F rfl (a_kids0 T F hat F.ext fun lc nc tk' hlc => spliced_none (z_lenL ⟨_, hlc _ F.ext, rfl, _, rfl⟩ (sz_lt (by simp [O.cs]; omega)) fun t2 tk => z_sub fun t3 tk => z_st F fun h' tk' F => ?_)))))))
      have hb : (((ys.toArray.size : Nat) : Int) - ((refs (O.node a d l r nm cs).cs).toArray.size : Nat)) = ((S.length - cs.length : Nat) : Int) := by
        simp [O.cs]; omega
      refine wpAny_execs_cons (wpAny_Assign_Name (wpAny_BinOp (Subscript_ (z_ld F hm2 (z_slice (wpAny_evalPart_none (wpAny_evalPart_some (z_ld F rfl (wpAny_evalPart_none ?_)))))))))
      refine z_slT F ⟨_, F.get (.head _), rfl, _, rfl⟩ .none (.int _ _) .none (by decide) (sz_lt (by simp; omega)) fun l1 h' F => ?_
      rw [slice_up hb] at F
      refine List_ (spliced_more (wpAny_BinOp (Tuple_ (spliced_more (Attribute_any_ (z_ld F rfl (a_name T F (hat.keeps F.ext) fun t tk => spliced_none (z_tup F (sz_lt (by simp)) fun lt h' F => ?_))))))))
      refine Call_ (z_bn T F (by exact rfl) (v := .type "tuple") (by boot_fast) (by decide) (z_cwT (spliced_more (Subscript_ (z_ld F hm2 (z_slice (wpAny_evalPart_some (z_ld F rfl (wpAny_evalPart_none (wpAny_evalPart_none ?_))))))))))
      refine z_slT F ⟨_, F.get (.head _), rfl, _, rfl⟩ (.int _ _) .none .none (by decide) (sz_lt (by simp; omega)) fun l2 h' F => ?_
      rw [slice_fr hb] at F
      refine spliced_none (z_tupleOf F ⟨_, F.now.2, rfl, _, rfl⟩ (sz_lt (by simp; omega)) fun tt h' F => ?_)
      refine z_addT F (fun x hx => ⟨_, hx.1.1.2, rfl, 0, rfl⟩) (fun x hx => ⟨_, hx.2, rfl, 0, rfl⟩) (sz_lt (by simp; omega)) fun l3 h' F => ?_
      refine spliced_none (z_list F (sz_lt (by simp)) fun l4 h' F => ?_)
      refine z_addLM F ⟨_, F.now.1.1.1.1.1.2, rfl, 0, rfl⟩ ⟨_, F.now.2, rfl, 0, rfl⟩ (sz_lt (by simp; omega)) fun l5 h' F => z_st F fun h' tk' F => wpAny_execs_nil (wpAny_execs_nil ?_)
      refine ⟨_, _, _, _, fun h => RDs h (ys.take (S.length - cs.length) ++ [.ref l3]) (S.take (S.length - cs.length) ++ [.tuple (.str nm :: S.drop (S.length - cs.length))]), rfl, F.swap.drop.unmid.imp fun h hh => ⟨hh.1.1.1.1.1.1.1, ?_⟩, _, _, _, rfl, rfl, fun h hh => ?_⟩
      · have hR := hΦ _ hh.1.1.1.1.1.1.2
        exact RDs.append (hR.take _) (RDs.cons (RDs.toTup hh.1.2 (RDs.cons RD.mkStr (hR.drop _))) RDs.nil)
      · rw [hst']; exact hh
  · rintro h' tk' m' mu' Φ' ⟨dn, ys, n, rfl, hm2, hΦ⟩ F
    rw [refs_size, List.take_length, runS_post, List.nil_append] at hΦ
    obtain ⟨y, ys', rfl, hy, hys⟩ := RDs.uncons (hΦ _ F.now.2)
    have := hys.unnil; subst this
    refine wpAny_execs_cons (wpAny_Return_some (Subscript_ (z_ld F hm2 (z_int fun t tk => z_itemL ⟨_, F.get (.head _), rfl, _, rfl⟩ (by decide) (by decide) rfl ?_))))
    refine ⟨_, _, _, _, _, _, rfl, F, fun R hR h hh => ?_⟩
    obtain ⟨y', ys', e, hy, hys⟩ := RDs.uncons (hΦ _ (hR h hh).2)
    cases e
    rw [← O.told_val]; exact hy
end Mine
namespace Mine
def heightF (o : O) (ds : List Nat) : Nat := ds.foldr max 0 + (if o.isLeaf = true then 0 else 1)
mutual
theorem O.height_val : ∀ o : O, o.val heightF = o.plain.ht
  | .leaf _ _ _ _ _ _ _ => rfl
  | .node _ _ _ _ _ cs => by rw [O.val, O.plain, P.ht, ← O.height_vals cs]; rfl
theorem O.height_vals : ∀ cs : List O, (O.vals heightF cs).foldr max 0 = P.hts (O.plains cs)
  | [] => rfl
  | c :: cs => by rw [O.vals, O.plains, P.hts, ← O.height_val c, ← O.height_vals cs]; rfl
end
theorem foldr_max {ds : List Nat} {M : Int} (hm : M ∈ (ds.map fun c : Nat => (c : Int)) ++ [0]) (hall : ∀ a, a ∈ (ds.map fun c : Nat => (c : Int)) ++ [0] → a ≤ M) : M = (ds.foldr max 0 : Nat) := by
  have up : ∀ (ds : List Nat) (a : Int), a ∈ (ds.map fun c : Nat => (c : Int)) ++ [0] → a ≤ (ds.foldr max 0 : Nat) := by
    intro ds
    induction ds with
    | nil => intro a ha; simp at ha; simp [ha]
    | cons c ds ih =>
      intro a ha
      simp only [List.map_cons, List.cons_append, List.mem_cons] at ha
      simp only [List.foldr_cons]
      rcases ha with rfl | ha
      · omega
      · have := ih a ha; omega
  have low : ∀ ds : List Nat, ((ds.foldr max 0 : Nat) : Int) ∈ (ds.map fun c : Nat => (c : Int)) ++ [0] := by
    intro ds
    induction ds with
    | nil => simp
    | cons c ds ih =>
      simp only [List.foldr_cons, List.map_cons, List.cons_append, List.mem_cons]
      by_cases hh : ds.foldr max 0 ≤ c
      · left; omega
      · right; rw [show max c (ds.foldr max 0) = ds.foldr max 0 by omega]; exact ih
  have h1 := up ds M hm
  have h2 := hall _ (low ds)
  omega
abbrev natsD (l : List Nat) : List PyData := l.map fun n : Nat => .int n
theorem th_ok (w : World) (o : O) (hsz : o.plain.size ≤ 200) : Pur w 73 [.ref o.addr] 3 9 (fun h => o.At w h) (IR o.plain.ht) := by
  refine' Pur.intro (binds := [(Str.ofString "self", .ref o.addr)]) (d := 2) (u := 6) (by exact rfl) (by exact rfl) (fun _ _ => BindsTo.of_eq rfl) (locs rfl) rfl rfl rfl (by decide) ?_
  intro A s h₁ tk C T hp F
  have hpl := O.post_len o
  refine wpAny_execs_cons (wpAny_Assign_Name (List_ (spliced_none (z_list F (sz_lt (by simp)) fun ld h' F => z_st F fun h' tk' F => ?_))))
  refine wpAny_execs_cons (wpAny_For (Call_ (z_gl T F rfl (z_cw T (by exact rfl) (spliced_more (z_ld F rfl (spliced_none ⟨T.keeps F.ext, ?_⟩)))))))
  refine Pur.use (post_ok w o hsz) C T F (hp.keeps F.ext) fun x h' tk' R hpost hadd => ?_
  obtain ⟨lx, nx, rfl, hx⟩ := hpost
  have F := hadd _ hx
  refine z_forList (items := (refs o.post).toArray) (Φ₀ := fun h => h.get? lx = some (listOf (refs o.post).toArray nx)) (Φ := fun h => h.get? ld = some (listOf #[] 0)) C.hd ⟨_, fun h' e hh => ⟨hh, rfl, _, rfl⟩⟩
    (fun i m mu Φ => mu = [] ∧ ∃ dn ys, m "done" = some (.ref dn) ∧ ∀ h, Φ h → h.get? dn = some (listOf (List.toArray ys) 0) ∧ RDs h ys (natsD (runS heightF [] (o.post.take i))))
    (F.imp fun h hh => ⟨hh.2, hh.1.2⟩) ⟨rfl, ld, [], rfl, fun h hh => ⟨hh, RDs.nil⟩⟩ ?_ ?_
  · rintro i v m₁ mu₁ Φ₁ h₁ tk₁ it hi hv ⟨rfl, dn, ys, hm2, hΦ⟩ F
    obtain ⟨c, hcc, rfl⟩ := refs_at hv
    have hat := O.post_at hp c (mem_at hcc)
    have hfit := fits_post heightF o [] i c hcc
    have hlen := runS_len heightF (o.post.take i) []
    have hyl := (hΦ _ F.now.2).2.len
    have htl : (o.post.take i).length ≤ o.post.length := by rw [List.length_take]; omega
    have hst := runS_take heightF hcc []
    simp only [List.length_nil, Nat.zero_add] at hlen
    generalize hS : runS heightF [] (o.post.take i) = S at *
    simp only [List.length_map] at hyl
    refine z_as F fun h' tk' F => ?_
    refine wpAny_execs_cons (wpAny_Assign_Name (wpAny_BinOp (Call_ (z_bn T F (by exact rfl) (v := .builtin "len") (by boot_fast) (by decide) (z_cwB (spliced_more (z_ld F hm2 (spliced_none (z_lenL ⟨_, (hΦ _ F.now.2).1, rfl, _, rfl⟩ (sz_lt (by simp; omega)) fun t1 tk => ?_)))))))))
    refine Call_ (z_bn T F (by exact rfl) (v := .builtin "len") (by boot_fast) (by decide) (z_cwB (spliced_more (Attribute_any_ (z_ld F rfl (a_kids0 T F hat F.ext fun lc nc tk' hlc => spliced_none (z_lenL ⟨_, hlc _ F.ext, rfl, _, rfl⟩ (sz_lt (by simp; omega)) fun t2 tk => z_sub fun t3 tk => z_st F fun h' tk' F => ?_)))))))
    have hb : (((ys.toArray.size : Nat) : Int) - ((refs c.cs).toArray.size : Nat)) = ((S.length - c.cs.length : Nat) : Int) := by
      simp; omega
    refine wpAny_execs_cons (wpAny_Assign_Name (Call_ (z_bn T F (by exact rfl) (v := .builtin "max") (by boot_fast) (by decide) (z_cwB (spliced_more (wpAny_BinOp (Subscript_ (z_ld F hm2 (z_slice (wpAny_evalPart_some (z_ld F rfl (wpAny_evalPart_none (wpAny_evalPart_none ?_)))))))))))))
    refine z_slT F ⟨_, (hΦ _ F.now.2).1, rfl, _, rfl⟩ (.int _ _) .none .none (by decide) (sz_lt (by simp; omega)) fun l1 h' F => ?_
    rw [slice_fr hb] at F
    refine List_ (spliced_more (z_int fun t tk => spliced_none (z_list F (sz_lt (by simp)) fun l2 h' F => ?_)))
    refine z_addL F ⟨_, F.now.1.2, rfl, _, rfl⟩ ⟨_, F.now.2, rfl, _, rfl⟩ (sz_lt (by simp; omega)) fun l3 h' F => spliced_none ?_
    have hin : IntsAre (ys.drop (S.length - c.cs.length) ++ [.int 0 t]) (((S.drop (S.length - c.cs.length)).map fun n : Nat => (n : Int)) ++ [0]) := by
      refine RDs.ints (h := h') ?_
      rw [List.map_append, List.map_map]
      refine RDs.append ?_ (RDs.cons RD.mkInt RDs.nil)
      have := RDs.drop (S.length - c.cs.length) (hΦ _ F.now.1.1.1.2).2
      rw [natsD, ← List.map_drop] at this
      exact this
    refine z_max C.hd F ⟨_, F.now.2, rfl, _, rfl⟩ hin (by simp) fun h' M t tk' F hm hall => z_st F fun h' tk' F => ?_
    have hM := foldr_max hm hall
    refine wpAny_execs_cons (wpAny_Assign_Name (wpAny_BinOp (Subscript_ (z_ld F hm2 (z_slice (wpAny_evalPart_none (wpAny_evalPart_some (z_ld F rfl (wpAny_evalPart_none ?_)))))))))
    refine z_slT F ⟨_, (hΦ _ F.now.1.1.1.2).1, rfl, _, rfl⟩ .none (.int _ _) .none (by decide) (sz_lt (by simp; omega)) fun l4 h' F => ?_
    rw [slice_up hb] at F
    refine List_ (spliced_more (wpAny_BinOp (z_ld F rfl (IfExp_ (isTrue_plain (MethodCall_ (z_ld F rfl (z_isleaf C T F (hat.keeps F.ext) fun h' tk' F => wpAny_truthy_bool ?_))))))))
    cases hl : c.isLeaf with
    | true =>
      refine z_t rfl (z_int fun t5 tk => z_add fun t6 tk => spliced_none (z_list F (sz_lt (by simp)) fun l5 h' F => ?_))
      refine z_addL F ⟨_, F.now.1.2, rfl, 0, rfl⟩ ⟨_, F.now.2, rfl, 0, rfl⟩ (sz_lt (by simp; omega)) fun l6 h' F => z_st F fun h' tk' F => wpAny_execs_nil ?_
      have hv : M + 0 = (heightF c (S.drop (S.length - c.cs.length)) : Nat) := by rw [heightF, hl, hM]; simp
      rw [hv] at F
      refine ⟨_, _, _, [], fun h => h.get? l6 = some (listOf (ys.take (S.length - c.cs.length) ++ [Value.int (heightF c (S.drop (S.length - c.cs.length)) : Nat) t6]).toArray 0) ∧ RDs h (ys.take (S.length - c.cs.length) ++ [Value.int (heightF c (S.drop (S.length - c.cs.length)) : Nat) t6]) (natsD (S.take (S.length - c.cs.length) ++ [heightF c (S.drop (S.length - c.cs.length))])), rfl, F.imp fun h hh => ⟨hh.1.1.1.1.1.1.1, hh.2, ?_⟩, rfl, l6, _, rfl, fun h hh => by rw [hst]; exact hh⟩
      have := RDs.take (S.length - c.cs.length) (hΦ _ hh.1.1.1.1.1.1.2).2
      rw [natsD, ← List.map_take] at this
      rw [natsD, List.map_append]
      exact RDs.append this (RDs.cons RD.mkInt RDs.nil)
    | false =>
      refine z_f rfl (z_int fun t5 tk => z_add fun t6 tk => spliced_none (z_list F (sz_lt (by simp)) fun l5 h' F => ?_))
      refine z_addL F ⟨_, F.now.1.2, rfl, 0, rfl⟩ ⟨_, F.now.2, rfl, 0, rfl⟩ (sz_lt (by simp; omega)) fun l6 h' F => z_st F fun h' tk' F => wpAny_execs_nil ?_
      have hv : M + 1 = (heightF c (S.drop (S.length - c.cs.length)) : Nat) := by rw [heightF, hl, hM]; simp
      rw [hv] at F
      refine ⟨_, _, _, [], fun h => h.get? l6 = some (listOf (ys.take (S.length - c.cs.length) ++ [Value.int (heightF c (S.drop (S.length - c.cs.length)) : Nat) t6]).toArray 0) ∧ RDs h (ys.take (S.length - c.cs.length) ++ [Value.int (heightF c (S.drop (S.length - c.cs.length)) : Nat) t6]) (natsD (S.take (S.length - c.cs.length) ++ [heightF c (S.drop (S.length - c.cs.length))])), rfl, F.imp fun h hh => ⟨hh.1.1.1.1.1.1.1, hh.2, ?_⟩, rfl, l6, _, rfl, fun h hh => by rw [hst]; exact hh⟩
      have := RDs.take (S.length - c.cs.length) (hΦ _ hh.1.1.1.1.1.1.2).2
      rw [natsD, ← List.map_take] at this
      rw [natsD, List.map_append]
      exact RDs.append this (RDs.cons RD.mkInt RDs.nil)
  · rintro h' tk' m' mu' Φ' ⟨rfl, dn, ys, hm2, hΦ⟩ F
    rw [refs_size, List.take_length, runS_post, List.nil_append] at hΦ
    obtain ⟨y, ys', rfl, hy, hys⟩ := RDs.uncons (hΦ _ F.now.2).2
    have := hys.unnil; subst this
    refine wpAny_execs_cons (wpAny_Return_some (Subscript_ (z_ld F hm2 (z_int fun t tk => z_itemL ⟨_, (hΦ _ F.now.2).1, rfl, _, rfl⟩ (by decide) (by decide) rfl ?_))))
    obtain ⟨t, rfl⟩ := hy.int
    refine ⟨_, _, _, _, _, _, rfl, F, fun R hR => ⟨t, ?_⟩⟩
    rw [O.height_val]
    rfl
end Mine
namespace Mine
section
variable {w : World} {A : Around} {hb h h0 : Heap} {L x : Addr} {m : Str → Option Value} {mu : Led} {Φ : Heap → Prop} {g : Array GenState} {dr : Drawn} {tk : Nat} {os : OsState} {env : Env}
  {pos px : Pos} {v : Value} {Q : Value → Shared → Prop} {QB : Bool → Shared → Prop} {QU : Unit → Shared → Prop} {QF : Flow → Shared → Prop} {E : Value → Shared → Prop}
/-- a for over reversed(a list) -/
theorem z_forRevList {R : Result → Shared → Prop} {target : Expr} {body : List Stmt} {l : Addr} {items : Array Value} {Φ₀ : Heap → Prop} (hA : A.handled = none)
    (hl : ∃ o, ∀ h', Ext hb h' → Φ₀ h' → h'.get? l = some o ∧ o.cls = .type "list" ∧ ∃ n, o.data = .seq items n)
    (J : Nat → (Str → Option Value) → Led → (Heap → Prop) → Prop) (F : St hb L h m mu (fun x => Φ₀ x ∧ Φ x)) (hj : J 0 m mu Φ)
    (step : ∀ i v m₁ mu₁ Φ₁ h₁ tk₁ it, i < items.size → items[items.size - 1 - i]? = some v → J i m₁ mu₁ Φ₁ → St hb L h₁ m₁ (it ++ mu₁) (fun x => Φ₀ x ∧ Φ₁ x) →
      wpAny (model PP w) A (assign target env v) (fun _ s₂ => wpAny (model PP w) A (execs body env) (TurnE hb L g dr os Φ₀ it (J (i + 1)) R) NoE s₂) NoE ⟨h₁, g, dr, tk₁, os⟩)
    (done : ∀ h' tk' m' mu' Φ', J items.size m' mu' Φ' → St hb L h' m' mu' (fun x => Φ₀ x ∧ Φ' x) → R (.ok .next) ⟨h', g, dr, tk', os⟩)
    (ht : ∀ I v, letOwnedTupleGo target (.ref I) v = pure () := by intro _ _; rfl) :
    wpAny (model PP w) A (call (.type "reversed") [.ref l]) (fun xv s₁ => wpAny (model PP w) A (pyIter xv) (fun it s₂ => codeAny (model PP w) A (.forLoop target it body [] env) R s₂) NoE s₁) NoE ⟨h, g, dr, tk, os⟩ := by
  obtain ⟨o, ho⟩ := hl
  have ho' := ho _ F.ext F.now.1
  have hls : h.IsList l items := ⟨o, ho'⟩
  refine call_reversed_list hls ?_
  have hne : l ≠ h.objs.size := Nat.ne_of_lt (Heap.lt_size ho'.1)
  have F1 := F.alloc_mu (revObj l ((items.size : Int) - 1))
  have W := Walks.listRev (prog := PP) (w := w) hA h.objs.size l hne items
  have k1 : Ext h (h.push (revObj l ((items.size : Int) - 1))) := fun b x e => Heap.get?_push_of_some _ e
  have st0 : 0 ≤ items.size ∧ (h.push (revObj l ((items.size : Int) - 1))).IsRevIter h.objs.size l ((items.size : Int) - 1 - ((0 : Nat) : Int)) ∧ (h.push (revObj l ((items.size : Int) - 1))).IsList l items := by
    refine ⟨Nat.zero_le _, ⟨_, F1.get (.head _), rfl, ?_⟩, o, k1 _ _ ho'.1, ho'.2⟩
    have e : (items.size : Int) - 1 - ((0 : Nat) : Int) = (items.size : Int) - 1 := by omega
    rw [e]; rfl
  refine W.self 0 _ _ _ st0 ?_
  refine z_forW W ?_ ?_ J st0 F1 hj (fun i v m₁ mu₁ Φ₁ h₁ tk₁ o hi hP hJ F => step i v m₁ mu₁ Φ₁ h₁ tk₁ _ hi hP hJ F) done (ht _)
  · intro b hb
    rcases List.mem_cons.mp hb with e | hb
    · exact .inl e
    · rw [List.mem_singleton.mp hb]; exact .inr ⟨o, fun h' e hp => (ho h' e hp).1⟩
  · rintro i h ⟨_, ⟨o, ho, _⟩, _⟩
    exact ⟨o, ho⟩
def headO : O → Str
  | .leaf _ _ _ _ _ k t => leafHead k t
  | .node _ _ _ _ nm _ => nm
theorem z_head {d u : Nat} {o : O} {pl : Sem Bool} (C : Cx A d u) (T : Tp w hb) (F : St hb L h m mu Φ) (ho : o.At w h) (hok : o.plain.Ok) (k : ∀ t h' tk', St hb L h' m mu Φ → Q (.str (headO o) t) ⟨h', g, dr, tk', os⟩) (hd : 1 ≤ d := by omega) (hu : 3 ≤ u := by omega) :
    wpAny (model PP w) A (getMethod (.ref o.addr) "head" pl) (fun fx s₂ => wpAny (model PP w) A (callWith pos fx.1 fx.2 (backTo pos (starEach [] env)) []) Q NoE s₂) NoE ⟨h, g, dr, tk, os⟩ := by
  cases o with
  | leaf a d l ta td kd tx =>
    have ho' := ho
    rw [O.At] at ho
    obtain ⟨h1, ⟨u1, u2, u3, u4, t1, t2, n, h2⟩, _⟩ := ho
    refine z_meth (f := 115) T F h1 h2 (kk_pg118 w _) (by exact rfl) (by exact rfl) rfl (z_cm0 T F (by exact rfl) ?_)
    exact Pur.use (s := ⟨h, g, dr, tk, os⟩) (head_L w a d l ta td kd tx hok.1 hok.2) C T F ho' fun v h' tk R hv hadd => by obtain ⟨t, rfl⟩ := hv; exact k t h' tk ((hadd (fun _ => True) fun _ _ => trivial).imp fun _ x => x.1)
  | node a d l r nm cs =>
    have ho' := ho
    rw [O.At] at ho
    obtain ⟨⟨h1, ⟨u1, u2, u3, t1, t2, n, h2⟩, _⟩, _⟩ := ho
    refine z_meth (f := 49) T F h1 h2 (kk_pg83 w _) (by exact rfl) (by exact rfl) rfl (z_cm0 T F (by exact rfl) ?_)
    exact Pur.use (s := ⟨h, g, dr, tk, os⟩) (head_T w a d l r nm cs) C T F ho' fun v h' tk R hv hadd => by obtain ⟨t, rfl⟩ := hv; exact k t h' tk ((hadd (fun _ => True) fun _ _ => trivial).imp fun _ x => x.1)
end
def TL (h : Heap) : List Value → List (O × Nat) → Prop
  | [], [] => True
  | v :: vs, p :: ps => (∃ a t, v = .ref a ∧ IsTup h a #[.ref p.1.addr, .int (p.2 : Nat) t]) ∧ TL h vs ps
  | [], _ :: _ => False
  | _ :: _, [] => False
theorem TL.append {h : Heap} : ∀ {vs ws : List Value} {ps qs : List (O × Nat)}, TL h vs ps → TL h ws qs → TL h (vs ++ ws) (ps ++ qs)
  | [], _, [], _, _, y => y
  | _ :: _, _, _ :: _, _, ⟨a, b⟩, y => ⟨a, TL.append b y⟩
  | [], _, _ :: _, _, x, _ => x.elim
  | _ :: _, _, [], _, x, _ => x.elim
theorem TL.len {h : Heap} : ∀ {vs : List Value} {ps : List (O × Nat)}, TL h vs ps → vs.length = ps.length
  | [], [], _ => rfl
  | _ :: _, _ :: _, ⟨_, b⟩ => congrArg (· + 1) (TL.len b)
  | [], _ :: _, x => x.elim
  | _ :: _, [], x => x.elim
theorem TL.snoc {h : Heap} : ∀ {vs : List Value} {v : Value} {ps : List (O × Nat)} {p : O × Nat}, TL h (vs ++ [v]) (ps ++ [p]) → TL h vs ps ∧ ∃ a t, v = .ref a ∧ IsTup h a #[.ref p.1.addr, .int (p.2 : Nat) t]
  | [], v, [], p, ⟨a, _⟩ => ⟨trivial, a⟩
  | w :: vs, v, q :: ps, p, ⟨a, b⟩ => let ⟨x, y⟩ := TL.snoc b; ⟨⟨a, x⟩, y⟩
  | [], v, q :: ps, p, x => by have := TL.len x; simp at this
  | w :: vs, v, [], p, x => by have := TL.len x; simp at this
/-- the rows that a stack still holds -/
def stackRows (line : List (O × Nat)) : List Str := line.reverse.flatMap fun p => p.1.plain.page p.2
theorem stackRows_snoc (line : List (O × Nat)) (p : O × Nat) : stackRows (line ++ [p]) = p.1.plain.page p.2 ++ stackRows line := by simp [stackRows]
theorem O.plains_eq : ∀ cs : List O, O.plains cs = cs.map O.plain
  | [] => rfl
  | c :: cs => by rw [O.plains, O.plains_eq cs]; rfl
theorem P.pages_eq (d : Nat) : ∀ cs : List P, P.pages cs d = cs.flatMap fun c => c.page d
  | [] => rfl
  | c :: cs => by rw [P.pages, P.pages_eq d cs]; rfl
theorem O.page_eq (o : O) (d : Nat) : o.plain.page d = (pad d ++ headO o) :: o.cs.flatMap fun c => c.plain.page (d + 1) := by
  cases o with
  | leaf a d l ta td k t => simp [O.plain, P.page, headO, O.cs]
  | node a d l r nm cs => rw [O.plain, P.page, P.pages_eq, O.plains_eq, List.flatMap_map]; rfl
theorem P.page_pos (p : P) (d : Nat) : 1 ≤ (p.page d).length := by cases p <;> simp [P.page]
theorem stackRows_len (line : List (O × Nat)) : line.length ≤ (stackRows line).length := by
  have h : ∀ l : List (O × Nat), l.length ≤ (l.flatMap fun p => p.1.plain.page p.2).length := by
    intro l
    induction l with
    | nil => simp
    | cons x xs ih => have := P.page_pos x.1.plain x.2; simp only [List.length_append, List.length_cons, List.flatMap_cons]; omega
  have := h line.reverse
  rw [List.length_reverse] at this
  exact this
theorem O.kids_ok {o : O} (h : o.plain.Ok) : ∀ c ∈ o.cs, c.plain.Ok := by
  cases o with
  | leaf => intro c hc; cases hc
  | node a d l r nm cs =>
    rw [O.plain, P.Ok] at h
    intro c hc
    obtain ⟨i, hi⟩ := List.getElem?_of_mem hc
    exact P.ok_at (i := i) h.2 (by rw [O.plains_eq, List.getElem?_map, show cs[i]? = some c from hi]; rfl)
theorem O.kids_ht {o : O} : ∀ c ∈ o.cs, c.plain.ht < o.plain.ht := by
  cases o with
  | leaf => intro c hc; cases hc
  | node a d l r nm cs =>
    intro c hc
    obtain ⟨i, hi⟩ := List.getElem?_of_mem hc
    have := P.ht_lt (cs := O.plains cs) (i := i) (c := c.plain) (by rw [O.plains_eq, List.getElem?_map, show cs[i]? = some c from hi]; rfl)
    rw [O.plain, P.ht]; omega
theorem headO_len {o : O} (h : o.plain.Ok) : (headO o).length ≤ 20 := by
  have e1 : (Str.ofString " ").length = 1 := by decide +kernel
  cases o with
  | leaf a d l ta td k t =>
    have h1 := h.1.len; have h2 := h.2.len
    simp only [headO, leafHead]
    split
    · omega
    · simp only [Str.length_append]; omega
  | node a d l r nm cs => have := h.1.2.len; simp only [headO]; omega
theorem pad_len (d : Nat) : (pad d).length = 2 * d := by
  have e2 : (Str.ofString "  ").length = 2 := by decide +kernel
  have h := len_mul_k2 (n := (d : Int)) e2
  rw [if_neg (by omega)] at h
  rw [pad]; omega
theorem P.page_row {B : Nat} : ∀ n (p : P) (d : Nat), p.ht < n → p.Ok → d + p.ht ≤ B → ∀ x ∈ p.page d, x.length ≤ 2 * B + 20 := by
  intro n
  induction n with
  | zero => intro p d h; exact absurd h (Nat.not_lt_zero _)
  | succ n ih =>
    intro p d hn hok hd x hx
    have e1 : (Str.ofString " ").length = 1 := by decide +kernel
    cases p with
    | leaf k t =>
      rw [P.page] at hx
      rw [List.mem_singleton.mp hx, Str.length_append, pad_len]
      have h1 := hok.1.len; have h2 := hok.2.len
      simp only [P.ht] at hd
      unfold leafHead
      split
      · omega
      · simp only [Str.length_append]; omega
    | node r nm cs =>
      rw [P.page, P.pages_eq] at hx
      simp only [P.ht] at hd hn
      rcases List.mem_cons.mp hx with rfl | hx
      · rw [Str.length_append, pad_len]; have := hok.1.2.len; omega
      · obtain ⟨c, hc, hx⟩ := List.mem_flatMap.mp hx
        obtain ⟨i, hi⟩ := List.getElem?_of_mem hc
        have := P.ht_lt hi
        exact ih c (d + 1) (by omega) (P.ok_at hok.2 hi) (by omega) x hx
theorem sum_le {B : Nat} : ∀ (l : List Nat), (∀ x ∈ l, x ≤ B) → l.sum ≤ l.length * B
  | [], _ => by simp
  | a :: l, h => by
    have := sum_le l fun x hx => h x (.tail _ hx)
    have := h a (.head _)
    simp only [List.sum_cons, List.length_cons, Nat.add_mul, Nat.one_mul]; omega

theorem show_ok (w : World) (o : O) (hsz : o.plain.size ≤ 200) (hok : o.plain.Ok) (hht : o.plain.ht ≤ 200) : Pur w 80 [.ref o.addr] 2 6 (fun h => o.At w h) (SR (Txt.join (Str.ofString "\n") (o.plain.page 0))) := by
  refine' Pur.intro (binds := [(Str.ofString "self", .ref o.addr)]) (d := 1) (u := 3) (by exact rfl) (by exact rfl) (fun _ _ => BindsTo.of_eq rfl) (locs rfl) rfl rfl rfl (by decide) ?_
  intro A s h₁ tk C T hp F
  have e2 : (Str.ofString "  ").length = 2 := by decide +kernel
  have e1 : (Str.ofString "\n").length = 1 := by decide +kernel
  have hpl := P.page_len o.plain 0
  refine wpAny_execs_cons (wpAny_Assign_Name (List_ (spliced_none (z_listM F (sz_lt (by simp)) fun lr h' F => z_st F fun h' tk' F => ?_))))
  refine wpAny_execs_cons (wpAny_Assign_Name (List_ (spliced_more (Tuple_ (spliced_more (z_ld F rfl (spliced_more (z_int fun t0 tk => spliced_none (z_tup F (sz_lt (by simp)) fun lt h' F => spliced_none (z_listM F (sz_lt (by simp)) fun ll h' F => z_st F fun h' tk' F => ?_))))))))))
  refine wpAny_execs_cons (z_while (fun n m mu Φ => ∃ vs ps rows ws n1 n2, mu = [(ll, listOf (List.toArray vs) n1), (lr, listOf (List.toArray ws) n2)] ∧ m "line" = some (.ref ll) ∧ m "rows" = some (.ref lr) ∧ StrsAre ws rows ∧
    rows ++ stackRows ps = o.plain.page 0 ∧ (stackRows ps).length = n ∧ (∀ h, Φ h → TL h vs ps) ∧ (∀ p ∈ ps, O.At w s.heap p.1 ∧ p.1.plain.Ok ∧ p.2 + p.1.plain.ht ≤ 200)) (o.plain.page 0).length F
    ⟨_, [(o, 0)], [], [], 0, 0, rfl, rfl, rfl, .nil, by simp [stackRows], by simp [stackRows], fun h hh => ⟨⟨lt, t0, rfl, _, hh.2, rfl, 0, rfl⟩, trivial⟩, by simpa using ⟨hp, hok, hht⟩⟩ ?_)
  rintro n m₁ mu₁ Φ₁ h₁ tk₁ ⟨vs, ps, rows, ws, n1, n2, rfl, hm1, hm2, hws, heq, hn, hTL, hat⟩ F
  have hl1 := stackRows_len ps
  have hl2 : rows.length + (stackRows ps).length = (o.plain.page 0).length := by rw [← heq, List.length_append]
  have hl3 := TL.len (hTL _ F.now)
  have hl4 := hws.len_eq
  refine wpAny_isTrue_Compare1 (z_ld F hm1 (List_ (spliced_none (z_list F (sz_lt (by simp)) fun le h' F => ?_))))
  refine z_neNil (by have := C.un; omega) ⟨_, F.get (.head _), rfl, _, rfl⟩ ⟨_, F.now.2, rfl, _, rfl⟩ ?_
  rcases List.eq_nil_or_concat vs with rfl | ⟨vs, v, rfl⟩
  · refine z_f (by simp) ?_
    have hps : ps = [] := List.eq_nil_of_length_eq_zero (by rw [← hl3]; rfl)
    subst hps
    have hrw : rows = o.plain.page 0 := by simpa [stackRows] using heq
    have F := F.swap
    refine wpAny_execs_cons (wpAny_Return_some (MethodCall_ (z_str fun t tk => GM.join (z_cb1 (spliced_more (z_ld F hm2 (spliced_none ?_)))))))
    refine join_list (s := ⟨h', _, _, _, _⟩) ⟨_, F.get (.head _), rfl, _, rfl⟩ (by simpa using hws) ?_ fun t' k => ?_
    · have h1 := sum_le (B := 420) (rows.map (·.length)) (by
        intro x hx
        obtain ⟨y, hy, rfl⟩ := List.mem_map.mp hx
        rw [hrw] at hy
        exact P.page_row (B := 200) _ o.plain 0 (Nat.lt_succ_self _) hok (by omega) y hy)
      rw [List.length_map] at h1
      rw [e1]; omega
    · rw [hrw]
      exact ⟨_, _, _, _, _, _, rfl, F, fun R hR => ⟨t', rfl⟩⟩
  · rw [List.concat_eq_append] at *
    rcases List.eq_nil_or_concat ps with rfl | ⟨ps, ⟨o', dp⟩, rfl⟩
    · simp at hl3
    rw [List.concat_eq_append] at *
    obtain ⟨hat', hok', hdp⟩ := hat (o', dp) (by simp)
    simp only at hat' hok' hdp
    rw [stackRows_snoc, O.page_eq] at heq hn hl2
    simp only [List.length_append, List.length_cons] at hn hl2 hl3 hl1
    have hl5 := stackRows_len ps
    obtain ⟨a, t, rfl, hTup⟩ := (TL.snoc (hTL _ F.now.1)).2
    refine z_t (by simp) ?_
    refine wpAny_execs_cons (Assign_Tuple (MethodCall_ (z_ld F hm1 (z_mpop (F.get (.head _)) (z_cb0 (z_pop F (sz_lt (by omega)) fun h' F => ?_))))))
    have hTup := (TL.snoc (hTL _ F.now.1)).2
    obtain ⟨a', t', e, hTup⟩ := hTup
    cases e
    refine z_asTup C.hd F hTup rfl rfl fun h' F => assignInOrder_cons (z_as F fun h' tk' F => assignInOrder_cons (z_as F fun h' tk' F => assignInOrder_nil ?_))
    have hhl := headO_len hok'
    refine wpAny_execs_cons (wpAny_Expr (MethodCall_ (z_ld F hm2 (z_mapp (F.get (.tail _ (.head _))) (z_cb1 (spliced_more (wpAny_BinOp (wpAny_BinOp (z_str fun t tk => z_ld F rfl (z_rep e2 (by decide) (by omega) (by omega) fun tp tk hp2 => ?_))))))))))
    refine MethodCall_ (z_ld F rfl (z_head (o := o') C T F (hat'.keeps F.ext) hok' fun th h' tk' F => z_cat (sz_lt (by omega)) fun tc tk => spliced_none (z_app F.swap (sz_lt (by omega)) fun h' F => ?_)))
    have F := F.swap
    have hws' : StrsAre (ws ++ [.str (pad dp ++ headO o') tc]) (rows ++ [pad dp ++ headO o']) := StrsAre.append' hws (.cons _ _ .nil)
    refine wpAny_execs_cons (wpAny_For (Call_ (z_bn T F (by exact rfl) (v := .type "reversed") (by boot_fast) (by decide) (z_cwT (spliced_more (Attribute_any_ (z_ld F rfl (a_kids0 T F hat' F.ext fun lc nc tk' hlc => spliced_none ?_))))))))
    refine z_forRevList (items := (refs o'.cs).toArray) (Φ₀ := fun _ => True) (Φ := Φ₁) C.hd ⟨_, fun h' e _ => ⟨hlc _ e, rfl, _, rfl⟩⟩
      (fun i m mu Φ => ∃ n1 us, mu = [(ll, listOf (List.toArray (vs ++ us)) n1), (lr, listOf (ws ++ [Value.str (pad dp ++ headO o') tc]).toArray (n2 + 1))] ∧ m "line" = some (.ref ll) ∧ m "rows" = some (.ref lr) ∧ m "deep" = some (.int dp t') ∧
        (∀ h, Φ h → TL h (vs ++ us) (ps ++ ((o'.cs.reverse.take i).map fun c => (c, dp + 1)))))
      (F.imp fun h hh => ⟨trivial, hh.1⟩) ⟨n1 + 1, [], by simp [pad], hm1, hm2, rfl, fun h hh => by simpa using (TL.snoc (hTL _ hh)).1⟩ ?_ ?_
    · rintro i v m₁ mu₁ Φ₁ h₁ tk₁ it hi hv ⟨n1, us, rfl, hm1, hm2, hm3, hT⟩ F
      have hil : i < o'.cs.length := by simpa using hi
      obtain ⟨c, hc, rfl⟩ := refs_at hv
      rw [refs_size] at hc
      have hcr : o'.cs.reverse[i]? = some c := by rw [List.getElem?_reverse hil]; exact hc
      have hlu := TL.len (hT _ F.now.2)
      simp only [List.length_append, List.length_map, List.length_take, List.length_reverse] at hlu
      have hch : o'.cs.length ≤ (o'.cs.flatMap fun c => c.plain.page (dp + 1)).length := by
        have h : ∀ l : List O, l.length ≤ (l.flatMap fun c => c.plain.page (dp + 1)).length := by
          intro l
          induction l with
          | nil => simp
          | cons x xs ih => have := P.page_pos x.plain (dp + 1); simp only [List.length_append, List.length_cons, List.flatMap_cons]; omega
        exact h _
      refine z_as F fun h' tk' F => ?_
      have F := F.mid
      refine wpAny_execs_cons (wpAny_Expr (MethodCall_ (z_ld F hm1 (z_mapp (F.get (.head _)) (z_cb1 (spliced_more (Tuple_ (spliced_more (z_ld F rfl (spliced_more (wpAny_BinOp (z_ld F hm3 (z_int fun t1 tk => z_add fun t2 tk => spliced_none (z_tup F (sz_lt (by simp)) fun ln h' F => spliced_none (z_app F (sz_lt (by simp only [List.length_append]; omega)) fun h' F => wpAny_execs_nil ?_)))))))))))))))
      refine ⟨_, _, _, _, fun h => Φ₁ h ∧ h.get? ln = some (tupOf #[.ref c.addr, .int (dp + 1 : Nat) t2]), rfl, F.unmid.imp fun h hh => ⟨hh.1.1, hh.1.2, hh.2⟩, n1 + 1, us ++ [.ref ln], by simp, hm1, hm2, hm3, fun h hh => ?_⟩
      rw [take_snoc hcr, List.map_append, ← List.append_assoc, ← List.append_assoc]
      exact TL.append (hT _ hh.1) ⟨⟨ln, t2, rfl, _, hh.2, rfl, 0, rfl⟩, trivial⟩
    · rintro h' tk' m' mu' Φ' ⟨n1, us, rfl, hm1, hm2, hm3, hT⟩ F
      refine wpAny_execs_nil ?_
      have e : (refs o'.cs).toArray.size = o'.cs.reverse.length := by simp
      rw [e, List.take_length] at hT
      have hsr : stackRows (ps ++ (o'.cs.reverse.map fun c => (c, dp + 1))) = (o'.cs.flatMap fun c => c.plain.page (dp + 1)) ++ stackRows ps := by
        simp only [stackRows, List.reverse_append, List.flatMap_append, ← List.map_reverse, List.reverse_reverse, List.flatMap_map]
      refine ⟨_, ?_, _, _, _, _, _, rfl, F, _, ps ++ (o'.cs.reverse.map fun c => (c, dp + 1)), rows ++ [pad dp ++ headO o'], _, _, _, rfl, hm1, hm2, hws', ?_, rfl, fun h hh => hT h hh.2, ?_⟩
      · rw [hsr, List.length_append]; omega
      · rw [← heq, hsr]; simp
      · intro p hp
        rcases List.mem_append.mp hp with hp | hp
        · exact hat p (by simp [hp])
        · obtain ⟨c, hc, rfl⟩ := List.mem_map.mp hp
          have hc := List.mem_reverse.mp hc
          exact ⟨hat'.kids c hc, O.kids_ok hok' c hc, by have := O.kids_ht c hc; simp only; omega⟩
end Mine
namespace Mine
section
variable {w : World} {A : Around} {hb h h' : Heap} {L a b : Addr} {m : Str → Option Value} {mu : Led} {Φ : Heap → Prop} {g : Array GenState} {dr : Drawn} {tk : Nat} {os : OsState} {env : Env} {o p o' p' : Obj}
def But2 (a b : Addr) (h h' : Heap) : Prop := ∀ c x, c ≠ a → c ≠ b → h.get? c = some x → h'.get? c = some x
theorem ns_but2 {m : Str → Option Value} (x : h.Ns L m) (hs : But2 a b h h') (ha : L ≠ a) (hb' : L ≠ b) : h'.Ns L m := by
  obtain ⟨oL, es, ep, hL, hr⟩ := x
  exact ⟨oL, es, ep, hs _ _ ha hb' hL, hr⟩
theorem St.upd2 (F : St hb L h m ((a, o) :: (b, p) :: mu) Φ) (hs : But2 a b h h') (ha : h'.get? a = some o') (hb' : h'.get? b = some p') : St hb L h' m ((a, o') :: (b, p') :: mu) Φ := by
  obtain ⟨f, ⟨R, N, d, c⟩, n⟩ := F
  have za := N (a, o) (by simp)
  have zb := N (b, p) (by simp)
  rw [List.map_cons, List.nodup_cons, List.map_cons, List.nodup_cons] at n
  have f' : Fr hb L h' m := ⟨ns_but2 f.ns hs (Ne.symm za.2.1) (Ne.symm zb.2.1), fun q x e => hs q x (fun e' => by have := za.2.2; rw [← e', e] at this; cases this) (fun e' => by have := zb.2.2; rw [← e', e] at this; cases this) (f.keep q x e), f.above⟩
  refine ⟨f', ⟨R, fun q hq => ?_, fun q hq r hr => ?_, c⟩, by rw [List.map_cons, List.nodup_cons, List.map_cons, List.nodup_cons]; exact n⟩
  · rw [List.cons_append, List.cons_append] at hq
    rcases List.mem_cons.mp hq with rfl | hq
    · exact ⟨ha, za.2⟩
    rcases List.mem_cons.mp hq with rfl | hq
    · exact ⟨hb', zb.2⟩
    have y := N q (by rw [List.cons_append, List.cons_append]; exact .tail _ (.tail _ hq))
    refine ⟨hs _ _ ?_ ?_ y.1, y.2⟩
    · intro e
      rcases List.mem_append.mp hq with hq | hq
      · exact n.1 (.tail _ (List.mem_map.mpr ⟨q, hq, e⟩))
      · exact d (a, o) (.head _) q hq e.symm
    · intro e
      rcases List.mem_append.mp hq with hq | hq
      · exact n.2.1 (List.mem_map.mpr ⟨q, hq, e⟩)
      · exact d (b, p) (.tail _ (.head _)) q hq e.symm
  · rcases List.mem_cons.mp hq with rfl | hq
    · exact d (a, o) (.head _) r hr
    rcases List.mem_cons.mp hq with rfl | hq
    · exact d (b, p) (.tail _ (.head _)) r hr
    exact d q (.tail _ (.tail _ hq)) r hr
theorem St.there2 (F : St hb L h m ((a, o) :: (b, p) :: mu) Φ) : a ≠ L ∧ b ≠ L ∧ a ≠ b := by
  obtain ⟨f, ⟨R, N, d, c⟩, n⟩ := F
  rw [List.map_cons, List.nodup_cons, List.map_cons] at n
  exact ⟨(N (a, o) (by simp)).2.1, (N (b, p) (by simp)).2.1, fun e => n.1 (e ▸ .head _)⟩

theorem z_blockE {elt iter : Expr} {elts : List Expr} {kk : Nat} {tpos : Pos} {ifs : List Expr} {scope : Scope} {cl : List (Str × Addr)} {pos : Pos} {Q : Value → Shared → Prop} {use : Option (Value → Sem Unit)}
    {I X : Addr} {fp : List Addr} {n : Nat} {P : Nat → Array Value → Prop} {S : Nat → Heap → Prop} {M : Nat → Addr → Heap → Prop} {o₀ x₀ : Obj}
    (W : WalksT PP w A I fp [I, X] n P S M) (hst : S 0 h) (hob : ∀ i h, S i h → (∃ o, h.get? I = some o) ∧ ∃ o, h.get? X = some o)
    (F : St hb L h m ((I, o₀) :: (X, x₀) :: mu) Φ) (hfp : ∀ b ∈ fp, b = I ∨ b = X ∨ (∃ o, h.get? b = some o))
    (J : Nat → List Value → (Heap → Prop) → Prop) (hj : J 0 [] (fun _ => True)) (hcell : ∀ y ∈ scope.names, y.2 ≠ .cell) (hkind : scope.kind = .function)
    (step : ∀ C D i vals ys Φ₁ h₁ tk₁ mc o x T, i < n → P i vals → J i ys Φ₁ → ys.length ≤ i → h₁.IsTuple T vals → St (hideAll h [I, X]) C h₁ mc [(I, o), (D, listOf ys.toArray ys.length), (X, x)] Φ₁ →
      wpAny (model PP w) A (assign (.Tuple elts kk tpos) (compEnvC scope cl C env) (.ref T)) (fun _ s₂ =>
        wpAny (model PP w) A (testsOf ifs (compEnvC scope cl C env)) (fun ok s₃ =>
          if ok = true then wpAny (model PP w) A (eval elt (compEnvC scope cl C env)) (fun e s => ∃ h' tk' m' Φ', s = ⟨h', g, dr, tk', os⟩ ∧ St (hideAll h [I, X]) C h' m' [(I, o), (D, listOf ys.toArray ys.length), (X, x)] Φ' ∧ J (i + 1) (ys ++ [e]) Φ') NoE s₃
          else ∃ h' tk' m' Φ', s₃ = ⟨h', g, dr, tk', os⟩ ∧ St (hideAll h [I, X]) C h' m' [(I, o), (D, listOf ys.toArray ys.length), (X, x)] Φ' ∧ J (i + 1) ys Φ') NoE s₂) NoE ⟨h₁, g, dr, tk₁, os⟩)
    (hn : n ≤ sizeLine)
    (done : ∀ C D h' tk' ys Φ' oC mm, J n ys Φ' → ys.length ≤ n → h'.Ns C mm → St hb L h' m ((C, oC) :: mu) (fun x => (Φ x ∧ Φ' x) ∧ x.get? D = some (listOf ys.toArray ys.length)) →
      compPost (model PP w) A NoE use Q (.ref D) C (.ok .next) ⟨h', g, dr, tk', os⟩) :
    BlockAt w A env cl scope (.ListComp elt [⟨.Tuple elts kk tpos, iter, ifs, 0⟩] scope pos) use Q (.ref I) ⟨h, g, dr, tk, os⟩ := by
  unfold BlockAt
  refine wpAny_newObj_type (wpAny_newFunctionEnv hcell (by intro y hy; simp at hy) (fun h₁ hns₁ hsb₁ => ?_) hkind)
  dsimp only at hns₁ hsb₁ ⊢
  generalize hH2 : h.push { cls := .type "list", dict := none, data := .seq ([] : List Value).toArray } = H2 at hns₁ hsb₁ ⊢
  have hC : H2.objs.size = h.objs.size + 1 := by rw [← hH2, Heap.size_push]
  have hDC : h.objs.size ≠ H2.objs.size := by rw [hC]; exact Nat.ne_of_lt (Nat.lt_succ_self _)
  have old : ∀ b o, h.get? b = some o → h₁.get? b = some o := fun b o e => hsb₁.extBut b o (by rw [hC]; exact Nat.ne_of_lt (Nat.lt_succ_of_lt (Heap.lt_size e))) (Heap.get?_push_of_some _ (hH2 ▸ Heap.get?_push_of_some _ e))
  have hacc : h₁.get? h.objs.size = some (listOf ([] : List Value).toArray ([] : List Value).length) := hsb₁.extBut _ _ hDC (Heap.get?_push_of_some _ (hH2 ▸ Heap.get?_push_size _ rfl))
  have hst₁ : S 0 h₁ := W.frame _ _ _ hst fun b _ o e => old b o e
  have hnodup := F.nd
  have zI := F.get (.head _)
  have zX := F.get (.tail _ (.head _))
  rw [List.map_cons, List.nodup_cons, List.map_cons, List.nodup_cons] at hnodup
  have hIX : I ≠ X := fun e => hnodup.1 (e ▸ .head _)
  have G₀ : St (hideAll h [I, X]) H2.objs.size h₁ (fun x => ([] : List (Str × Value)).reverse.lookup x) [(I, o₀), (h.objs.size, listOf ([] : List Value).toArray ([] : List Value).length), (X, x₀)] (fun _ => True) := by
    refine ⟨⟨hns₁, fun b o e => old b o (of_hideAll _ e), by rw [hideAll_size, hC]; exact Nat.le_succ _⟩, ⟨[], fun p hp => ?_, (fun _ _ _ hq => by cases hq), fun _ _ => trivial⟩, ?_⟩
    · rw [List.append_nil] at hp
      have lt : ∀ {b : Addr} {o : Obj}, h.get? b = some o → b ≠ H2.objs.size := fun e => by rw [hC]; exact Nat.ne_of_lt (Nat.lt_succ_of_lt (Heap.lt_size e))
      rcases List.mem_cons.mp hp with rfl | hp
      · exact ⟨old _ _ zI, lt zI, hideAll_none _ (.head _)⟩
      · rcases List.mem_cons.mp hp with rfl | hp
        · refine ⟨hacc, hDC, ?_⟩
          cases q : (hideAll h [I, X]).get? h.objs.size with
          | none => rfl
          | some x => exact absurd (Heap.lt_size (of_hideAll _ q)) (Nat.lt_irrefl _)
        · rw [List.mem_singleton.mp hp]
          exact ⟨old _ _ zX, lt zX, hideAll_none _ (.tail _ (.head _))⟩
    · have ltI := Heap.lt_size zI; have ltX := Heap.lt_size zX
      simp only [List.map_cons, List.map_nil, List.nodup_cons, List.mem_cons, List.not_mem_nil, or_false, not_false_eq_true, List.nodup_nil, and_true, not_or]
      exact ⟨⟨Nat.ne_of_lt ltI, hIX⟩, Nat.ne_of_gt ltX⟩
  have loop : ∀ tk₂, codeAny (model PP w) A (.compLoop (.ListComp elt [⟨.Tuple elts kk tpos, iter, ifs, 0⟩] scope pos) 0 (.ref I) (.ref h.objs.size) (compEnvC scope cl H2.objs.size env))
        (compPost (model PP w) A NoE use Q (.ref h.objs.size) H2.objs.size) ⟨h₁, g, dr, tk₂, os⟩ := by
    intro tk₂
    refine compLoop_gen (fun k s' => ∃ h' tk' mc ys Φ' i o x, s' = ⟨h', g, dr, tk', os⟩ ∧ S i h' ∧ St (hideAll h [I, X]) H2.objs.size h' mc [(I, o), (h.objs.size, listOf ys.toArray ys.length), (X, x)] Φ' ∧ J i ys Φ' ∧ i ≤ n ∧ ys.length ≤ i ∧ k = n + 1 - i) ?_ (n + 1)
      ⟨h₁, tk₂, _, [], _, 0, o₀, x₀, rfl, hst₁, G₀, hj, Nat.zero_le _, Nat.le_refl _, rfl⟩
    rintro k s' ⟨h', tk', mc, ys, Φ', i, o, x, rfl, hst', G, hJ, hi, hys, rfl⟩
    have pm : ∀ {o1 o2 o3 : Obj}, [(I, o1), (X, o3), (h.objs.size, o2)].Perm [(I, o1), (h.objs.size, o2), (X, o3)] := fun {o1 o2 o3} => List.Perm.cons _ (List.Perm.swap _ _ _)
    by_cases hlt : i < n
    · refine W.item i _ _ _ hlt hst' fun T vals h₂ tk₂ hP hTs hT hM hk₂ => ?_
      refine W.go elts kk tpos i T _ _ _ hM fun h₃ hst₃ hk₃ => ?_
      have hT₃ : h₃.IsTuple T vals := by
        obtain ⟨oT, e1, r⟩ := hT
        exact ⟨oT, hk₃ _ _ (W.apart i T h₂ hM) e1, r⟩
      obtain ⟨⟨o₁, ho₁⟩, ⟨x₁, hx₁⟩⟩ := hob _ _ hst₃
      have k23 : But2 I X h' h₃ := fun c y h1 h2 e => hk₃ _ _ (by simp [h1, h2]) (hk₂ _ _ (by simp [h1, h2]) e)
      have G₂ := ((G.perm pm).upd2 k23 ho₁ hx₁).perm (pm (o1 := o₁) (o2 := _) (o3 := x₁)).symm
      have frm : ∀ h₅ : Heap, ∀ {ys₅ : List Value} {m₅ Φ₅}, St (hideAll h [I, X]) H2.objs.size h₅ m₅ [(I, o₁), (h.objs.size, listOf ys₅.toArray ys₅.length), (X, x₁)] Φ₅ → S (i + 1) h₅ := fun h₅ ys₅ m₅ Φ₅ G₅ => by
        refine W.frame _ _ _ hst₃ fun b hbf y e => ?_
        by_cases hbI : b = I
        · subst hbI; rw [ho₁] at e; cases e; exact G₅.get (.head _)
        by_cases hbX : b = X
        · subst hbX; rw [hx₁] at e; cases e; exact G₅.get (.tail _ (.tail _ (.head _)))
        rcases hfp b hbf with rfl | rfl | ⟨y', hy'⟩
        · exact absurd rfl hbI
        · exact absurd rfl hbX
        · have e0 := hideAll_get [I, X] hy' (by simp [hbI, hbX])
          have e1 := G₂.ext _ _ e0
          rw [e] at e1; cases e1
          exact G₅.ext _ _ e0
      refine wpAny_mono (step _ _ i vals ys Φ' h₃ tk₂ mc o₁ x₁ T hlt hP hJ hys hT₃ G₂) (fun _ s₂ h₂' => wpAny_mono h₂' (fun ok s₃ h₃ => ?_) fun _ _ e => e.elim) fun _ _ e => e.elim
      cases ok with
      | true =>
        simp only [if_true] at h₃ ⊢
        refine wpAny_mono h₃ (fun e s₄ h₄ => ?_) fun _ _ e => e.elim
        obtain ⟨h5, tk5, m5, Φ5, rfl, G5, hJ5⟩ := h₄
        have G6 : St (hideAll h [I, X]) H2.objs.size h5 m5 [(h.objs.size, listOf ys.toArray ys.length), (I, o₁), (X, x₁)] Φ5 := G5.perm (List.Perm.swap _ _ _)
        refine append_at (G6.get (.head _)) (fun h' hs ho' => ?_) (by rw [List.size_toArray]; omega)
        have G7 := G6.upd0 (h' := h') hs.extBut (by rw [ho', listOf_push])
        have G8 := G7.perm (List.Perm.swap _ _ _)
        exact ⟨n + 1 - (i + 1), by omega, h', _, m5, ys ++ [e], Φ5, i + 1, o₁, x₁, rfl, frm _ G8, G8, hJ5, hlt, by simp; exact hys, rfl⟩
      | false =>
        simp only [Bool.false_eq_true, if_false] at h₃ ⊢
        obtain ⟨h5, tk5, m5, Φ5, rfl, G5, hJ5⟩ := h₃
        exact ⟨n + 1 - (i + 1), by omega, h5, tk5, m5, ys, Φ5, i + 1, o₁, x₁, rfl, frm _ G5, G5, hJ5, hlt, by omega, rfl⟩
    · have hin : i = n := by omega
      subst hin
      refine W.done _ _ _ hst' fun h₂ tk₂ hk₂ => ?_
      have F' : St hb L h m ((I, o₀) :: ([(X, x₀)] ++ mu)) Φ := F
      obtain ⟨oC, G₃⟩ := F'.leave (ex' := [(X, x)]) G rfl (by rw [hC]; exact Nat.le_succ _)
      have k2 : But2 I X h' h₂ := fun c y h1 h2 e => hk₂ _ _ (by simp [h1, h2]) e
      have G₃' : St hb L h' m ((I, o) :: (X, x) :: (H2.objs.size, oC) :: mu) (fun x => (Φ x ∧ Φ' x) ∧ x.get? h.objs.size = some (listOf ys.toArray ys.length)) := G₃.perm (List.Perm.cons _ (List.Perm.swap _ _ _))
      have zC : I ≠ H2.objs.size := by rw [hC]; exact Nat.ne_of_lt (Nat.lt_succ_of_lt (Heap.lt_size zI))
      have zC2 : X ≠ H2.objs.size := by rw [hC]; exact Nat.ne_of_lt (Nat.lt_succ_of_lt (Heap.lt_size zX))
      have G₄ : St hb L h₂ m ((H2.objs.size, oC) :: mu) (fun x => (Φ x ∧ Φ' x) ∧ x.get? h.objs.size = some (listOf ys.toArray ys.length)) := by
        obtain ⟨f, ⟨R, N, d, c⟩, nd⟩ := G₃'
        rw [List.map_cons, List.nodup_cons, List.map_cons, List.nodup_cons] at nd
        have za := N (I, o) (by simp)
        have zb := N (X, x) (by simp)
        refine ⟨⟨ns_but2 f.ns k2 (Ne.symm za.2.1) (Ne.symm zb.2.1), fun q x e => k2 q x (fun e' => by have := za.2.2; rw [← e', e] at this; cases this) (fun e' => by have := zb.2.2; rw [← e', e] at this; cases this) (f.keep q x e), f.above⟩, ⟨R, fun q hq => ?_, fun q hq r hr => d q (.tail _ (.tail _ hq)) r hr, c⟩, nd.2.2⟩
        have y := N q (by rw [List.cons_append, List.cons_append]; exact .tail _ (.tail _ hq))
        refine ⟨k2 _ _ ?_ ?_ y.1, y.2⟩
        · intro e
          rcases List.mem_append.mp hq with hq | hq
          · exact nd.1 (.tail _ (List.mem_map.mpr ⟨q, hq, e⟩))
          · exact d (I, o) (.head _) q hq e.symm
        · intro e
          rcases List.mem_append.mp hq with hq | hq
          · exact nd.2.1 (List.mem_map.mpr ⟨q, hq, e⟩)
          · exact d (X, x) (.tail _ (.head _)) q hq e.symm
      exact done _ _ h₂ tk₂ ys Φ' oC mc hJ hys (ns_but2 G.fr.ns k2 (Ne.symm zC) (Ne.symm zC2)) G₄
  exact codeAny_compStart_list (loop _) (W.self 0 _ _ _ hst₁ (loop _))

theorem St.newL (F : St hb L h m mu Φ) (k : Ext h h') (l : Led) (hl : ∀ p ∈ l, h'.get? p.1 = some p.2 ∧ h.get? p.1 = none) (nd : (l.map (·.1)).Nodup) : St hb L h' m (l ++ mu) Φ := by
  obtain ⟨f, ⟨R, N, d, c⟩, n⟩ := F
  have old : ∀ {b : Addr} {o : Obj}, h.get? b = some o → ∀ p ∈ l, p.1 ≠ b := fun e p hp q => by have := (hl p hp).2; rw [q, e] at this; cases this
  obtain ⟨oL, es, ep, hL, _⟩ := f.ns
  refine ⟨f.keeps k, ⟨R, fun p hp => ?_, fun p hp q hq => ?_, c⟩, ?_⟩
  · rw [List.append_assoc] at hp
    rcases List.mem_append.mp hp with hp | hp
    · refine ⟨(hl p hp).1, old hL p hp, ?_⟩
      cases q : hb.get? p.1 with
      | none => rfl
      | some x => exact absurd rfl (old (f.keep _ _ q) p hp)
    · have y := N p hp
      exact ⟨k _ _ y.1, y.2⟩
  · rcases List.mem_append.mp hp with hp | hp
    · exact old (N q (List.mem_append_right _ hq)).1 p hp
    · exact d p hp q hq
  · rw [List.map_append, List.nodup_append]
    refine ⟨nd, n, fun x hx y hy e => ?_⟩
    obtain ⟨p, hp, rfl⟩ := List.mem_map.mp hx
    obtain ⟨q, hq, e2⟩ := List.mem_map.mp hy
    exact old (N q (List.mem_append_left _ hq)).1 p hp (e.trans e2.symm)

theorem z_lcEnum {elt iter : Expr} {elts : List Expr} {kk : Nat} {tpos : Pos} {ifs : List Expr} {scope : Scope} {cl : List (Str × Addr)} {pos : Pos} {Q : Value → Shared → Prop} {use : Option (Value → Sem Unit)}
    {l : Addr} {items : Array Value} (hA : A.handled = none) (hl : h.IsList l items) (F : St hb L h m mu Φ)
    (J : Nat → List Value → (Heap → Prop) → Prop) (hj : J 0 [] (fun _ => True)) (hn : items.size ≤ sizeLine)
    (step : ∀ hc C i v ys Φ₁ h₁ tk₁ mc it T t, (∀ b o, h.get? b = some o → hc.get? b = some o) → i < items.size → items[i]? = some v → J i ys Φ₁ → ys.length ≤ i → St hc C h₁ mc it Φ₁ → IsTup h₁ T #[.int i t, v] →
      wpAny (model PP w) A (assign (.Tuple elts kk tpos) (compEnvC scope cl C env) (.ref T)) (fun _ s₂ =>
        wpAny (model PP w) A (testsOf ifs (compEnvC scope cl C env)) (fun ok s₃ =>
          if ok = true then wpAny (model PP w) A (eval elt (compEnvC scope cl C env)) (fun e s => ∃ h' tk' m' Φ', s = ⟨h', g, dr, tk', os⟩ ∧ St hc C h' m' it Φ' ∧ J (i + 1) (ys ++ [e]) Φ') NoE s₃
          else ∃ h' tk' m' Φ', s₃ = ⟨h', g, dr, tk', os⟩ ∧ St hc C h' m' it Φ' ∧ J (i + 1) ys Φ') NoE s₂) NoE ⟨h₁, g, dr, tk₁, os⟩)
    (done : ∀ C D h' tk' ys Φ' oC mm, J items.size ys Φ' → ys.length ≤ items.size → h'.Ns C mm → St hb L h' m ((C, oC) :: mu) (fun x => (Φ x ∧ Φ' x) ∧ x.get? D = some (listOf ys.toArray ys.length)) →
      compPost (model PP w) A NoE use Q (.ref D) C (.ok .next) ⟨h', g, dr, tk', os⟩)
    (hcell : ∀ y ∈ scope.names, y.2 ≠ .cell := by decide) (hkind : scope.kind = .function := by rfl) :
    wpAny (model PP w) A (call (.type "enumerate") [.ref l]) (fun xv s₁ => wpAny (model PP w) A (pyIter xv) (BlockAt w A env cl scope (.ListComp elt [⟨.Tuple elts kk tpos, iter, ifs, 0⟩] scope pos) use Q) NoE s₁) NoE ⟨h, g, dr, tk, os⟩ := by
  obtain ⟨o, ho', hlc⟩ := id hl
  have hlt : l < h.objs.size := Heap.lt_size ho'
  refine call_enumerate_list hl fun h' hE hI hsz hk => ?_
  refine wpAny_pyIter_enum hE ?_
  obtain ⟨oi, hoi, hir⟩ := id hI
  have none_ge : ∀ b, h.objs.size ≤ b → h.get? b = none := fun b hb => Heap.get?_none_of_le hb
  have F1 := F.newL hk [(h.objs.size + 1, _), (h.objs.size, oi)] (by
    intro p hp
    rcases List.mem_cons.mp hp with rfl | hp
    · exact ⟨hE, none_ge _ (Nat.le_succ _)⟩
    · rw [List.mem_singleton.mp hp]; exact ⟨hoi, none_ge _ (Nat.le_refl _)⟩) (by simp)
  refine z_blockE (WalksT.enumerate hA (h.objs.size + 1) h.objs.size l (Nat.succ_ne_self _) (Nat.ne_of_lt (Nat.lt_succ_of_lt hlt)) (Nat.ne_of_lt hlt) items) ⟨⟨_, hE⟩, hI, o, hk _ _ ho', hlc⟩ ?_ F1 ?_ J hj hcell hkind ?_ hn done
  · rintro i h ⟨⟨old, he⟩, ⟨o, ho, _⟩, _⟩
    exact ⟨⟨_, he⟩, o, ho⟩
  · intro b hb
    rcases List.mem_cons.mp hb with e | hb
    · exact .inl e
    rcases List.mem_cons.mp hb with e | hb
    · exact .inr (.inl e)
    · rw [List.mem_singleton.mp hb]; exact .inr (.inr ⟨o, hk _ _ ho'⟩)
  · rintro C D i vals ys Φ₁ h₁ tk₁ mc o x T hi ⟨t, v, hv, rfl⟩ hJ hys hT G
    refine step _ C i v ys Φ₁ h₁ tk₁ mc _ T t (fun b o e => ?_) hi hv hJ hys G hT
    have hb := Heap.lt_size e
    refine hideAll_get _ (hk _ _ e) ?_
    simp only [List.mem_cons, List.not_mem_nil, or_false, not_or]
    exact ⟨Nat.ne_of_lt (Nat.lt_succ_of_lt hb), Nat.ne_of_lt hb⟩
end
end Mine
namespace Mine
def P.name : P → Str
  | .leaf k _ => k
  | .node _ nm _ => nm
abbrev P.names (cs : List P) : List Str := cs.map P.name
abbrev P.yields (cs : List P) : List Str := (P.lvss cs).map (·.1)
mutual
def P.forms : P → List Str → List Str → List (List Str)
  | .leaf _ _, _, _ => []
  | .node _ _ cs, l, r => (l ++ P.names cs ++ r) :: P.formsR cs l r
def P.formsR : List P → List Str → List Str → List (List Str)
  | [], _, _ => []
  | c :: cs, l, r => P.formsR cs (l ++ [c.name]) r ++ c.forms l (P.yields cs ++ r)
end
theorem P.lvss_append : ∀ (xs ys : List P), P.lvss (xs ++ ys) = P.lvss xs ++ P.lvss ys
  | [], ys => rfl
  | x :: xs, ys => by rw [List.cons_append, P.lvss, P.lvss_append xs ys, P.lvss, List.append_assoc]
theorem P.formsR_append : ∀ (xs ys : List P) (l r : List Str), P.formsR (xs ++ ys) l r = P.formsR ys (l ++ P.names xs) r ++ P.formsR xs l (P.yields ys ++ r)
  | [], ys, l, r => by simp [P.formsR]
  | x :: xs, ys, l, r => by
    rw [List.cons_append, P.formsR, P.formsR_append xs ys, P.formsR]
    simp [P.yields, P.lvss_append, P.names]
mutual
theorem P.forms_len : ∀ (p : P) (l r : List Str), (p.forms l r).length = p.rules.length
  | .leaf _ _, l, r => rfl
  | .node _ _ cs, l, r => by simp [P.forms, P.rules, P.formsR_len cs]
theorem P.formsR_len : ∀ (cs : List P) (l r : List Str), (P.formsR cs l r).length = (P.ruless cs).length
  | [], l, r => rfl
  | c :: cs, l, r => by simp [P.formsR, P.ruless, P.formsR_len cs, P.forms_len c, Nat.add_comm]
end
abbrev tupD (ns : List Str) : PyData := .tuple (ns.map .str)
/-- the places of the inner nodes -/
def placesOf (row : List O) : List Int := (row.zipIdx.filter fun p => !p.1.isLeaf).map fun p => (p.2 : Int)
theorem placesOf_snoc (xs : List O) (x : O) : placesOf (xs ++ [x]) = placesOf xs ++ (if x.isLeaf = true then [] else [(xs.length : Int)]) := by
  unfold placesOf
  rw [List.zipIdx_append, List.filter_append, List.map_append]
  congr 1
  cases h : x.isLeaf <;> simp [List.zipIdx, h]
theorem lastInner : ∀ (n : Nat) (row : List O), row.length = n → (placesOf row = [] ∧ ∀ b ∈ row, b.isLeaf = true) ∨ ∃ A nd B init, row = A ++ nd :: B ∧ nd.isLeaf = false ∧ (∀ b ∈ B, b.isLeaf = true) ∧ placesOf row = init ++ [(A.length : Int)]
  | 0, row, h => by rw [List.eq_nil_of_length_eq_zero h]; exact .inl ⟨rfl, fun _ hb => nomatch hb⟩
  | n + 1, row, h => by
    rcases List.eq_nil_or_concat row with rfl | ⟨xs, x, rfl⟩
    · cases h
    rw [List.concat_eq_append] at h ⊢
    rw [List.length_append] at h
    have hx : xs.length = n := by simpa using h
    rw [placesOf_snoc]
    cases hl : x.isLeaf with
    | false => exact .inr ⟨xs, x, [], placesOf xs, by simp, hl, (fun _ hb => nomatch hb), by simp⟩
    | true =>
      rcases lastInner n xs hx with ⟨h1, h2⟩ | ⟨A, nd, B, init, rfl, h1, h2, h3⟩
      · refine .inl ⟨by simp [h1], fun b hb => ?_⟩
        rcases List.mem_append.mp hb with hb | hb
        · exact h2 b hb
        · rw [List.mem_singleton.mp hb]; exact hl
      · refine .inr ⟨A, nd, B ++ [x], init, by simp, h1, fun b hb => ?_, by simp [h3]⟩
        rcases List.mem_append.mp hb with hb | hb
        · exact h2 b hb
        · rw [List.mem_singleton.mp hb]; exact hl
theorem O.plains_append (xs ys : List O) : O.plains (xs ++ ys) = O.plains xs ++ O.plains ys := by simp [O.plains_eq]
theorem leaves_formsR : ∀ (B : List O) (l r : List Str), (∀ b ∈ B, b.isLeaf = true) → P.formsR (O.plains B) l r = [] ∧ P.yields (O.plains B) = P.names (O.plains B)
  | [], l, r, _ => ⟨rfl, rfl⟩
  | b :: B, l, r, h => by
    have hb := h b (.head _)
    cases b with
    | node => cases hb
    | leaf a d la ta td k t =>
      obtain ⟨h1, h2⟩ := leaves_formsR B (l ++ [k]) r fun c hc => h c (.tail _ hc)
      refine ⟨?_, ?_⟩
      · rw [O.plains, P.formsR, O.plain, P.forms, List.append_nil]; exact h1
      · simp only [O.plains, O.plain, P.lvss, P.lvs, P.names, P.yields, List.map_append, List.map_cons, P.name, List.map_nil, List.singleton_append] at h2 ⊢
        rw [h2]
/-- one step of the derivation -/
theorem deriv_step {A B : List O} {nd : O} (hB : ∀ b ∈ B, b.isLeaf = true) (hn : nd.isLeaf = false) :
    P.formsR (O.plains (A ++ nd :: B)) [] [] = P.names (O.plains (A ++ nd.cs ++ B)) :: P.formsR (O.plains (A ++ nd.cs ++ B)) [] [] := by
  cases nd with
  | leaf => cases hn
  | node a d l r nm cs =>
    have hL := fun l r => leaves_formsR B l r hB
    have hcs : (O.node a d l r nm cs).cs = cs := rfl
    have h2 := (hL [] []).2
    simp only [P.yields] at h2
    rw [hcs, List.append_assoc, O.plains_append, O.plains_append A (cs ++ B), O.plains_append cs B, P.formsR_append, P.formsR_append (O.plains A)]
    simp only [O.plains, P.formsR, (hL _ _).1, List.nil_append, O.plain, P.forms, P.formsR_append, P.yields, P.lvss, P.lvs, P.lvss_append, List.map_append, h2]
    simp
theorem P.sizes_append : ∀ (xs ys : List P), P.sizes (xs ++ ys) = P.sizes xs + P.sizes ys
  | [], ys => by simp [P.sizes]
  | x :: xs, ys => by simp only [List.cons_append, P.sizes, P.sizes_append xs ys]; omega
theorem deriv_size {A B : List O} {nd : O} (hn : nd.isLeaf = false) : P.sizes (O.plains (A ++ nd.cs ++ B)) ≤ P.sizes (O.plains (A ++ nd :: B)) := by
  cases nd with
  | leaf => cases hn
  | node a d l r nm cs =>
    have hcs : (O.node a d l r nm cs).cs = cs := rfl
    rw [hcs, O.plains_append, O.plains_append, O.plains_append, O.plains, P.sizes_append, P.sizes_append, P.sizes_append, P.sizes, O.plain, P.size]
    omega
theorem O.nm_plain (o : O) : o.plain.name = o.nm := by cases o <;> rfl
theorem O.names_plain (cs : List O) : P.names (O.plains cs) = cs.map O.nm := by
  rw [O.plains_eq, P.names, List.map_map]
  congr 1
  funext o; exact O.nm_plain o
section
variable {w : World} {A : Around} {h : Heap} {L : Addr} {g : Array GenState} {dr : Drawn} {tk : Nat} {os : OsState} {env : Env} {Q : Value → Shared → Prop} {E : Value → Shared → Prop}
theorem z_lastL {value slice : Expr} {l : Addr} {xs : List Value} {u : Tok} {y : Value} (hl : h.IsList l (xs ++ [y]).toArray) (k : Q y ⟨h, g, dr, tk, os⟩)
    (hs : subscripted slice false (.ref l) (.int (-1) u) = operate [.ref l, .int (-1) u] (getItem (.ref l) (.int (-1) u)) := by with_unfolding_all rfl) :
    wpAny (model PP w) A (subscriptTail value slice (.ref l) (.int (-1) u)) Q E ⟨h, g, dr, tk, os⟩ :=
  tail_any (let ⟨o, ho, hc, _⟩ := hl; ⟨o, ho, hc⟩) slot_list_getitem.lookup (wpAny_getItem_list_neg (s := ⟨h, g, dr, tk, os⟩) hl (by decide) (by simp; omega) (by decide) (by
    have e : (-1 + (((xs ++ [y]).toArray.size : Nat) : Int)).toNat = xs.length := by simp; omega
    rw [e]; simp) k) hs
end
theorem intsD {h : Heap} : ∀ {ps : List Value} {ns : List Int}, RDs h ps (ns.map .int) → ∀ h' : Heap, RDs h' ps (ns.map .int)
  | ps, [], r, h' => by have := r.unnil; subst this; exact RDs.nil
  | ps, n :: ns, r, h' => by
    obtain ⟨v, ws, rfl, a, b⟩ := RDs.uncons r
    obtain ⟨t, rfl⟩ := a.int
    exact RDs.cons RD.mkInt (intsD b h')
theorem ite_join {M : Model} {A : Around} {T1 T2 : Sem Value} {K : Value → Shared → Prop} {E : Value → Shared → Prop} {s : Shared} {b : Bool} (P : Value → Shared → Prop) (hk : ∀ v s', P v s' → K v s') (h : if b = true then wpAny M A T1 P E s else wpAny M A T2 P E s) :
    if b = true then wpAny M A T1 K E s else wpAny M A T2 K E s := by
  cases b with
  | true => exact wpAny_mono h hk fun _ _ e => e
  | false => exact wpAny_mono h hk fun _ _ e => e
def derivs (o : O) : List (List Str) := [o.nm] :: o.plain.forms [] []
theorem deriv_ok (w : World) (o : O) (hsz : o.plain.size ≤ 200) : Pur w 132 [.ref o.addr] 2 6 (fun h => o.At w h) (LR ((derivs o).map tupD)) := by
  refine' Pur.intro (binds := [(Str.ofString "tree", .ref o.addr)]) (d := 1) (u := 3) (by exact rfl) (by exact rfl) (fun _ _ => BindsTo.of_eq rfl) (locs rfl) rfl rfl rfl (by decide) ?_
  intro A s h₁ tk C T hp F
  have hdl : (derivs o).length ≤ 201 := by
    have := P.rules_len o.plain
    simp only [derivs, List.length_cons, P.forms_len]; omega
  refine wpAny_execs_cons (wpAny_Assign_Name (List_ (spliced_more (z_ld F rfl (spliced_none (z_list F (sz_lt (by simp)) fun lw h' F => z_st F fun h' tk' F => ?_))))))
  refine wpAny_execs_cons (wpAny_Assign_Name (List_ (spliced_more (Tuple_ (spliced_more (Attribute_any_ (z_ld F rfl (a_name T F (hp.keeps F.ext) fun tn tk => spliced_none (z_tup F (sz_lt (by simp)) fun lt h' F => spliced_none (z_listM F (sz_lt (by simp)) fun lf h' F => z_st F fun h' tk' F => ?_))))))))))
  refine wpAny_execs_cons (wpAny_Assign_Name (IfExp_ (isTrue_not (isTrue_plain (MethodCall_ (z_ld F rfl (z_isleaf C T F (hp.keeps F.ext) fun h' tk' F => wpAny_truthy_bool ?_)))))))
  refine ite_join (fun v s' => ∃ m lp ps h'' tk'', v = .ref lp ∧ s' = ⟨h'', s.gens, s.drawn, tk'', s.os⟩ ∧ (∀ h, RDs h ps ((placesOf [o]).map .int)) ∧ m "row" = some (.ref lw) ∧ m "forms" = some (.ref lf) ∧
    St s.heap s.heap.objs.size h'' m [(lf, listOf #[.ref lt] 0)] (fun h => ((True ∧ h.get? lw = some (listOf (refs [o]).toArray 0)) ∧ h.get? lt = some (tupOf #[.str o.nm tn])) ∧ h.get? lp = some (listOf ps.toArray 0))) ?_ ?_
  rotate_left
  · cases hl : o.isLeaf with
    | true => exact z_f rfl (List_ (spliced_none (z_list F (sz_lt (by simp)) fun lp h' F => ⟨_, lp, [], h', _, rfl, rfl, fun h => by simpa [placesOf, hl] using RDs.nil, rfl, rfl, F⟩)))
    | false => exact z_t rfl (List_ (spliced_more (z_int fun t0 tk => spliced_none (z_list F (sz_lt (by simp)) fun lp h' F => ⟨_, lp, [.int 0 t0], h', _, rfl, rfl, fun h => by simpa [placesOf, hl] using RDs.cons RD.mkInt RDs.nil, rfl, rfl, F⟩))))
  rintro v s' ⟨m, lp, ps, h', tk', rfl, rfl, hps, hm1, hm2, F⟩
  refine z_st F fun h' tk' F => ?_
  refine wpAny_execs_cons (z_while (fun n m mu Φ => ∃ row lrow nrow lp ps fs dforms n1, mu = [(lf, listOf (List.toArray fs) n1)] ∧ m "row" = some (.ref lrow) ∧ m "forms" = some (.ref lf) ∧ m "places" = some (.ref lp) ∧
      (∀ h, Φ h → h.get? lrow = some (listOf (refs row).toArray nrow) ∧ (∃ np, h.get? lp = some (listOf (List.toArray ps) np)) ∧ RDs h fs (dforms.map tupD)) ∧ (∀ h, RDs h ps ((placesOf row).map .int)) ∧
      dforms ++ P.formsR (O.plains row) [] [] = derivs o ∧ (P.formsR (O.plains row) [] []).length = n ∧ (∀ p ∈ row, O.At w s.heap p) ∧ P.sizes (O.plains row) ≤ 200) (o.plain.forms [] []).length F
    ⟨[o], lw, 0, lp, ps, [.ref lt], [[o.nm]], 0, rfl, hm1, hm2, rfl, fun h hh => ⟨hh.1.1.2, ⟨0, hh.2⟩, RDs.cons (RD.mkTup hh.1.2 (RDs.cons RD.mkStr RDs.nil)) RDs.nil⟩, hps, by simp [derivs, O.plains, P.formsR, P.yields, P.lvss], by simp [O.plains, P.formsR, P.yields, P.lvss], by simpa using hp, by simpa [O.plains, P.sizes] using hsz⟩ ?_)
  rintro n m₁ mu₁ Φ₁ h₁ tk₁ ⟨row, lrow, nrow, lp, ps, fs, dforms, n1, rfl, hm1, hm2, hm3, hΦ, hps, heq, hn, hat, hsz2⟩ F
  have hlr : row.length ≤ 200 := by have := P.len_le (O.plains row); rw [O.plains_eq, List.length_map] at this; rw [O.plains_eq] at hsz2; omega
  have hlf : fs.length ≤ 201 := by
    have h1 := (hΦ _ F.now).2.2.len
    rw [List.length_map] at h1
    rw [← heq, List.length_append] at hdl
    omega
  obtain ⟨np, hnp⟩ := (hΦ _ F.now).2.1
  refine wpAny_isTrue_Compare1 (z_ld F hm3 (List_ (spliced_none (z_list F (sz_lt (by simp)) fun le h' F => ?_))))
  obtain ⟨np, hnp⟩ := (hΦ _ F.now.1).2.1
  refine z_neNil (by have := C.un; omega) ⟨_, hnp, rfl, _, rfl⟩ ⟨_, F.now.2, rfl, _, rfl⟩ ?_
  have hpl := (hps h').len
  rw [List.length_map] at hpl
  rcases lastInner _ row rfl with ⟨hno, hlv⟩ | ⟨A', nd, B, init, rfl, hnl, hB, hpo⟩
  · rw [hno] at hpl
    have : ps = [] := List.eq_nil_of_length_eq_zero hpl
    subst this
    refine z_f (by simp) ?_
    have hz := leaves_formsR row [] [] hlv
    rw [hz.1, List.append_nil] at heq
    subst heq
    have F := F.freeze
    refine wpAny_execs_cons (wpAny_Return_some (z_ld F hm2 ?_))
    exact ⟨_, _, _, _, _, _, rfl, F, fun R hR => ⟨lf, fs, n1, rfl, fun h hh => ⟨(hR h hh).2, (hΦ h (hR h hh).1.1).2.2⟩⟩⟩
  · have hstep := deriv_step (A := A') hB hnl
    have hdsz := deriv_size (A := A') (B := B) hnl
    have hps' := hps h'
    rw [hpo, List.map_append] at hps'
    obtain ⟨ps', v, rfl⟩ : ∃ ps' v, ps = ps' ++ [v] := by
      rcases List.eq_nil_or_concat ps with rfl | ⟨ps', v, rfl⟩
      · rw [hpo] at hpl; simp at hpl
      · exact ⟨ps', v, by rw [List.concat_eq_append]⟩
    have hpl' : ps'.length = init.length := by rw [hpo] at hpl; simpa using hpl
    have hv : RD h' v (.int (A'.length : Int)) := hps'.at (i := ps'.length) (by simp) (by rw [hpl']; simp)
    obtain ⟨tv, rfl⟩ := hv.int
    have hndat : O.At w s.heap nd := hat nd (by simp)
    refine z_t (by simp) ?_
    refine wpAny_execs_cons (wpAny_Assign_Name (Subscript_ (z_ld F hm3 (wpAny_UnaryOp (z_int fun t tk => neg_int (z_lastL ⟨_, hnp, rfl, _, rfl⟩ (z_st F fun h' tk' F => ?_)))))))
    refine wpAny_execs_cons (wpAny_Assign_Name (wpAny_BinOp (wpAny_BinOp (Subscript_ (z_ld F hm1 (z_slice (wpAny_evalPart_none (wpAny_evalPart_some (z_ld F rfl (wpAny_evalPart_none ?_))))))))))
    simp only [List.length_append, List.length_cons] at hlr
    refine z_slT F ⟨_, (hΦ _ F.now.1).1, rfl, _, rfl⟩ .none (.int _ _) .none (by decide) (sz_lt (by simp; omega)) fun l1 h' F => ?_
    rw [slice_up rfl] at F
    refine Attribute_any_ (Subscript_ (z_ld F hm1 (z_ld F rfl (z_itemL ⟨_, (hΦ _ F.now.1.1).1, rfl, _, rfl⟩ (by omega) (fit63 (sz_lt (by omega))) (y := .ref nd.addr) (by simp) (a_kids0 T F hndat F.ext fun lc nc tk' hlc => ?_)))))
    have hckl : (O.plains nd.cs).length ≤ P.sizes (O.plains nd.cs) := P.len_le _
    have hdz : P.sizes (O.plains (A' ++ nd.cs ++ B)) ≤ 200 := Nat.le_trans hdsz hsz2
    have hlen3 : (A' ++ nd.cs ++ B).length ≤ 200 := by
      have := P.len_le (O.plains (A' ++ nd.cs ++ B)); rw [O.plains_eq, List.length_map] at this; rw [O.plains_eq] at hdz; omega
    simp only [List.length_append] at hlen3
    refine z_addL (xs := (refs (A' ++ nd :: B)).take A'.length) (ys := refs nd.cs) F ⟨_, F.now.2, rfl, _, rfl⟩ ⟨_, hlc _ F.ext, rfl, _, rfl⟩ (sz_lt (by simp; omega)) fun l2 h' F => ?_
    refine Subscript_ (z_ld F hm1 (z_slice (wpAny_evalPart_some (wpAny_BinOp (z_ld F rfl (z_int fun t1 tk => z_add fun t2 tk => wpAny_evalPart_none (wpAny_evalPart_none ?_)))))))
    refine z_slT F ⟨_, (hΦ _ F.now.1.1.1).1, rfl, _, rfl⟩ (.int _ _) .none .none (by decide) (sz_lt (by simp; omega)) fun l3 h' F => ?_
    rw [slice_fr (b := A'.length + 1) (by omega)] at F
    refine z_addL F ⟨_, F.now.1.2, rfl, _, rfl⟩ ⟨_, F.now.2, rfl, _, rfl⟩ (sz_lt (by simp; omega)) fun l4 h' F => z_st F fun h' tk' F => ?_
    have erow : (refs (A' ++ nd :: B)).take A'.length ++ refs nd.cs ++ (refs (A' ++ nd :: B)).drop (A'.length + 1) = refs (A' ++ nd.cs ++ B) := by
      have e1 : refs (A' ++ nd :: B) = refs A' ++ .ref nd.addr :: refs B := by simp [refs]
      have e2 : A'.length = (refs A').length := by simp
      rw [e1, e2, List.take_left]
      have e3 : (refs A' ++ .ref nd.addr :: refs B).drop ((refs A').length + 1) = refs B := by
        rw [List.drop_append]; simp
      rw [e3]; simp [refs]
    rw [erow] at F
    generalize hrow : A' ++ nd.cs ++ B = row' at *
    have hat' : ∀ p ∈ row', O.At w s.heap p := by
      rw [← hrow]
      intro p hp
      rcases List.mem_append.mp hp with hp | hp
      · rcases List.mem_append.mp hp with hp | hp
        · exact hat p (by simp [hp])
        · exact hndat.kids p hp
      · exact hat p (by simp [hp])
    have hrl : row'.length ≤ 200 := by rw [← hrow]; simp only [List.length_append]; omega
    have F := F.imp (Ψ := fun h => Φ₁ h ∧ h.get? l4 = some (listOf (refs row').toArray 0)) fun h hh => ⟨hh.1.1.1.1.1, hh.2⟩
    refine wpAny_execs_cons (wpAny_Expr (MethodCall_ (z_ld F hm2 (z_mapp (F.get (.head _)) (z_cb1 (spliced_more (Call_ (z_bn T F (by exact rfl) (v := .type "tuple") (by boot_fast) (by decide) (z_cwT (spliced_more (z_lc (z_ld F rfl ?_))))))))))))
    refine z_lcL (items := (refs row').toArray) C.hd ⟨_, F.now.2, rfl, _, rfl⟩ F (fun i ys Φ => ∀ h', RDs h' ys (((row'.take i).map O.nm).map .str)) (fun h' => RDs.nil) (sz_lt (by simp; omega)) ?_ ?_
    · intro hc C' i v ys Φ₁ h₁ tk₁ mc it hk hi hv hJ hys G
      obtain ⟨c, hcc, rfl⟩ := refs_at hv
      have hatc := hat' c (mem_at hcc)
      have kc : Ext s.heap hc := fun b o e => hk b o (F.ext b o e)
      have T' : Tp w hc := T.keeps kc
      refine y_as G fun h' tk' G => z_tests0 (z_t rfl (Attribute_any_ (y_ld G rfl (a_name T' G (hatc.keeps (kc.trans G.ext)) fun t tk => ⟨_, _, _, _, rfl, G, fun h => ?_⟩))))
      rw [take_snoc hcc, List.map_append, List.map_append]
      exact RDs.append (hJ h) (RDs.cons RD.mkStr RDs.nil)
    intro C' D h' tk' ys Φ' oC mm hJ hys hns G
    refine post_none hns G fun h'' F => ?_
    rw [refs_size, List.take_length] at hJ
    rw [refs_size] at hys
    refine spliced_none (z_tupleOf F ⟨_, F.now.2, rfl, _, rfl⟩ (sz_lt (by omega)) fun tt h' F => spliced_none (z_app F (sz_lt (by omega)) fun h' F => ?_))
    have F := F.imp (Ψ := fun h => (Φ₁ h ∧ h.get? l4 = some (listOf (refs row').toArray 0)) ∧ h.get? tt = some (tupOf ys.toArray)) fun h hh => ⟨hh.1.1.1, hh.2⟩
    refine wpAny_execs_cons (z_asLC (Call_ (z_bn T F (by exact rfl) (v := .type "enumerate") (by boot_fast) (by decide) (z_cwT (spliced_more (z_ld F rfl (spliced_none ?_)))))))
    refine z_lcEnum (items := (refs row').toArray) C.hd ⟨_, F.now.1.2, rfl, _, rfl⟩ F (fun i ys Φ => ∀ h', RDs h' ys ((placesOf (row'.take i)).map .int)) (fun h' => RDs.nil) (sz_lt (by simp; omega)) ?_ ?_
    · intro hc C' i v ys Φ₁ h₁ tk₁ mc it T₁ t₁ hk hi hv hJ hys G hT
      obtain ⟨c, hcc, rfl⟩ := refs_at hv
      have hatc := hat' c (mem_at hcc)
      have kc : Ext s.heap hc := fun b o e => hk b o (F.ext b o e)
      have T' : Tp w hc := T.keeps kc
      have hil : i < row'.length := by rw [refs_size] at hi; exact hi
      refine z_asTup C.hd G hT rfl rfl fun h' G => assignInOrder_cons (y_as G fun h' tk' G => assignInOrder_cons (y_as G fun h' tk' G => assignInOrder_nil ?_))
      refine z_tests1 (isTrue_not (isTrue_plain (MethodCall_ (y_ld G rfl (z_isleaf C T' G (hatc.keeps (kc.trans G.ext)) fun h' tk' G => wpAny_truthy_bool ?_)))))
      have htl : (row'.take i).length = i := by rw [List.length_take]; omega
      cases hl : c.isLeaf with
      | true =>
        refine z_f rfl ⟨_, _, _, _, rfl, G, fun h => ?_⟩
        rw [take_snoc hcc, placesOf_snoc, hl, if_pos rfl, List.append_nil]
        exact hJ h
      | false =>
        refine z_t rfl (y_ld G rfl ⟨_, _, _, _, rfl, G, fun h => ?_⟩)
        rw [take_snoc hcc, placesOf_snoc, hl, if_neg (by decide), htl, List.map_append]
        exact RDs.append (hJ h) (RDs.cons RD.mkInt RDs.nil)
    intro C' D2 h' tk' ys2 Φ2 oC mm hJ2 hys2 hns G
    rw [refs_size, List.take_length] at hJ2
    refine post_some hns G fun h'' tk' F => ?_
    refine wpAny_execs_nil ?_
    refine ⟨_, ?_, _, _, _, _, _, rfl, F, row', l4, 0, D2, ys2, _, dforms ++ [P.names (O.plains row')], _, rfl, rfl, hm2, rfl, fun h hh => ⟨hh.1.1.1.2, ⟨_, hh.2⟩, ?_⟩, hJ2, ?_, rfl, hat', hdz⟩
    · rw [hstep, List.length_cons] at hn; omega
    · rw [List.map_append]
      refine RDs.append (hΦ h hh.1.1.1.1).2.2 (RDs.cons (RD.mkTup hh.1.1.2 ?_) RDs.nil)
      rw [O.names_plain]; exact hJ h
    · rw [List.append_assoc, ← heq, hstep]; rfl
end Mine
namespace Mine
section
variable {w : World} {A : Around} {hb h h0 : Heap} {L x : Addr} {m : Str → Option Value} {mu : Led} {Φ : Heap → Prop} {g : Array GenState} {dr : Drawn} {tk : Nat} {os : OsState} {env : Env}
  {Q : Value → Shared → Prop} {E : Value → Shared → Prop}
/-- tuples joined, told below a condition B -/
theorem z_addTB {t b : Addr} {xs ys : List Value} {B : Heap → Prop} (hB : B h) (F : St hb L h m mu Φ) (ht : ∀ x, B x → Φ x → IsTup x t xs.toArray) (hb' : ∀ x, B x → Φ x → IsTup x b ys.toArray) (hsz : xs.length + ys.length ≤ sizeLine)
    (k : ∀ l h', St hb L h' m mu (fun x => Φ x ∧ (B x → IsTup x l (xs ++ ys).toArray)) → Q (.ref l) ⟨h', g, dr, tk, os⟩) : wpAny (model PP w) A (binaryOp .Add (.ref t) (.ref b)) Q E ⟨h, g, dr, tk, os⟩ := by
  obtain ⟨R, N, _, f⟩ := F.open
  refine add_tuples F.fr N (ht _ hB F.now) (hb' _ hB F.now) (fun e => ?_) (fun _ e => ?_) (fun _ _ h' F' N' => k _ h' ((f _ _ _ _ F' N' (Nat.le_refl _)).imp fun x hx => ⟨hx.1, fun _ => ⟨_, hx.2, rfl, 0, rfl⟩⟩)) hsz
  · subst e; exact k _ h (F.imp fun x hx => ⟨hx, fun hBx => hb' x hBx hx⟩)
  · subst e; rw [List.append_nil] at k; exact k _ h (F.imp fun x hx => ⟨hx, fun hBx => ht x hBx hx⟩)
end
def LRP (B : Heap → Prop) (ds : List PyData) (R : Led) (v : Value) : Prop := ∃ l xs n, v = .ref l ∧ ∀ h, Has h R → h.get? l = some (listOf (List.toArray xs) n) ∧ (B h → RDs h xs ds)
theorem RD.item1 {h : Heap} {v : Value} {c : P} (x : RD h v c.data) : ∃ a t0 t1 y, v = .ref a ∧ IsTup h a #[t0, .str c.name t1, y] := by
  cases c with
  | leaf k t => obtain ⟨a, t0, t1, t2, rfl, ht⟩ := RD.leaf x; exact ⟨a, _, _, _, rfl, ht⟩
  | node r nm cs => obtain ⟨a, t0, t1, l, rfl, ht, _⟩ := RD.node x; exact ⟨a, _, _, _, rfl, ht⟩
theorem strsD {h : Heap} : ∀ {ps : List Value} {ns : List Str}, RDs h ps (ns.map .str) → ∀ h' : Heap, RDs h' ps (ns.map .str)
  | ps, [], r, h' => by have := r.unnil; subst this; exact RDs.nil
  | ps, n :: ns, r, h' => by
    obtain ⟨v, ws, rfl, a, b⟩ := RDs.uncons r
    obtain ⟨t, rfl⟩ := a.str
    exact RDs.cons RD.mkStr (strsD b h')
/-- a tuple of texts: its items -/
theorem RD.strs {h : Heap} {v : Value} {ns : List Str} (x : RD h v (tupD ns)) : ∃ a vs, v = .ref a ∧ IsTup h a (List.toArray vs) ∧ RDs h vs (ns.map .str) := by
  obtain ⟨a, vs, n, o, rfl, e, hc, hd, r⟩ := x.tuple
  exact ⟨a, vs.toList, rfl, ⟨o, e, hc, n, by rw [hd, Array.toArray_toList]⟩, r⟩
theorem RD.strsAt {h : Heap} {a : Addr} {vs : List Value} {ns : List Str} (e : IsTup h a (List.toArray vs)) (r : ∀ h, RDs h vs (ns.map .str)) : RD h (.ref a) (tupD ns) := RDs.toTup e (r h)
theorem isTup_fun {h : Heap} {a : Addr} {xs ys : List Value} (x : IsTup h a xs.toArray) (y : IsTup h a ys.toArray) : xs = ys := by
  obtain ⟨o, e1, _, n, d1⟩ := x; obtain ⟨o', e2, _, n', d2⟩ := y
  rw [e1] at e2; cases e2; rw [d1] at d2; cases d2; rfl
theorem P.sizes_take_len (cs : List P) (i : Nat) : (cs.take i).length ≤ P.sizes (cs.take i) := P.len_le _
theorem P.sizes_split {cs : List P} {i : Nat} {c : P} (h : cs[i]? = some c) : P.sizes cs = P.sizes (cs.take i) + c.size + P.sizes (cs.drop (i + 1)) := by
  have e : cs = cs.take i ++ c :: cs.drop (i + 1) := by
    have hi := (List.getElem?_eq_some_iff.mp h).1
    have := (List.getElem?_eq_some_iff.mp h).2
    rw [← this, ← List.drop_eq_getElem_cons hi, List.take_append_drop]
  conv => lhs; rw [e]
  rw [P.sizes_append, P.sizes]; omega
theorem drop_at {α : Type} {cs : List α} {i : Nat} {c : α} (h : cs[i]? = some c) : cs.drop i = c :: cs.drop (i + 1) := by
  have hi := (List.getElem?_eq_some_iff.mp h).1
  have := (List.getElem?_eq_some_iff.mp h).2
  rw [← this, ← List.drop_eq_getElem_cons hi]

def TupsB (la ra : Addr) (lvs rvs : List Value) (h : Heap) : Prop := IsTup h la lvs.toArray ∧ IsTup h ra rvs.toArray
theorem forms_ok (w : World) : ∀ n (p : P) (v : Value) (la ra : Addr) (lvs rvs : List Value) (l r : List Str), p.ht < n → p.Ok → p.size ≤ 200 → l.length + p.size ≤ 400 → r.length + p.size ≤ 400 → (∀ h, RDs h lvs (l.map .str)) → (∀ h, RDs h rvs (r.map .str)) →
    Pur w 235 [v, .ref la, .ref ra] (n + 1) (3 * n + 3) (fun h => RD h v p.data ∧ TupsB la ra lvs rvs h) (LRP (TupsB la ra lvs rvs) ((p.forms l r).map tupD)) := by
  intro n
  induction n with
  | zero => intro p v la ra lvs rvs l r hn; exact absurd hn (Nat.not_lt_zero _)
  | succ n ih =>
    intro p v la ra lvs rvs l r hn hok hsz hll hrr hls hrs
    refine' Pur.intro (binds := [(Str.ofString "plain", v), (Str.ofString "left", .ref la), (Str.ofString "right", .ref ra)]) (d := n + 1) (u := 3 * n + 3) (by exact rfl) (by exact rfl) (fun _ _ => BindsTo.of_eq rfl) (locs rfl) rfl rfl rfl (by decide) ?_
    intro A s h₁ tk C T hp F
    obtain ⟨hpd, hlt, hrt⟩ := hp
    cases p with
    | leaf k t =>
      obtain ⟨a, t0, t1, t2, rfl, ht⟩ := RD.leaf hpd
      refine wpAny_execs_cons (wpAny_If (wpAny_isTrue_Compare1 (Subscript_ (z_ld F rfl (z_int fun t tk => z_itemT (ht.keeps F.ext) (by decide) (by decide) rfl rfl (z_int fun t tk => z_eqi ?_))))))
      refine wpAny_execs_cons (wpAny_Return_some (List_ (spliced_none (z_list F (by decide) fun l h' F => ?_))))
      exact ⟨_, _, _, _, _, _, rfl, F, fun R hR => ⟨l, [], 0, rfl, fun h hh => ⟨(hR h hh).2, fun _ => RDs.nil⟩⟩⟩
    | node rr nm cs =>
      obtain ⟨a, t0, t1, lc, rfl, ht, vs, n', o', hlo, hlc, hld, hr⟩ := RD.node hpd
      simp only [P.ht] at hn
      simp only [P.size] at hsz hll hrr
      have hlen := hr.len
      rw [P.datas_len, Array.length_toList] at hlen
      have hcl := P.len_le cs
      have hlvl := (hls s.heap).len
      have hrvl := (hrs s.heap).len
      rw [List.length_map] at hlvl hrvl
      have Bext : ∀ h, Ext s.heap h → TupsB la ra lvs rvs h := fun h e => ⟨hlt.keeps e, hrt.keeps e⟩
      refine wpAny_execs_cons (wpAny_If (wpAny_isTrue_Compare1 (Subscript_ (z_ld F rfl (z_int fun t tk => z_itemT (ht.keeps F.ext) (by decide) (by decide) rfl rfl (z_int fun t tk => z_eqi (z_f (by simpa using hok.1.1) (wpAny_execs_nil ?_))))))))
      refine wpAny_execs_cons (wpAny_Assign_Name (Call_ (z_bn T F (by exact rfl) (v := .type "tuple") (by boot_fast) (by decide) (z_cwT (spliced_more (z_lc (Subscript_ (z_ld F rfl (z_int fun t tk => z_itemT (ht.keeps F.ext) (by decide) (by decide) rfl rfl ?_)))))))))
      refine z_lcL (items := vs) C.hd ⟨o', F.ext _ _ hlo, hlc, _, hld⟩ F (fun i ys Φ => ∀ h', RDs h' ys ((P.names (cs.take i)).map .str)) (fun h' => RDs.nil) (sz_lt (by omega)) ?_ ?_
      · intro hc C' i v ys Φ₁ h₁ tk₁ mc it hk hi hv hJ hys G
        obtain ⟨c, hcc⟩ : ∃ c, cs[i]? = some c := ⟨cs[i]'(by omega), by simp⟩
        have hcv : RD s.heap v c.data := hr.at (i := i) (by simpa using hv) (by rw [P.datas_get, hcc]; rfl)
        have kc : Ext s.heap hc := fun b o e => hk b o (F.ext b o e)
        obtain ⟨a1, i0, it1, i2, rfl, hit⟩ := hcv.item1
        refine y_as G fun h' tk' G => z_tests0 (z_t rfl (Subscript_ (y_ld G rfl (z_int fun t tk => z_itemT (hit.keeps (kc.trans G.ext)) (by decide) (by decide) rfl rfl ⟨_, _, _, _, rfl, G, fun h => ?_⟩))))
        rw [take_snoc hcc, P.names, List.map_append, List.map_append]
        exact RDs.append (hJ h) (RDs.cons RD.mkStr RDs.nil)
      intro C' D h' tk' rs Φ' oC mm hJ hys hns G
      refine post_none hns G fun h'' F => ?_
      rw [hlen, List.take_length] at hJ
      rw [hlen] at hys
      have hrl := (hJ s.heap).len
      simp only [P.names, List.length_map] at hrl
      refine spliced_none (z_tupleOf F ⟨_, F.now.2, rfl, _, rfl⟩ (sz_lt (by omega)) fun tr h' F => z_st F fun h' tk' F => ?_)
      have F := F.imp (Ψ := fun h => h.get? tr = some (tupOf rs.toArray)) fun h hh => hh.2
      refine wpAny_execs_cons (z_swap2 (n1 := Str.ofString "forms") (n2 := Str.ofString "behind") rfl (Tuple_ (spliced_more (List_ (spliced_more (wpAny_BinOp (wpAny_BinOp (z_ld F rfl (z_ld F rfl ?_)))))))))
      refine z_addTB (B := TupsB la ra lvs rvs) (xs := lvs) (ys := rs) (Bext _ F.ext) F (fun x hx _ => hx.1) (fun x _ hx => ⟨_, hx, rfl, 0, rfl⟩) (sz_lt (by omega)) fun l1 h' F => z_ld F rfl ?_
      refine z_addTB (B := TupsB la ra lvs rvs) (ys := rvs) (Bext _ F.ext) F (fun x hB hx => hx.2 hB) (fun x hx _ => hx.2) (sz_lt (by simp; omega)) fun l2 h' F => spliced_none (z_list F (sz_lt (by simp)) fun l3 h' F => spliced_more (z_ld F rfl (spliced_none (z_tup F (sz_lt (by simp)) fun l4 h' F => ?_))))
      refine z_unpackT C.hd F ⟨_, F.now.2, rfl, _, rfl⟩ rfl fun h' F => assignInOrder_cons (z_bind F fun h' tk' F => assignInOrder_cons (z_bind F fun h' tk' F => assignInOrder_nil ?_))
      refine wpAny_execs_cons (wpAny_For (Call_ (z_bn T F (by exact rfl) (v := .type "reversed") (by boot_fast) (by decide) (z_cwT (spliced_more (Call_ (z_bn T F (by exact rfl) (v := .type "range") (by boot_fast) (by decide) (z_cwT (spliced_more (Call_ (z_bn T F (by exact rfl) (v := .builtin "len") (by boot_fast) (by decide) (z_cwB (spliced_more (Subscript_ (z_ld F rfl (z_int fun t tk => z_itemT (ht.keeps F.ext) (by decide) (by decide) rfl rfl ?_))))))))))))))))
      refine spliced_none (z_lenL ⟨o', F.ext _ _ hlo, hlc, _, hld⟩ (sz_lt (by omega)) fun tn tk => spliced_none (z_range F fun lrg h' tr1 tr2 tk F => spliced_none ?_))
      rw [hlen] at F
      refine z_forRevRange (n := cs.length) (Φ₀ := fun h => h.get? tr = some (tupOf rs.toArray)) (Φ := fun h => h.get? l3 = some (listOf #[.ref l2] 0) ∧ (TupsB la ra lvs rvs h → IsTup h l2 (lvs ++ rs ++ rvs).toArray)) C.hd F.now.2 (by omega)
        (fun i m mu Φ => mu = [] ∧ m "plain" = some (.ref a) ∧ m "left" = some (.ref la) ∧ m "row" = some (.ref tr) ∧ ∃ lf ws lb bs, m "forms" = some (.ref lf) ∧ m "behind" = some (.ref lb) ∧ (∀ h, RDs h bs ((P.yields (cs.drop (cs.length - i)) ++ r).map .str)) ∧
          ∀ h, Φ h → h.get? lf = some (listOf (List.toArray ws) 0) ∧ (TupsB la ra lvs rvs h → IsTup h lb (List.toArray bs) ∧ RDs h ws (((l ++ P.names cs ++ r) :: P.formsR (cs.drop (cs.length - i)) (l ++ P.names (cs.take (cs.length - i))) r).map tupD)))
        (F.imp fun h hh => ⟨hh.1.1.1.1.1, hh.1.1.2, hh.1.1.1.2⟩) ⟨rfl, rfl, rfl, rfl, l3, [.ref l2], ra, rvs, rfl, rfl, by simpa [P.yields, P.lvss] using hrs, fun h hh => ⟨hh.1, fun hB => ⟨hB.2, ?_⟩⟩⟩ ?_ ?_
      · rw [show cs.length - 0 = cs.length from rfl, List.drop_length, P.formsR]
        refine RDs.cons (RDs.toTup (hh.2 hB) ?_) RDs.nil
        rw [List.map_append, List.map_append]
        exact RDs.append (RDs.append (hls h) (hJ h)) (hrs h)
      · rintro i v m₁ mu₁ Φ₁ h₁ tk₁ it hi ⟨tv, rfl⟩ ⟨rfl, hm1, hm2, hm3, lf, ws, lb, bs, hm4, hm5, hbs, hΦ⟩ F
        obtain ⟨spot, hspot⟩ : ∃ spot, spot = cs.length - 1 - i := ⟨_, rfl⟩
        rw [← hspot]
        have hs1 : cs.length - i = spot + 1 := by omega
        have hs2 : cs.length - (i + 1) = spot := by omega
        rw [hs1] at hbs hΦ
        have hslt : spot < cs.length := by omega
        obtain ⟨c, hcc⟩ : ∃ c, cs[spot]? = some c := ⟨cs[spot]'hslt, by simp⟩
        obtain ⟨cv, hcv1⟩ : ∃ cv, vs[spot]? = some cv := ⟨vs[spot]'(by omega), by simp⟩
        have hcv : RD s.heap cv c.data := hr.at (i := spot) (by simpa using hcv1) (by rw [P.datas_get, hcc]; rfl)
        have hsp := P.sizes_split hcc
        have hst := P.sizes_take_len cs spot
        have htl : (cs.take spot).length = spot := by rw [List.length_take]; omega
        rw [htl] at hst
        have hyl : (P.yields (cs.drop (spot + 1))).length ≤ P.sizes (cs.drop (spot + 1)) := by rw [P.yields, List.length_map]; exact P.lvss_len _
        have hbl := (hbs s.heap).len
        simp only [List.length_map, List.length_append] at hbl hyl
        have hcpos : 1 ≤ c.size := by cases c <;> simp [P.size]
        have hdr : cs.drop spot = c :: cs.drop (spot + 1) := drop_at hcc
        have htk : cs.take (spot + 1) = cs.take spot ++ [c] := take_snoc hcc
        refine z_as F fun h' tk' F => ?_
        have hws := ((hΦ _ F.now.2).2 (Bext _ F.ext)).2.len
        simp only [List.length_map, List.length_cons, P.formsR_len] at hws
        have hrl2 := P.ruless_len (cs.drop (spot + 1))
        refine wpAny_execs_cons (wpAny_Assign_Name (wpAny_BinOp (z_ld F hm4 (Call_ (z_gl T F rfl (z_cw T (by exact rfl) (spliced_more (Subscript_ (Subscript_ (z_ld F hm1 (z_int fun t tk => z_itemT (ht.keeps F.ext) (by decide) (by decide) rfl rfl ?_)))))))))))
        refine z_ld F rfl (z_itemL ⟨o', F.ext _ _ hlo, hlc, _, hld⟩ (by omega) (fit63 (sz_lt (by omega))) (y := cv) (by simpa using hcv1) ?_)
        refine spliced_more (wpAny_BinOp (z_ld F hm2 (Subscript_ (z_ld F hm3 (z_slice (wpAny_evalPart_none (wpAny_evalPart_some (z_ld F rfl (wpAny_evalPart_none ?_)))))))))
        refine z_tupUpto (its := rs) F ⟨_, F.now.1, rfl, 0, rfl⟩ (by omega) (sz_lt (by omega)) fun lr1 h' F => ?_
        refine z_addTB (B := TupsB la ra lvs rvs) (xs := lvs) (ys := rs.take spot) (Bext _ F.ext) F (fun x hx _ => hx.1) (fun x _ hx => ⟨_, hx.2, rfl, 0, rfl⟩) (sz_lt (by rw [List.length_take]; omega)) fun ll h' F => ?_
        refine spliced_more (z_ld F hm5 (spliced_none ⟨T.keeps F.ext, ?_⟩))
        have hllv : ∀ h, RDs h (lvs ++ rs.take spot) ((l ++ P.names (cs.take spot)).map .str) := fun h => by
          rw [List.map_append]
          refine RDs.append (hls h) ?_
          have := RDs.take spot (hJ h)
          rwa [P.names, ← List.map_take, ← List.map_take] at this
        refine Pur.use (ih c cv ll lb (lvs ++ rs.take spot) bs (l ++ P.names (cs.take spot)) (P.yields (cs.drop (spot + 1)) ++ r) (by have := P.ht_lt hcc; omega) (P.ok_at hok.2 hcc) (by omega) (by simp only [List.length_append, List.length_map, htl]; omega) (by simp only [List.length_append, List.length_map]; omega) hllv hbs) C T F
          ⟨hcv.keeps F.ext, F.now.2 (Bext _ F.ext), ((hΦ _ F.now.1.1.2).2 (Bext _ F.ext)).1⟩ fun x h' tk' R hpost hadd => ?_
        obtain ⟨lx, xs, nx, rfl, hx⟩ := hpost
        have F := hadd _ hx
        have hBnow := Bext _ F.ext
        have hxl := ((F.now.2).2 ⟨F.now.1.2 hBnow, ((hΦ _ F.now.1.1.1.2).2 hBnow).1⟩).len
        simp only [List.length_map, P.forms_len] at hxl
        have hcr := P.rules_len c
        refine z_addL F ⟨_, (hΦ _ F.now.1.1.1.2).1, rfl, 0, rfl⟩ ⟨_, F.now.2.1, rfl, nx, rfl⟩ (sz_lt (by omega)) fun l2 h' F => z_st F fun h' tk' F => ?_
        refine wpAny_execs_cons (wpAny_Assign_Name (wpAny_BinOp (Call_ (z_bn T F (by exact rfl) (v := .type "tuple") (by boot_fast) (by decide) (z_cwT (spliced_more (z_lc (Call_ (z_gl T F rfl (z_cw T (by exact rfl) (spliced_more (Subscript_ (Subscript_ (z_ld F hm1 (z_int fun t tk => z_itemT (ht.keeps F.ext) (by decide) (by decide) rfl rfl ?_)))))))))))))))
        refine z_ld F rfl (z_itemL ⟨o', F.ext _ _ hlo, hlc, _, hld⟩ (by omega) (fit63 (sz_lt (by omega))) (y := cv) (by simpa using hcv1) (spliced_none ⟨T.keeps F.ext, ?_⟩))
        refine Pur.use (leaves_ok w n c cv (by have := P.ht_lt hcc; omega) (P.ok_at hok.2 hcc) (by omega)) C T F (hcv.keeps F.ext) fun x h' tk' R hpost hadd => ?_
        obtain ⟨ly, ys, ny, rfl, hy⟩ := hpost
        have F := hadd _ hy
        have hyl2 := F.now.2.2.len
        rw [List.length_map] at hyl2
        have hlvl2 := P.lvs_len c
        refine z_lcL (items := ys.toArray) C.hd ⟨_, F.now.2.1, rfl, _, rfl⟩ F (fun i us Φ => ∀ h', RDs h' us (((c.lvs.take i).map (·.1)).map .str)) (fun h' => RDs.nil) (sz_lt (by simp; omega)) ?_ ?_
        · intro hc C' i v us Φ₁ h₁ tk₁ mc it hk hi hv hJ hys G
          obtain ⟨p, hpp⟩ : ∃ p, c.lvs[i]? = some p := ⟨c.lvs[i]'(by simp at hi; omega), by simp⟩
          have hpv : RD h' v (pairD p) := F.now.2.2.at (i := i) (by simpa using hv) (by rw [List.getElem?_map, hpp]; rfl)
          obtain ⟨a1, us1, n1, o1, rfl, e1, e2, e3, hq⟩ := RD.tuple hpv
          obtain ⟨w0, r0, f0, q0, hq⟩ := hq.uncons
          obtain ⟨w1, r1, f1, q1, hq⟩ := hq.uncons
          have := hq.unnil; subst this; subst f1
          obtain ⟨s0, rfl⟩ := q0.str
          obtain ⟨s1, rfl⟩ := q1.str
          have hit : IsTup h' a1 #[.str p.1 s0, .str p.2 s1] := ⟨o1, e1, e2, n1, by rw [e3, ← Array.toArray_toList (xs := us1), f0]⟩
          refine z_asTup C.hd G (hit.keeps (Ext.trans hk G.ext)) rfl rfl fun h' G => assignInOrder_cons (y_as G fun h' tk' G => assignInOrder_cons (y_as G fun h' tk' G => assignInOrder_nil ?_))
          refine z_tests0 (z_t rfl (y_ld G rfl ⟨_, _, _, _, rfl, G, fun h => ?_⟩))
          rw [take_snoc hpp, List.map_append, List.map_append]
          exact RDs.append (hJ h) (RDs.cons RD.mkStr RDs.nil)
        intro C' D h' tk' us Φ' oC mm hJ2 hys2 hns G
        refine post_none hns G fun h'' F => ?_
        have e1 : ys.toArray.size = c.lvs.length := by simp; omega
        rw [e1, List.take_length] at hJ2
        rw [e1] at hys2
        refine spliced_none (z_tupleOf F ⟨_, F.now.2, rfl, _, rfl⟩ (sz_lt (by omega)) fun tt h' F => z_ld F hm5 ?_)
        have F := F.imp (Ψ := fun h => ((((((h.get? tr = some (tupOf rs.toArray) ∧ Φ₁ h) ∧ (TupsB la ra lvs rvs h → IsTup h ll (lvs ++ rs.take spot).toArray)) ∧ h.get? lx = some (listOf xs.toArray nx) ∧ (TupsB ll lb (lvs ++ rs.take spot) bs h → RDs h xs ((c.forms (l ++ P.names (cs.take spot)) (P.yields (cs.drop (spot + 1)) ++ r)).map tupD))) ∧ h.get? l2 = some (listOf (ws ++ xs).toArray 0))) ∧ h.get? tt = some (tupOf us.toArray))) fun h hh =>
          ⟨⟨⟨⟨⟨hh.1.1.1.1.1.1.1.1.1, hh.1.1.1.1.1.1.1.1.2⟩, hh.1.1.1.1.1.1.2⟩, hh.1.1.1.1.1.2⟩, hh.1.1.1.1.2⟩, hh.2⟩
        refine z_addTB (B := TupsB la ra lvs rvs) (xs := us) (ys := bs) (Bext _ F.ext) F (fun x _ hx => ⟨_, hx.2, rfl, 0, rfl⟩) (fun x hB hx => ((hΦ x hx.1.1.1.1.2).2 hB).1) (sz_lt (by omega)) fun lb' h' F => z_st F fun h' tk' F => wpAny_execs_nil ?_
        refine ⟨_, _, _, [], fun h => h.get? l2 = some (listOf (ws ++ xs).toArray 0) ∧ (TupsB la ra lvs rvs h → IsTup h lb' (us ++ bs).toArray ∧ RDs h (ws ++ xs) (((l ++ P.names cs ++ r) :: P.formsR (cs.drop spot) (l ++ P.names (cs.take spot)) r).map tupD)), rfl, F.imp fun h hh => ⟨hh.1.1.1.1.1.1, hh.1.1.2, fun hB => ⟨hh.2 hB, ?_⟩⟩, rfl, hm1, hm2, hm3, l2, ws ++ xs, lb', us ++ bs, rfl, rfl, ?_, fun h hh => ?_⟩
        · have q1 := (hΦ h hh.1.1.1.1.1.2).2 hB
          have q2 := hh.1.1.1.2.2 ⟨hh.1.1.1.1.2 hB, q1.1⟩
          have q := RDs.append q1.2 q2
          rw [htk] at q
          rw [hdr, P.formsR]
          simpa [P.names] using q
        · intro h
          rw [hs2, hdr]
          have q := RDs.append (hJ2 h) (hbs h)
          simpa [P.yields, P.lvss] using q
        · rw [hs2]; exact hh
      · rintro h' tk' m' mu' Φ' ⟨rfl, hm1, hm2, hm3, lf, ws, lb, bs, hm4, hm5, hbs, hΦ⟩ F
        refine wpAny_execs_cons (wpAny_Return_some (z_ld F hm4 ?_))
        refine ⟨_, _, _, _, _, _, rfl, F, fun R hR => ⟨lf, ws, 0, rfl, fun h hh => ⟨(hΦ h (hR h hh).2).1, fun hB => ?_⟩⟩⟩
        have := ((hΦ h (hR h hh).2).2 hB).2
        rw [Nat.sub_self] at this
        simpa [P.forms] using this
end Mine
namespace Mine
/-- a def with two names that its comprehensions see -/
theorem Pur.introC {w : World} {f : Addr} {args : List Value} {d u : Nat} {pre : Heap → Prop} {post : Led → Value → Prop}
    {name qual : Str} {params : Arguments} {body : List Stmt} {scope : Scope} {dV kV doc pm cdv ct oc : Value} {an od : Option Addr} {osl : Array (Option Value)} {binds : List (Str × Value)} (y₁ y₂ : Str)
    (ho : (Mine.hd.heap_39 w.params).lookup f = some ⟨oc, od, .func (fnOf name qual params body scope dV kV doc pm an cdv ct), osl⟩) (hcd : codeIn (Mine.hd.heap_39 w.params) cdv qual = true)
    (hbind : ∀ s, Tp w s.heap → BindsTo s (fnOf name qual params body scope dV kV doc pm an cdv ct) ⟨args, []⟩ binds)
    (hkind : (binds.all fun y => scope.names.lookup y.1 == some .local || scope.names.lookup y.1 == some .cell) = true) (hcf : ∀ n, cellsFrom n scope.names [] = [(y₁, n + 1), (y₂, n)]) (hne : y₁ ≠ y₂)
    (hco : scope.isCoroutine = false) (hgen : scope.isGenerator = false) (hk : scope.kind = .function)
    (h : ∀ A s h₁ tk o₁ o₂, Cx A d u → Tp w s.heap → pre s.heap → o₁.data = .cell (bindC (envOfC qual scope s.heap.objs.size f cdv).kindOf binds (fun _ => none) y₁) → o₂.data = .cell (bindC (envOfC qual scope s.heap.objs.size f cdv).kindOf binds (fun _ => none) y₂) →
      St s.heap s.heap.objs.size h₁ (bindL (envOfC qual scope s.heap.objs.size f cdv).kindOf binds fun _ => none) [(s.heap.objs.size + 1 + 1, o₁), (s.heap.objs.size + 1, o₂)] (fun _ => True) →
      wpAny (model PP w) A (execs body (envOfC qual scope s.heap.objs.size f cdv)) (fun fl s' => Done s.heap s post (match fl with | .ret v => v | _ => .none) s') NoE { s with heap := h₁, toks := tk }) :
    Pur w f args (d + 1) (u + 3) pre post := by
  intro A s Q C T hp k
  have C' : Cx (A.deeper (envOfC qual scope s.heap.objs.size f cdv)) d u :=
    ⟨C.hd, by have := C.dp; show A.depth + 1 + d < _; omega, by have := C.un; show A.units + 3 + u < _; omega⟩
  obtain ⟨mean, mg, mb, T'⟩ := T.T
  refine wpAny_call ?_
  refine codeAny_call_function (fd := fnOf name qual params body scope dV kV doc pm an cdv ct) (by have := C.dp; omega) (T.K _ _ ho) rfl hco hgen rfl (codeRec_of T.K hcd) (hbind s T _ _ _ _ ?_)
  refine wpAny_newFunctionEnv_cells hk (kindsX hkind _) fun env' he s' x => ?_
  subst he
  refine ⟨T'.nolimit.keeps x.toInCall.keep, codeAny_func ?_⟩
  obtain ⟨h₁, tk, rfl, _⟩ := x.done
  have hk₁ := x.toInCall.keep
  have hcf' := hcf (s.heap.objs.size + 1)
  obtain ⟨cells, NC, Y⟩ := Cl.news (h₀ := s.heap) (Nat.le_refl _) fun n c hm => ⟨x.cell n c (by
    have hm' : (n, c) ∈ cellsFrom (s.heap.objs.size + 1) scope.names [] := hm
    show (cellsFrom (s.heap.objs.size + 1) scope.names []).lookup n = some c
    rw [hcf'] at hm' ⊢
    rcases List.mem_cons.mp hm' with e | hm'
    · cases e; simp
    · cases List.mem_singleton.mp hm'
      have : (y₂ == y₁) = false := by simpa using fun e => hne (Eq.symm e)
      simp [List.lookup, this]), x.above n c hm⟩
  have Y' : CellsAre (bindC (envOfC qual scope s.heap.objs.size f cdv).kindOf binds fun _ => none) (cellsFrom (s.heap.objs.size + 1) scope.names []) cells := Y
  rw [hcf'] at Y'
  obtain ⟨o₁, o₂, rfl, d1, d2⟩ := Y'.two
  have F : St s.heap s.heap.objs.size h₁ (bindL (envOfC qual scope s.heap.objs.size f cdv).kindOf binds fun _ => none) [(s.heap.objs.size + 1 + 1, o₁), (s.heap.objs.size + 1, o₂)] (fun _ => True) :=
    ⟨⟨x.toInCall.ns, hk₁, Nat.le_refl _⟩, ⟨[], by rw [List.append_nil]; exact NC, (fun _ _ _ hq => nomatch hq), fun _ _ => trivial⟩, by simp⟩
  refine wpAny_mono (h _ s h₁ tk o₁ o₂ C' T hp d1 d2 F) (fun fl s' hl => ?_) (fun _ _ x => x.elim)
  obtain ⟨L', h', tk, m, mu, Φ, rfl, F, hΦ⟩ := hl
  obtain ⟨R, hR, hc⟩ := F.fresh
  exact k _ h' tk R F.ext hR (hΦ R hc)

section
variable {w : World} {A : Around} {hb h : Heap} {L : Addr} {m : Str → Option Value} {mu : Led} {Φ : Heap → Prop} {g : Array GenState} {dr : Drawn} {tk : Nat} {os : OsState} {env : Env}
  {x : Str} {pos px : Pos} {v : Value} {c : Addr} {o : Obj} {Q : Value → Shared → Prop} {QU : Unit → Shared → Prop} {E : Value → Shared → Prop}
theorem c_ld (ho : h.get? c = some o) (hd : o.data = .cell (some v)) (k : Q v ⟨h, g, dr, tk, os⟩) (hc : env.cells.lookup x = some c := by rfl) (hk : env.scope.kind = .function := by rfl) (hx : env.kindOf x = some .cell := by rfl) (hb : (x == ("__debug__" : Str)) = false := by decide) :
    wpAny (model PP w) A (eval (.Name x pos) env) Q E ⟨h, g, dr, tk, os⟩ := wpAny_Name (wpAny_loadName_cell (s := ⟨h, g, dr, tk, os⟩) hk hx hc ⟨o, ho, hd⟩ k) hb
theorem c_fr (ho : h.get? c = some o) (hd : o.data = .cell (some v)) (k : Q v ⟨h, g, dr, tk, os⟩) (hc : env.cells.lookup x = some c := by rfl) (hk : env.scope.kind = .function := by rfl) (hx : env.kindOf x = some .free := by rfl) (hb : (x == ("__debug__" : Str)) = false := by decide) (hn : (x == ("__classdict__" : Str)) = false := by decide) :
    wpAny (model PP w) A (eval (.Name x pos) env) Q E ⟨h, g, dr, tk, os⟩ := wpAny_Name (wpAny_loadName_free (s := ⟨h, g, dr, tk, os⟩) hk hx hc ⟨o, ho, hd⟩ k hn) hb
theorem c_st {v₀ : Option Value} (F : St hb L h m ((c, o) :: mu) Φ) (hd : o.data = .cell v₀) (k : ∀ h' o', o'.data = .cell (some v) → St hb L h' m ((c, o') :: mu) Φ → QU () ⟨h', g, dr, tk, os⟩) (hc : env.cells.lookup x = some c := by rfl) (hk : env.scope.kind = .function := by rfl) (hx : env.kindOf x = some .cell := by rfl) :
    wpAny (model PP w) A (storeName env x v) QU E ⟨h, g, dr, tk, os⟩ :=
  wpAny_storeName_cell (s := ⟨h, g, dr, tk, os⟩) hk hx hc ⟨o, F.get (.head _), hd⟩ fun h' ⟨o', ho', hd'⟩ hs => k h' o' hd' (F.upd0 hs.extBut ho')
theorem c_as {v₀ : Option Value} (F : St hb L h m ((c, o) :: mu) Φ) (hd : o.data = .cell v₀) (k : ∀ h' o', o'.data = .cell (some v) → St hb L h' m ((c, o') :: mu) Φ → QU () ⟨h', g, dr, tk, os⟩) (hc : env.cells.lookup x = some c := by rfl) (hk : env.scope.kind = .function := by rfl) (hx : env.kindOf x = some .cell := by rfl) :
    wpAny (model PP w) A (assign (.Name x px) env v) QU E ⟨h, g, dr, tk, os⟩ := wpAny_assign_Name (c_st F hd k hc hk hx)
theorem y_st (F : St hb env.locals h m mu Φ) (k : ∀ h' tk', St hb env.locals h' (fun y => if y = x then some v else m y) mu Φ → QU () ⟨h', g, dr, tk', os⟩) (hl : env.kindOf x = some .local := by rfl) (hp : (env.scope.kind == .class || (env.scope.kind == .module && env.locals != env.globals)) = false := by rfl) :
    wpAny (model PP w) A (storeName env x v) QU E ⟨h, g, dr, tk, os⟩ := wpAny_storeName_local hl F.fr.ns (fun h' hn hs => k h' _ (F.store hn hs)) hp
theorem y_bn (T : Tp w hb) (F : St hb L h m mu Φ) (e : nsIn (Mine.hd.heap_39 w.params) mainGlobals x = some none) (hv : bootBuiltins x = some v) (hn : x ≠ "__name__") (k : Q v ⟨h, g, dr, tk, os⟩) (hg : env.globals = mainGlobals := by rfl) (hbn : env.builtins = builtinsNs := by rfl) (hk : env.scope.kind = .function := by rfl) (hx : env.kindOf x = some .globalImplicit := by rfl) (hd : (x == ("__debug__" : Str)) = false := by decide) :
    wpAny (model PP w) A (eval (.Name x pos) env) Q E ⟨h, g, dr, tk, os⟩ := by
  obtain ⟨_, _, _, T'⟩ := T.T
  have G := topRead_of T'
  have hg1 := G.g.keeps F.fr.keep
  have hb1 := G.b.keeps F.fr.keep
  exact Name_function_global hk hx (loadGlobal_builtin (env := env) (by rw [hg]; exact hg1) (mg_none_of T.K G.g e) (by rw [hbn]; exact hb1) ((G.builtins x hn).trans hv) k) hd
end
end Mine
namespace Mine
theorem O.self_post (o : O) : o ∈ o.post := by cases o <;> simp [O.post]
theorem O.mem_posts {k : O} : ∀ {cs : List O}, k ∈ cs → k ∈ O.posts cs
  | c :: cs, h => by
    rw [O.posts]
    rcases List.mem_cons.mp h with rfl | h
    · exact List.mem_append_left _ (O.self_post _)
    · exact List.mem_append_right _ (O.mem_posts h)
mutual
theorem kids_post : ∀ (o : O) (i : Nat) (c : O), o.post[i]? = some c → ∀ k ∈ c.cs, k ∈ o.post.take i
  | .leaf _ _ _ _ _ _ _, i, c, h, k, hk => by
    rw [O.post] at h
    rw [List.mem_singleton.mp (mem_at h)] at hk
    cases hk
  | .node a d l r nm cs, i, c, h, k, hk => by
    rw [O.post] at h ⊢
    by_cases hi : i < (O.posts cs).length
    · rw [List.getElem?_append_left hi] at h
      rw [List.take_append_of_le_length (Nat.le_of_lt hi)]
      exact kids_posts cs i c h k hk
    · have hi' : (O.posts cs).length ≤ i := Nat.le_of_not_lt hi
      rw [List.getElem?_append_right hi'] at h
      have hc := List.mem_singleton.mp (mem_at h)
      subst hc
      rw [take_append, List.take_of_length_le hi']
      exact List.mem_append_left _ (O.mem_posts hk)
theorem kids_posts : ∀ (cs : List O) (i : Nat) (c : O), (O.posts cs)[i]? = some c → ∀ k ∈ c.cs, k ∈ (O.posts cs).take i
  | [], i, c, h, k, hk => by rw [O.posts] at h; simp at h
  | b :: cs, i, c, h, k, hk => by
    rw [O.posts] at h ⊢
    by_cases hi : i < b.post.length
    · rw [List.getElem?_append_left hi] at h
      rw [List.take_append_of_le_length (Nat.le_of_lt hi)]
      exact kids_post b i c h k hk
    · have hi' : b.post.length ≤ i := Nat.le_of_not_lt hi
      rw [List.getElem?_append_right hi'] at h
      rw [take_append, List.take_of_length_le hi']
      exact List.mem_append_right _ (kids_posts cs _ c h k hk)
end
section
variable {w : World} {A : Around} {hb h h0 : Heap} {L x : Addr} {m : Str → Option Value} {mu : Led} {Φ : Heap → Prop} {g : Array GenState} {dr : Drawn} {tk : Nat} {os : OsState} {env : Env}
  {Q : Value → Shared → Prop} {QB : Bool → Shared → Prop} {E : Value → Shared → Prop}
theorem O.At.obj {o : O} (x : o.At w h) : ∃ b, h.get? o.addr = some b ∧ b.cls ≠ Value.type "tuple" := by
  cases o with
  | leaf => rw [O.At] at x; exact ⟨_, x.1, by intro e; cases e⟩
  | node => rw [O.At] at x; exact ⟨_, x.1.1, by intro e; cases e⟩
theorem z_is {o p : O} (ho : o.At w h) (hp : p.At w h) (k : Q (.bool (decide (o.addr = p.addr))) ⟨h, g, dr, tk, os⟩) : wpAny (model PP w) A (compareOp .Is (.ref o.addr) (.ref p.addr)) Q E ⟨h, g, dr, tk, os⟩ := by
  by_cases e : o.addr = p.addr
  · rw [decide_eq_true e] at k
    rw [e]; exact wpAny_is_ref_self k
  · rw [decide_eq_false e] at k
    obtain ⟨b1, e1, c1⟩ := ho.obj
    obtain ⟨b2, e2, c2⟩ := hp.obj
    exact kto_is (s := ⟨h, g, dr, tk, os⟩) e1 e2 e c1 k
end
def sameAs (l : List O) (x : O) : List O := l.filter fun p => decide (p.addr = x.addr)
theorem sameAs_pos {l : List O} {x : O} (h : x ∈ l) : sameAs l x ≠ [] := by
  intro e
  have : x ∈ sameAs l x := List.mem_filter.mpr ⟨h, by simp⟩
  rw [e] at this; cases this
theorem sameAs_nil {l : List O} {x : O} (h : ∀ p ∈ l, p.addr ≠ x.addr) : sameAs l x = [] := by
  unfold sameAs
  rw [List.filter_eq_nil_iff]
  intro p hp; simpa using h p hp
theorem post_last (o : O) : ∃ init, o.post = init ++ [o] := by cases o with
  | leaf => exact ⟨[], rfl⟩
  | node a d l r nm cs => exact ⟨O.posts cs, by rw [O.post]⟩
section
variable {hb h : Heap} {L : Addr} {m : Str → Option Value} {mu it : Led} {Φ : Heap → Prop} {a b c : Addr × Obj}
theorem St.m2 (F : St hb L h m (it ++ a :: b :: mu) Φ) : St hb L h m (b :: (it ++ a :: mu)) Φ := F.perm (by
  have := List.perm_middle (a := b) (l₁ := it ++ [a]) (l₂ := mu)
  simpa using this.symm)
theorem St.um2 (F : St hb L h m (b :: (it ++ a :: mu)) Φ) : St hb L h m (it ++ a :: b :: mu) Φ := F.perm (by
  have := List.perm_middle (a := b) (l₁ := it ++ [a]) (l₂ := mu)
  simpa using this)
theorem St.m3 (F : St hb L h m (it ++ a :: b :: c :: mu) Φ) : St hb L h m (c :: (it ++ a :: b :: mu)) Φ := F.perm (by
  have := List.perm_middle (a := c) (l₁ := it ++ [a, b]) (l₂ := mu)
  simpa using this.symm)
theorem St.um3 (F : St hb L h m (c :: (it ++ a :: b :: mu)) Φ) : St hb L h m (it ++ a :: b :: c :: mu) Φ := F.perm (by
  have := List.perm_middle (a := c) (l₁ := it ++ [a, b]) (l₂ := mu)
  simpa using this)
end
theorem ord_ok (w : World) (o : O) (hsz : o.plain.size ≤ 200) (hnd : (o.post.map O.addr).Nodup) : Pur w 247 [.ref o.addr] 3 9 (fun h => o.At w h) (BR true) := by
  refine' Pur.introC (binds := [(Str.ofString "made", .ref o.addr)]) (d := 2) (u := 6) (Str.ofString "child") (Str.ofString "node") (by exact rfl) (by exact rfl) (fun _ _ => BindsTo.of_eq rfl) rfl (fun n => rfl) (by decide) rfl rfl rfl ?_
  intro A s h₁ tk oC oN C T hp hdC hdN F
  have hpl := O.post_len o
  have hAt := O.post_at hp
  refine wpAny_execs_cons (wpAny_Assign_Name (Call_ (y_gl T F rfl (z_cw T (by exact rfl) (spliced_more (y_ld F rfl (spliced_none ⟨T.keeps F.ext, ?_⟩)))))))
  refine Pur.use (post_ok w o hsz) C T F (hp.keeps F.ext) fun x h' tk' R hpost hadd => ?_
  obtain ⟨lx, nx, rfl, hx⟩ := hpost
  have F := hadd _ hx
  refine y_st F fun h' tk' F => ?_
  refine wpAny_execs_cons (wpAny_Assign_Name (List_ (spliced_none (z_listM F (sz_lt (by simp)) fun ls h' F => y_st F fun h' tk' F => ?_))))
  refine wpAny_execs_cons (wpAny_For (y_ld F rfl ?_))
  refine z_forList (items := (refs o.post).toArray) (Φ₀ := fun h => h.get? lx = some (listOf (refs o.post).toArray nx)) (Φ := fun _ => True) C.hd ⟨_, fun h' e hh => ⟨hh, rfl, _, rfl⟩⟩
    (fun i m mu Φ => ∃ n oC oN vC vN, mu = [(ls, listOf (refs (o.post.take i)).toArray n), (s.heap.objs.size + 1 + 1, oC), (s.heap.objs.size + 1, oN)] ∧ oC.data = .cell vC ∧ oN.data = .cell vN ∧ m "seen" = some (.ref ls) ∧ m "made" = some (.ref o.addr))
    (F.imp fun h hh => ⟨hh.2, trivial⟩) ⟨0, oC, oN, _, _, rfl, hdC, hdN, rfl, rfl⟩ ?_ ?_
  · rintro i v m₁ mu₁ Φ₁ h₁ tk₁ it hi hv ⟨n, oC, oN, vC, vN, rfl, hdC, hdN, hm1, hm2⟩ F
    obtain ⟨c, hcc, rfl⟩ := refs_at hv
    have hat := hAt c (mem_at hcc)
    have hil : i < o.post.length := by simpa using hi
    have htl : (o.post.take i).length = i := by rw [List.length_take]; omega
    refine c_as F.m3 hdN fun h' oN hdN F => ?_
    have F := F.um3
    refine wpAny_execs_cons (wpAny_For (Attribute_any_ (c_ld (F.get (a := s.heap.objs.size + 1) (o := oN) (by simp)) hdN (a_kids0 T F hat F.ext fun lc nc tk' hlc => ?_))))
    refine z_forList (items := (refs c.cs).toArray) (Φ₀ := fun _ => True) (Φ := fun x => x.get? lx = some (listOf (refs o.post).toArray nx) ∧ Φ₁ x) C.hd ⟨_, fun h' e hh => ⟨hlc _ e, rfl, _, rfl⟩⟩
      (fun j m mu Φ => ∃ oC vC, mu = it ++ [(ls, listOf (refs (o.post.take i)).toArray n), (s.heap.objs.size + 1 + 1, oC), (s.heap.objs.size + 1, oN)] ∧ oC.data = .cell vC ∧ m "seen" = some (.ref ls) ∧ m "made" = some (.ref o.addr) ∧ ∀ h, Φ h → h.get? lx = some (listOf (refs o.post).toArray nx) ∧ Φ₁ h)
      (F.imp fun h hh => ⟨trivial, hh⟩) ⟨oC, vC, rfl, hdC, hm1, hm2, fun h hh => hh⟩ ?_ ?_
    · rintro j v m₂ mu₂ Φ₂ h₂ tk₂ it2 hj hv ⟨oC, vC, rfl, hdC, hn1, hn2, hΦ₂⟩ F
      obtain ⟨k, hkk, rfl⟩ := refs_at hv
      have hkc : k ∈ c.cs := mem_at hkk
      have hkat := hat.kids k hkc
      have hkm := kids_post o i c hcc k hkc
      rw [← List.append_assoc] at F
      refine c_as F.m2 hdC fun h' oC hdC F => ?_
      have F := F.um2
      refine wpAny_execs_cons (wpAny_If (wpAny_isTrue_Compare1 (z_lc (y_ld F hn1 ?_))))
      refine z_lcL (items := (refs (o.post.take i)).toArray) C.hd ⟨_, F.get (a := ls) (o := listOf (refs (o.post.take i)).toArray n) (by simp), rfl, _, rfl⟩ F (fun q ys Φ => ys = refs (sameAs ((o.post.take i).take q) k)) rfl (sz_lt (by simp; omega)) ?_ ?_
      · intro hc C' q v ys Φ₃ h₃ tk₃ mc it3 hk hq hv hJ hys G
        obtain ⟨p, hpp, rfl⟩ := refs_at hv
        have hpat := hAt p (List.mem_of_mem_take (mem_at hpp))
        have kc : Ext s.heap hc := fun b o e => hk b o (F.ext b o e)
        have hcell : ∀ h4 : Heap, Ext hc h4 → h4.get? (s.heap.objs.size + 1 + 1) = some oC := fun h4 e => e _ _ (hk _ _ (F.get (by simp)))
        refine y_as G fun h' tk' G => z_tests1 (wpAny_isTrue_Compare1 (y_ld G rfl (c_ld (hcell _ G.ext) hdC (z_is (hpat.keeps (kc.trans G.ext)) (hkat.keeps (kc.trans G.ext)) (wpAny_truthy_bool ?_)))))
        by_cases he : p.addr = k.addr
        · refine z_t (by simp [he]) (y_ld G rfl ⟨_, _, _, _, rfl, G, ?_⟩)
          rw [take_snoc hpp, hJ]
          simp [sameAs, refs, he]
        · refine z_f (by simp [he]) ⟨_, _, _, _, rfl, G, ?_⟩
          rw [take_snoc hpp, hJ]
          simp [sameAs, refs, he]
      · intro C' D h' tk' ys Φ' oc mm hJ hys hns G
        refine post_none hns G fun h'' F => ?_
        rw [refs_size, List.take_length] at hJ
        subst hJ
        refine List_ (spliced_none (z_list F (sz_lt (by simp)) fun le h' F => ?_))
        refine z_eqNil (by have := C.un; omega) ⟨_, F.now.1.2, rfl, _, rfl⟩ ⟨_, F.now.2, rfl, _, rfl⟩ ?_
        have hne := sameAs_pos hkm
        refine z_f (by simpa using hne) (wpAny_execs_nil (wpAny_execs_nil ?_))
        refine ⟨_, _, _, _, Φ₂, rfl, by rw [← List.append_assoc]; exact F.imp fun h hh => hh.1.1.1, oC, _, rfl, hdC, hn1, hn2, hΦ₂⟩
    · rintro h' tk' m' mu' Φ' ⟨oC, vC, rfl, hdC, hn1, hn2, hΦ₂⟩ F
      refine wpAny_execs_cons (wpAny_If (wpAny_isTrue_Compare1 (z_lc (y_ld F hn1 ?_))))
      refine z_lcL (items := (refs (o.post.take i)).toArray) C.hd ⟨_, F.get (a := ls) (o := listOf (refs (o.post.take i)).toArray n) (by simp), rfl, _, rfl⟩ F (fun q ys Φ => ys = refs (sameAs ((o.post.take i).take q) c)) rfl (sz_lt (by simp; omega)) ?_ ?_
      · intro hc C' q v ys Φ₃ h₃ tk₃ mc it3 hk hq hv hJ hys G
        obtain ⟨p, hpp, rfl⟩ := refs_at hv
        have hpat := hAt p (List.mem_of_mem_take (mem_at hpp))
        have kc : Ext s.heap hc := fun b o e => hk b o (F.ext b o e)
        have hcell : ∀ h4 : Heap, Ext hc h4 → h4.get? (s.heap.objs.size + 1) = some oN := fun h4 e => e _ _ (hk _ _ (F.get (by simp)))
        refine y_as G fun h' tk' G => z_tests1 (wpAny_isTrue_Compare1 (y_ld G rfl (c_ld (hcell _ G.ext) hdN (z_is (hpat.keeps (kc.trans G.ext)) (hat.keeps (kc.trans G.ext)) (wpAny_truthy_bool ?_)))))
        by_cases he : p.addr = c.addr
        · refine z_t (by simp [he]) (y_ld G rfl ⟨_, _, _, _, rfl, G, ?_⟩)
          rw [take_snoc hpp, hJ]
          simp [sameAs, refs, he]
        · refine z_f (by simp [he]) ⟨_, _, _, _, rfl, G, ?_⟩
          rw [take_snoc hpp, hJ]
          simp [sameAs, refs, he]
      · intro C' D h' tk' ys Φ' oc mm hJ hys hns G
        refine post_none hns G fun h'' F => ?_
        rw [refs_size, List.take_length] at hJ
        have hnone : sameAs (o.post.take i) c = [] := by
          refine sameAs_nil fun p hp e => ?_
          obtain ⟨q, hq⟩ := List.getElem?_of_mem hp
          have hqi : q < i := by have := (List.getElem?_eq_some_iff.mp hq).1; omega
          rw [List.getElem?_take] at hq
          rw [if_pos hqi] at hq
          have h1 : (o.post.map O.addr)[q]? = some c.addr := by rw [List.getElem?_map, hq]; simp [e]
          have h2 : (o.post.map O.addr)[i]? = some c.addr := by rw [List.getElem?_map, hcc]; rfl
          have := (List.getElem?_inj (by simpa using Nat.lt_trans hqi hil) hnd).mp (h1.trans h2.symm)
          omega
        rw [hnone] at hJ
        subst hJ
        refine List_ (spliced_none (z_list F (sz_lt (by simp)) fun le h' F => ?_))
        refine z_neNil (xs := []) (by have := C.un; omega) ⟨_, F.now.1.2, rfl, _, rfl⟩ ⟨_, F.now.2, rfl, _, rfl⟩ ?_
        refine z_f (by simp) (wpAny_execs_nil ?_)
        refine wpAny_execs_cons (wpAny_Expr (MethodCall_ (y_ld F hn1 (z_mapp (F.get (a := ls) (o := listOf (refs (o.post.take i)).toArray n) (by simp)) (z_cb1 (spliced_more (c_ld (F.get (a := s.heap.objs.size + 1) (o := oN) (by simp)) hdN (spliced_none (z_app F.mid (sz_lt (by simp; omega)) fun h' F => wpAny_execs_nil ?_)))))))))
        refine ⟨_, _, _, _, fun h => Φ₁ h, rfl, F.unmid.imp fun h hh => hΦ₂ h hh.1.1.1.2, n + 1, oC, oN, _, _, ?_, hdC, hdN, hn1, hn2⟩
        rw [take_snoc hcc, refs_snoc]
  · rintro h' tk' m' mu' Φ' ⟨n, oC, oN, vC, vN, rfl, hdC, hdN, hm1, hm2⟩ F
    rw [refs_size, List.take_length] at F
    obtain ⟨init, hin⟩ := post_last o
    rw [hin, refs_snoc] at F
    refine wpAny_execs_cons (wpAny_Return_some (wpAny_Compare1 (Subscript_ (y_ld F hm1 (wpAny_UnaryOp (z_int fun t tk => neg_int (z_lastL ⟨_, F.get (.head _), rfl, _, rfl⟩ (y_ld F hm2 (z_is (hp.keeps F.ext) (hp.keeps F.ext) ?_)))))))))
    refine ⟨_, _, _, _, _, _, rfl, F, fun R hR => ?_⟩
    simp [BR]
end Mine
namespace Mine
section
variable {w : World} {A : Around} {hb h : Heap} {L : Addr} {m : Str → Option Value} {mu : Led} {Φ : Heap → Prop} {g : Array GenState} {dr : Drawn} {tk : Nat} {os : OsState} {env : Env}
/-- from the block's frame back to the def's, its new objects open -/
theorem St.leaveN {h h' : Heap} {C I : Addr} {o₀ o : Obj} {ex ex' nw : Led} {Φ' : Heap → Prop} {mc : Str → Option Value}
    (F : St hb L h m ((I, o₀) :: (ex ++ mu)) Φ) (G : St (hideAll h (I :: ex.map (·.1))) C h' mc ((I, o) :: (nw ++ ex')) Φ') (hx : ex'.map (·.1) = ex.map (·.1)) (hC : h.objs.size ≤ C) :
    ∃ oC, St hb L h' m ((I, o) :: (C, oC) :: (nw ++ (ex' ++ mu))) (fun x => Φ x ∧ Φ' x) := by
  obtain ⟨f, ⟨R, N, d, c⟩, n⟩ := F
  obtain ⟨f', ⟨R', N', d', c'⟩, n'⟩ := G
  have hid : ∀ b o, h.get? b = some o → b ≠ I → b ∉ ex.map (·.1) → h'.get? b = some o := fun b o e h1 h2 => f'.keep b o (hideAll_get _ e (by rw [List.mem_cons]; exact fun q => q.elim h1 h2))
  rw [List.map_cons, List.nodup_cons, List.map_append, List.nodup_append] at n n'
  obtain ⟨n1, n2, n3, n4⟩ := n
  obtain ⟨q1, q2, q3, q4⟩ := n'
  rw [List.mem_append, not_or] at n1 q1
  have zI := N (I, o₀) (by simp)
  have hexL : L ∉ ex.map (·.1) := fun q => by
    obtain ⟨p, hp, e⟩ := List.mem_map.mp q
    exact (N p (by simp [hp])).2.1 e
  have hexb : ∀ b o, hb.get? b = some o → b ∉ ex.map (·.1) := fun b o e q => by
    obtain ⟨p, hp, rfl⟩ := List.mem_map.mp q
    have := (N p (by simp [hp])).2.2; rw [e] at this; cases this
  have hIb : ∀ b o, hb.get? b = some o → b ≠ I := fun b o e q => by have := zI.2.2; rw [← q, e] at this; cases this
  obtain ⟨oL, es, ep, hL, hLr⟩ := f.ns
  obtain ⟨oC, es', ep', hCo, hCr⟩ := f'.ns
  have newC : ∀ b o, h.get? b = some o → b ≠ C := fun b o e q => absurd (Heap.lt_size e) (by rw [q]; exact Nat.not_lt.mpr hC)
  have inG : ∀ p, p ∈ nw ∨ p ∈ R' → p ∈ (I, o) :: (nw ++ ex') ++ R' := fun p hp => by rcases hp with hp | hp <;> simp [hp]
  have fresh : ∀ p, p ∈ nw ∨ p ∈ R' → h.get? p.1 = none := fun p hp => by
    cases q : h.get? p.1 with
    | none => rfl
    | some x =>
      have e1 := (N' p (inG p hp)).2.2
      have e2 : p.1 ∉ I :: ex.map (·.1) := by
        rw [← hx]
        intro hm
        rcases hp with hp | hp
        · rcases List.mem_cons.mp hm with hm | hm
          · exact q1.1 (List.mem_map.mpr ⟨p, hp, hm⟩)
          · exact q4 _ (List.mem_map_of_mem hp) _ hm rfl
        · rcases List.mem_cons.mp hm with hm | hm
          · exact d' (I, o) (.head _) p hp hm.symm
          · obtain ⟨p', hp', e⟩ := List.mem_map.mp hm
            exact d' p' (.tail _ (List.mem_append_right _ hp')) p hp e
      rw [hideAll_get _ q e2] at e1; cases e1
  have f2 : Fr hb L h' m := ⟨⟨oL, es, ep, hid _ _ hL (fun e => zI.2.1 e.symm) hexL, hLr⟩, fun b x e => hid b x (f.keep b x e) (hIb b x e) (hexb b x e), f.above⟩
  have hmu : ∀ p ∈ mu ++ R, h'.get? p.1 = some p.2 := fun p hp => by
    have z := N p (by rcases List.mem_append.mp hp with hp | hp <;> simp [hp])
    refine hid _ _ z.1 (fun e => ?_) fun q => ?_
    · rcases List.mem_append.mp hp with hp | hp
      · exact n1.2 (List.mem_map.mpr ⟨p, hp, e⟩)
      · exact d (I, o₀) (.head _) p hp e.symm
    · obtain ⟨q, hq, e⟩ := List.mem_map.mp q
      rcases List.mem_append.mp hp with hp | hp
      · exact n4 _ (List.mem_map_of_mem hq) _ (List.mem_map_of_mem hp) e
      · exact d q (by simp [hq]) p hp e
  have hexo : ∀ p ∈ ex', p.1 ≠ L ∧ hb.get? p.1 = none ∧ ∃ o, h.get? p.1 = some o := fun p hp => by
    have : p.1 ∈ ex.map (·.1) := by rw [← hx]; exact List.mem_map_of_mem hp
    obtain ⟨q, hq, e⟩ := List.mem_map.mp this
    have z := N q (by simp [hq])
    rw [← e]; exact ⟨z.2.1, z.2.2, _, z.1⟩
  have hold : ∀ p ∈ mu ++ R, ∃ o, h.get? p.1 = some o := fun p hp => ⟨_, (N p (by rcases List.mem_append.mp hp with hp | hp <;> simp [hp])).1⟩
  refine ⟨oC, f2, ⟨R' ++ R, fun p hp => ?_, fun p hp q hq => ?_, fun x hh => ⟨c x fun p hp => hh p (List.mem_append_right _ hp), c' x fun p hp => hh p (List.mem_append_left _ hp)⟩⟩, ?_⟩
  · have newR : p ∈ nw ∨ p ∈ R' → h'.get? p.1 = some p.2 ∧ p.1 ≠ L ∧ hb.get? p.1 = none := fun hp => by
      have e1 := fresh p hp
      refine ⟨(N' p (inG p hp)).1, fun e => ?_, ?_⟩
      · rw [e, hL] at e1; cases e1
      · cases q : hb.get? p.1 with
        | none => rfl
        | some x => rw [f.keep _ _ q] at e1; cases e1
    rw [List.cons_append] at hp
    rcases List.mem_cons.mp hp with rfl | hp
    · exact ⟨(N' (I, o) (by simp)).1, zI.2⟩
    rw [List.cons_append] at hp
    rcases List.mem_cons.mp hp with rfl | hp
    · refine ⟨hCo, fun e => newC _ _ hL (Eq.symm e), ?_⟩
      cases q : hb.get? C with
      | none => rfl
      | some x => exact absurd rfl (newC _ _ (f.keep _ _ q))
    · rcases List.mem_append.mp hp with hp | hp
      · rcases List.mem_append.mp hp with hp | hp
        · exact newR (.inl hp)
        rcases List.mem_append.mp hp with hp | hp
        · exact ⟨(N' p (by simp [hp])).1, (hexo p hp).1, (hexo p hp).2.1⟩
        · exact ⟨hmu p (List.mem_append_left _ hp), (N p (by simp [hp])).2⟩
      · rcases List.mem_append.mp hp with hp | hp
        · exact newR (.inr hp)
        · exact ⟨hmu p (List.mem_append_right _ hp), (N p (by simp [hp])).2⟩
  · rcases List.mem_cons.mp hp with rfl | hp
    · rcases List.mem_append.mp hq with hq | hq
      · exact d' (I, o) (.head _) q hq
      · exact d (I, o₀) (.head _) q hq
    rcases List.mem_cons.mp hp with rfl | hp
    · rcases List.mem_append.mp hq with hq | hq
      · exact fun e => (N' q (List.mem_append_right _ hq)).2.1 e.symm
      · exact fun e => newC _ _ (N q (by simp [hq])).1 e.symm
    rcases List.mem_append.mp hp with hp | hp
    · rcases List.mem_append.mp hq with hq | hq
      · exact d' p (.tail _ (List.mem_append_left _ hp)) q hq
      · intro e; have := fresh p (.inl hp); obtain ⟨o, ho⟩ := hold q (List.mem_append_right _ hq); rw [e, ho] at this; cases this
    · rcases List.mem_append.mp hp with hp | hp
      · obtain ⟨_, _, o, ho⟩ := hexo p hp
        rcases List.mem_append.mp hq with hq | hq
        · intro e; have := fresh q (.inr hq); rw [← e, ho] at this; cases this
        · have : p.1 ∈ ex.map (·.1) := by rw [← hx]; exact List.mem_map_of_mem hp
          obtain ⟨q', hq', e⟩ := List.mem_map.mp this
          rw [← e]; exact d q' (by simp [hq']) q hq
      · rcases List.mem_append.mp hq with hq | hq
        · intro e; have := fresh q (.inr hq); rw [← e, (N p (by simp [hp])).1] at this; cases this
        · exact d p (by simp [hp]) q hq
  · have newNot : ∀ a ∈ nw.map (·.1), h.get? a = none := fun a ha => by obtain ⟨p, hp, rfl⟩ := List.mem_map.mp ha; exact fresh p (.inl hp)
    rw [List.map_cons, List.nodup_cons, List.map_cons, List.nodup_cons, List.map_append, List.map_append, hx, List.nodup_append, List.nodup_append]
    refine ⟨fun hm => ?_, fun hm => ?_, q2, ⟨n2, n3, n4⟩, fun a ha b hb e => ?_⟩
    · rcases List.mem_cons.mp hm with e | hm
      · exact newC _ _ zI.1 e
      · rcases List.mem_append.mp hm with hm | hm
        · exact q1.1 hm
        rcases List.mem_append.mp hm with hm | hm
        · exact n1.1 hm
        · exact n1.2 hm
    · rcases List.mem_append.mp hm with hm | hm
      · obtain ⟨p, hp, e⟩ := List.mem_map.mp hm
        exact (N' p (inG p (.inl hp))).2.1 e
      rw [← List.map_append] at hm
      obtain ⟨p, hp, e⟩ := List.mem_map.mp hm
      exact newC _ _ (N p (by rw [List.cons_append]; exact .tail _ (List.mem_append_left _ hp))).1 e
    · subst e
      have e1 := newNot a ha
      rw [← List.map_append] at hb
      obtain ⟨p, hp, e⟩ := List.mem_map.mp hb
      rw [← e, (N p (by rw [List.cons_append]; exact .tail _ (List.mem_append_left _ hp))).1] at e1
      cases e1
end
section
variable {w : World} {A : Around} {hb h : Heap} {L : Addr} {m : Str → Option Value} {mu : Led} {Φ : Heap → Prop} {g : Array GenState} {dr : Drawn} {tk : Nat} {os : OsState} {env : Env}
  {x : Str} {pos px : Pos} {v : Value} {Q : Value → Shared → Prop} {QB : Bool → Shared → Prop} {QU : Unit → Shared → Prop} {QF : Flow → Shared → Prop} {E : Value → Shared → Prop}
theorem z_blockM {elt target iter : Expr} {ifs : List Expr} {scope : Scope} {cl : List (Str × Addr)} {pos : Pos} {Q : Value → Shared → Prop} {use : Option (Value → Sem Unit)}
    {I : Addr} {fp : List Addr} {n : Nat} {P : Nat → Value → Prop} {S : Nat → Heap → Prop} {o₀ : Obj} {ex : Led}
    (W : Walks PP w A I fp [I] n P S) (hst : S 0 h) (hob : ∀ i h, S i h → ∃ o, h.get? I = some o)
    (F : St hb L h m ((I, o₀) :: (ex ++ mu)) Φ) (hfp : ∀ b ∈ fp, b = I ∨ ((∃ o, h.get? b = some o) ∧ b ∉ ex.map (·.1)))
    (J : Nat → List Value → Led → (Heap → Prop) → Prop) (hj : J 0 [] ex (fun _ => True)) (hcell : ∀ y ∈ scope.names, y.2 ≠ .cell) (hkind : scope.kind = .function)
    (step : ∀ C D i v ys ex₁ Φ₁ h₁ tk₁ mc o, i < n → P i v → S (i + 1) h₁ → J i ys ex₁ Φ₁ → ex₁.map (·.1) = ex.map (·.1) → ys.length ≤ i → St (hideAll h (I :: ex.map (·.1))) C h₁ mc ([(I, o)] ++ ((D, listOf ys.toArray ys.length) :: ex₁)) Φ₁ →
      wpAny (model PP w) A (letOwnedTupleGo target (.ref I) v) (fun _ s₁' => wpAny (model PP w) A (assign target (compEnvC scope cl C env) v) (fun _ s₂ =>
        wpAny (model PP w) A (testsOf ifs (compEnvC scope cl C env)) (fun ok s₃ =>
          if ok = true then wpAny (model PP w) A (eval elt (compEnvC scope cl C env)) (fun x => CompE (hideAll h (I :: ex.map (·.1))) C D g dr os [(I, o)] (ex.map (·.1)) ys (ys ++ [x]) (J (i + 1))) NoE s₃
          else CompE (hideAll h (I :: ex.map (·.1))) C D g dr os [(I, o)] (ex.map (·.1)) ys ys (J (i + 1)) s₃) NoE s₂) NoE s₁') NoE ⟨h₁, g, dr, tk₁, os⟩)
    (hn : n ≤ sizeLine)
    (done : ∀ C D h' tk' ys ex' Φ' oC mm, J n ys ex' Φ' → ys.length ≤ n → h'.get? C = some oC → h'.Ns C mm → St hb L h' m ((C, oC) :: (D, listOf ys.toArray ys.length) :: (ex' ++ mu)) (fun x => Φ x ∧ Φ' x) →
      compPost (model PP w) A NoE use Q (.ref D) C (.ok .next) ⟨h', g, dr, tk', os⟩) :
    BlockAt w A env cl scope (.ListComp elt [⟨target, iter, ifs, 0⟩] scope pos) use Q (.ref I) ⟨h, g, dr, tk, os⟩ := by
  unfold BlockAt
  refine wpAny_newObj_type (wpAny_newFunctionEnv hcell (by intro y hy; simp at hy) (fun h₁ hns₁ hsb₁ => ?_) hkind)
  dsimp only at hns₁ hsb₁ ⊢
  generalize hH2 : h.push { cls := .type "list", dict := none, data := .seq ([] : List Value).toArray } = H2 at hns₁ hsb₁ ⊢
  have hC : H2.objs.size = h.objs.size + 1 := by rw [← hH2, Heap.size_push]
  have hDC : h.objs.size ≠ H2.objs.size := by rw [hC]; exact Nat.ne_of_lt (Nat.lt_succ_self _)
  have old : ∀ b o, h.get? b = some o → h₁.get? b = some o := fun b o e => hsb₁.extBut b o (by rw [hC]; exact Nat.ne_of_lt (Nat.lt_succ_of_lt (Heap.lt_size e))) (Heap.get?_push_of_some _ (hH2 ▸ Heap.get?_push_of_some _ e))
  have hacc : h₁.get? h.objs.size = some (listOf ([] : List Value).toArray ([] : List Value).length) := hsb₁.extBut _ _ hDC (Heap.get?_push_of_some _ (hH2 ▸ Heap.get?_push_size _ rfl))
  have hst₁ : S 0 h₁ := W.frame _ _ _ hst fun b _ o e => old b o e
  have hnodup := F.nd
  have zI := F.get (.head _)
  have zex : ∀ p ∈ ex, h.get? p.1 = some p.2 := fun p hp => F.get (.tail _ (List.mem_append_left _ hp))
  rw [List.map_cons, List.nodup_cons, List.map_append, List.nodup_append] at hnodup
  have G₀ : St (hideAll h (I :: ex.map (·.1))) H2.objs.size h₁ (fun x => ([] : List (Str × Value)).reverse.lookup x) ((I, o₀) :: (h.objs.size, listOf ([] : List Value).toArray ([] : List Value).length) :: ex) (fun _ => True) := by
    refine ⟨⟨hns₁, fun b o e => old b o (of_hideAll _ e), by rw [hideAll_size, hC]; exact Nat.le_succ _⟩, ⟨[], fun p hp => ?_, (fun _ _ _ hq => by cases hq), fun _ _ => trivial⟩, ?_⟩
    · rw [List.append_nil] at hp
      have lt : ∀ {b : Addr} {o : Obj}, h.get? b = some o → b ≠ H2.objs.size := fun e => by rw [hC]; exact Nat.ne_of_lt (Nat.lt_succ_of_lt (Heap.lt_size e))
      rcases List.mem_cons.mp hp with rfl | hp
      · exact ⟨old _ _ zI, lt zI, hideAll_none _ (.head _)⟩
      · rcases List.mem_cons.mp hp with rfl | hp
        · refine ⟨hacc, hDC, ?_⟩
          cases q : (hideAll h (I :: ex.map (·.1))).get? h.objs.size with
          | none => rfl
          | some x => exact absurd (Heap.lt_size (of_hideAll _ q)) (Nat.lt_irrefl _)
        · exact ⟨old _ _ (zex p hp), lt (zex p hp), hideAll_none _ (.tail _ (List.mem_map_of_mem hp))⟩
    · rw [List.map_cons, List.nodup_cons, List.map_cons, List.nodup_cons]
      refine ⟨fun hm => ?_, fun hm => ?_, hnodup.2.1⟩
      · rcases List.mem_cons.mp hm with e | hm
        · exact absurd (Heap.lt_size zI) (by have e : I = h.objs.size := e; rw [e]; exact Nat.lt_irrefl _)
        · exact hnodup.1 (List.mem_append_left _ hm)
      · obtain ⟨p, hp, e⟩ := List.mem_map.mp hm
        exact absurd (Heap.lt_size (zex p hp)) (by rw [e]; exact Nat.lt_irrefl _)
  have loop : ∀ tk₂, codeAny (model PP w) A (.compLoop (.ListComp elt [⟨target, iter, ifs, 0⟩] scope pos) 0 (.ref I) (.ref h.objs.size) (compEnvC scope cl H2.objs.size env))
        (compPost (model PP w) A NoE use Q (.ref h.objs.size) H2.objs.size) ⟨h₁, g, dr, tk₂, os⟩ := by
    intro tk₂
    refine compLoop_gen (fun k s' => ∃ h' tk' mc ys ex' Φ' i o, s' = ⟨h', g, dr, tk', os⟩ ∧ S i h' ∧ St (hideAll h (I :: ex.map (·.1))) H2.objs.size h' mc ((I, o) :: (h.objs.size, listOf ys.toArray ys.length) :: ex') Φ' ∧ J i ys ex' Φ' ∧ ex'.map (·.1) = ex.map (·.1) ∧ i ≤ n ∧ ys.length ≤ i ∧ k = n + 1 - i) ?_ (n + 1)
      ⟨h₁, tk₂, _, [], ex, _, 0, o₀, rfl, hst₁, G₀, hj, rfl, Nat.zero_le _, Nat.le_refl _, rfl⟩
    rintro k s' ⟨h', tk', mc, ys, ex', Φ', i, o, rfl, hst', G, hJ, hexm, hi, hys, rfl⟩
    by_cases hlt : i < n
    · refine W.item i _ _ _ hlt hst' fun v h₂ tk₂ hP hst₂ hk₂ => ?_
      obtain ⟨o₁, ho₁⟩ := hob _ _ hst₂
      have G₂ := G.upd0 (h' := h₂) (o' := o₁) (fun b x hb e => hk₂ b x (by simpa using hb) e) ho₁
      have frm : ∀ h₅ : Heap, ∀ {mu₅ : Led} {m₅ Φ₅}, St (hideAll h (I :: ex.map (·.1))) H2.objs.size h₅ m₅ ((I, o₁) :: mu₅) Φ₅ → S (i + 1) h₅ := fun h₅ mu₅ m₅ Φ₅ G₅ => by
        refine W.frame _ _ _ hst₂ fun b hbf x e => ?_
        rcases hfp b hbf with rfl | ⟨⟨y, hy⟩, hne⟩
        · rw [ho₁] at e; cases e; exact G₅.get (.head _)
        · by_cases hbI : b = I
          · subst hbI; rw [ho₁] at e; cases e; exact G₅.get (.head _)
          · have e0 := hideAll_get (I :: ex.map (·.1)) hy (by rw [List.mem_cons]; exact fun q => q.elim hbI hne)
            have e1 := G₂.ext _ _ e0
            rw [e] at e1; cases e1
            exact G₅.ext _ _ e0
      refine wpAny_mono (step _ _ i v ys ex' Φ' h₂ tk₂ mc o₁ hlt hP hst₂ hJ hexm hys G₂) (fun _ s₁' h₁' => wpAny_mono h₁' (fun _ s₂ h₂' => wpAny_mono h₂' (fun ok s₃ h₃ => ?_) fun _ _ e => e.elim) fun _ _ e => e.elim) fun _ _ e => e.elim
      cases ok with
      | true =>
        simp only [if_true] at h₃ ⊢
        refine wpAny_mono h₃ (fun x s₄ h₄ => ?_) fun _ _ e => e.elim
        obtain ⟨h5, tk5, m5, ex5, Φ5, rfl, G5, hJ5, hm5, hl5⟩ := h₄
        have G6 : St (hideAll h (I :: ex.map (·.1))) H2.objs.size h5 m5 ((h.objs.size, listOf ys.toArray ys.length) :: (I, o₁) :: ex5) Φ5 := G5.perm (List.Perm.swap _ _ _)
        refine append_at (G6.get (.head _)) (fun h' hs ho' => ?_) (by rw [List.size_toArray]; exact hl5)
        have G7 := G6.upd0 (h' := h') hs.extBut (by rw [ho', listOf_push])
        have G8 := G7.perm (List.Perm.swap _ _ _)
        exact ⟨n + 1 - (i + 1), by omega, h', _, m5, ys ++ [x], ex5, Φ5, i + 1, o₁, rfl, frm _ G8, G8, hJ5, hm5, hlt, by simp; exact hys, rfl⟩
      | false =>
        simp only [Bool.false_eq_true, if_false] at h₃ ⊢
        obtain ⟨h5, tk5, m5, ex5, Φ5, rfl, G5, hJ5, hm5, hl5⟩ := h₃
        exact ⟨n + 1 - (i + 1), by omega, h5, tk5, m5, ys, ex5, Φ5, i + 1, o₁, rfl, frm _ G5, G5, hJ5, hm5, hlt, by omega, rfl⟩
    · have hin : i = n := by omega
      subst hin
      refine W.done _ _ _ hst' fun h₂ tk₂ hk₂ => ?_
      obtain ⟨oC, G₃⟩ := F.leaveN (nw := [(h.objs.size, listOf ys.toArray ys.length)]) G hexm (by rw [hC]; exact Nat.le_succ _)
      have k2 : Heap.ExtBut I h' h₂ := fun b x hb e => hk₂ b x (by simpa using hb) e
      have G₄ := G₃.dropBut k2
      have zC : I ≠ H2.objs.size := by rw [hC]; exact Nat.ne_of_lt (Nat.lt_succ_of_lt (Heap.lt_size zI))
      exact done _ _ h₂ tk₂ ys ex' Φ' oC mc hJ hys (G₄.get (.head _)) (G.fr.ns.extBut k2 (Ne.symm zC)) G₄
  exact codeAny_compStart_list (loop _) (W.self 0 _ _ _ hst₁ (loop _))
theorem z_lcWM {elt target iter : Expr} {ifs : List Expr} {scope : Scope} {cl : List (Str × Addr)} {pos : Pos} {use : Option (Value → Sem Unit)}
    {I : Addr} {fp : List Addr} {n : Nat} {P : Nat → Value → Prop} {S : Nat → Heap → Prop} {o₀ : Obj}
    (W : Walks PP w A I fp [I] n P S) (hst : S 0 h) (hob : ∀ i h, S i h → ∃ o, h.get? I = some o) (F : St hb L h m ((I, o₀) :: mu) Φ) (hfp : ∀ b ∈ fp, b = I ∨ (∃ o, h.get? b = some o))
    (J : Nat → List Value → (Heap → Prop) → Prop) (hj : J 0 [] (fun _ => True)) (hcell : ∀ y ∈ scope.names, y.2 ≠ .cell) (hkind : scope.kind = .function) (hn : n ≤ sizeLine)
    (step : ∀ hc C i v ys Φ₁ h₁ tk₁ mc it, (∀ b o, b ≠ I → h.get? b = some o → hc.get? b = some o) → i < n → P i v → S (i + 1) h₁ → J i ys Φ₁ → ys.length ≤ i → (∃ o, (I, o) ∈ it) → St hc C h₁ mc it Φ₁ →
      wpAny (model PP w) A (letOwnedTupleGo target (.ref I) v) (fun _ s₁' => wpAny (model PP w) A (assign target (compEnvC scope cl C env) v) (fun _ s₂ =>
        wpAny (model PP w) A (testsOf ifs (compEnvC scope cl C env)) (fun ok s₃ =>
          if ok = true then wpAny (model PP w) A (eval elt (compEnvC scope cl C env)) (fun x => CE hc C g dr os it (J (i + 1)) (ys ++ [x])) NoE s₃
          else CE hc C g dr os it (J (i + 1)) ys s₃) NoE s₂) NoE s₁') NoE ⟨h₁, g, dr, tk₁, os⟩)
    (done : ∀ C D h' tk' ys Φ' oC mm, J n ys Φ' → ys.length ≤ n → h'.Ns C mm → St hb L h' m ((C, oC) :: (D, listOf ys.toArray ys.length) :: mu) (fun x => Φ x ∧ Φ' x) →
      compPost (model PP w) A NoE use Q (.ref D) C (.ok .next) ⟨h', g, dr, tk', os⟩) :
    BlockAt w A env cl scope (.ListComp elt [⟨target, iter, ifs, 0⟩] scope pos) use Q (.ref I) ⟨h, g, dr, tk, os⟩ := by
  refine z_blockM (ex := []) W hst hob F (fun b hb => (hfp b hb).imp id fun e => ⟨e, (fun q => nomatch q)⟩) (fun i ys ex Φ => ex = [] ∧ J i ys Φ) ⟨rfl, hj⟩ hcell hkind ?_ hn ?_
  · rintro C D i v ys ex₁ Φ₁ h₁ tk₁ mc o hi hP hS ⟨rfl, hJ⟩ - hys G
    refine wpAny_mono (step (hideAll h [I]) C i v ys Φ₁ h₁ tk₁ mc _ (fun b o hb e => hideAll_get _ e (by simpa using hb)) hi hP hS hJ hys ⟨o, .head _⟩ G) (fun _ s₁ k₁ => wpAny_mono k₁ (fun _ s₂ k₂ => wpAny_mono k₂ (fun ok s₃ k₃ => ?_) fun _ _ e => e.elim) fun _ _ e => e.elim) fun _ _ e => e.elim
    cases ok with
    | true =>
      simp only [if_true] at k₃ ⊢
      refine wpAny_mono k₃ (fun x s₄ k₄ => ?_) fun _ _ e => e.elim
      obtain ⟨h', tk', m', Φ', rfl, G', hJ'⟩ := k₄
      exact ⟨h', tk', m', [], Φ', rfl, G', ⟨rfl, hJ'⟩, rfl, by omega⟩
    | false =>
      simp only [Bool.false_eq_true, if_false] at k₃ ⊢
      obtain ⟨h', tk', m', Φ', rfl, G', hJ'⟩ := k₃
      exact ⟨h', tk', m', [], Φ', rfl, G', ⟨rfl, hJ'⟩, rfl, by omega⟩
  · rintro C D h' tk' ys ex' Φ' oC mm ⟨rfl, hJ⟩ hl hC hns G
    exact done C D h' tk' ys Φ' oC mm hJ hl hns G

theorem z_lcLM {elt target iter : Expr} {ifs : List Expr} {scope : Scope} {cl : List (Str × Addr)} {pos : Pos} {use : Option (Value → Sem Unit)}
    {l : Addr} {items : Array Value} (hA : A.handled = none) (hl : h.IsList l items) (F : St hb L h m mu Φ)
    (J : Nat → List Value → (Heap → Prop) → Prop) (hj : J 0 [] (fun _ => True)) (hn : items.size ≤ sizeLine)
    (step : ∀ hc C i v ys Φ₁ h₁ tk₁ mc it, (∀ b o, h.get? b = some o → hc.get? b = some o) → i < items.size → items[i]? = some v → J i ys Φ₁ → ys.length ≤ i → St hc C h₁ mc it Φ₁ →
      wpAny (model PP w) A (assign target (compEnvC scope cl C env) v) (fun _ s₂ =>
        wpAny (model PP w) A (testsOf ifs (compEnvC scope cl C env)) (fun ok s₃ =>
          if ok = true then wpAny (model PP w) A (eval elt (compEnvC scope cl C env)) (fun x => CE hc C g dr os it (J (i + 1)) (ys ++ [x])) NoE s₃
          else CE hc C g dr os it (J (i + 1)) ys s₃) NoE s₂) NoE ⟨h₁, g, dr, tk₁, os⟩)
    (done : ∀ C D h' tk' ys Φ' oC mm, J items.size ys Φ' → ys.length ≤ items.size → h'.Ns C mm → St hb L h' m ((C, oC) :: (D, listOf ys.toArray ys.length) :: mu) (fun x => Φ x ∧ Φ' x) →
      compPost (model PP w) A NoE use Q (.ref D) C (.ok .next) ⟨h', g, dr, tk', os⟩)
    (hcell : ∀ y ∈ scope.names, y.2 ≠ .cell := by decide) (hkind : scope.kind = .function := by rfl) :
    wpAny (model PP w) A (pyIter (.ref l)) (BlockAt w A env cl scope (.ListComp elt [⟨target, iter, ifs, 0⟩] scope pos) use Q) NoE ⟨h, g, dr, tk, os⟩ := by
  obtain ⟨o, ho', hlc⟩ := id hl
  refine wpAny_pyIter_list hl ?_
  have hne : l ≠ h.objs.size := Nat.ne_of_lt (Heap.lt_size ho')
  have W := Walks.list (prog := PP) (w := w) hA h.objs.size l hne items
  have F1 := F.alloc_mu { cls := .type "list_iterator", data := .fields #[.ref l, .int 0 0] }
  have k1 : Ext h (h.push { cls := .type "list_iterator", data := .fields #[.ref l, .int 0 0] }) := fun b x e => Heap.get?_push_of_some _ e
  refine z_lcWM W ⟨⟨_, F1.get (.head _), rfl, rfl⟩, hl.at fun o e => k1 _ _ e⟩ ?_ F1 ?_ J hj hcell hkind hn (fun hc C i v ys Φ₁ h₁ tk₁ mc it hk hi hP hS hJ hys _ G => z_ownPass (let ⟨⟨o, ho, hc, hd⟩, _⟩ := hS; ⟨o, _, ho, hc, hd⟩) (step hc C i v ys Φ₁ h₁ tk₁ mc it (fun b o e => hk b o (Nat.ne_of_lt (Heap.lt_size e)) (k1 _ _ e)) hi hP hJ hys G)) done
  · rintro i h ⟨⟨o, ho, _⟩, _⟩
    exact ⟨o, ho⟩
  · intro b hb
    rcases List.mem_cons.mp hb with e | hb
    · exact .inl e
    · rw [List.mem_singleton.mp hb]; exact .inr ⟨o, k1 _ _ ho'⟩
end

/-- a pure call, its new objects known to be new -/
theorem Pur.useN {w : World} {f : Addr} {args : List Value} {d u d' u' : Nat} {pre : Heap → Prop} {post : Led → Value → Prop} {A : Around} {s : Shared} {Q : Value → Shared → Prop} {hb : Heap} {L : Addr} {m : Str → Option Value} {mu : Led} {Φ : Heap → Prop}
    (P : Pur w f args d u pre post) (C : Cx A d' u') (T : Tp w hb) (F : St hb L s.heap m mu Φ) (hp : pre s.heap)
    (k : ∀ v h' tk R, post R v → Adds hb L h' m mu Φ R → (∀ p ∈ R, h'.get? p.1 = some p.2 ∧ s.heap.get? p.1 = none) → Ext s.heap h' → Q v { s with heap := h', toks := tk }) (hd : d ≤ d' := by omega) (hu : u ≤ u' := by omega) : wpAny (model PP w) A (call (.ref f) args) Q NoE s :=
  P A s Q (C.less hd hu) (T.keeps F.ext) hp fun v h' tk R hk hR hq => k v h' tk R hq (fun ψ hψ => F.call hk hR hψ) hR hk
theorem mem_of_has {R : Led} {a : Addr} {h' : Heap} (hh : Has h' R) (k : ∀ h, Has h R → ∃ b, h.get? a = some b) : a ∈ R.map (·.1) := by
  by_cases hm : a ∈ R.map (·.1)
  · exact hm
  · obtain ⟨b, hb⟩ := k (hideAll h' [a]) fun p hp => hideAll_get [a] (hh p hp) (by
      intro e
      exact hm (List.mem_map.mpr ⟨p, hp, List.mem_singleton.mp e⟩))
    rw [hideAll_none [a] (.head _)] at hb; cases hb
end Mine
namespace Mine
/-- a def whose call changes one object of what it finds -/
def Mut (w : World) (f : Addr) (args : List Value) (d u : Nat) (a : Addr) (pre : Obj → Heap → Prop) (post : Obj → Obj → Led → Value → Prop) : Prop :=
  ∀ (A : Around) (s : Shared) (R : Result → Shared → Prop) (o : Obj), Cx A d u → Tp w (hideAll s.heap [a]) → s.heap.get? a = some o → pre o s.heap →
   (∀ v h' tk o' N, Heap.ExtBut a s.heap h' → h'.get? a = some o' → (∀ p ∈ N, h'.get? p.1 = some p.2 ∧ s.heap.get? p.1 = none) → post o o' N v → R (.ok (.ret v)) { s with heap := h', toks := tk }) →
   codeAny (model PP w) A (.call (.ref f) ⟨args, []⟩) R s

section
variable {hb h h' : Heap} {L a : Addr} {m m' : Str → Option Value} {mu : Led} {Φ Ψ : Heap → Prop} {o o' : Obj}
theorem St.callM {R' : Led} (F : St hb L h m ((a, o) :: mu) Φ) (hs : Heap.ExtBut a h h') (ho : h'.get? a = some o') (hR : ∀ p ∈ R', h'.get? p.1 = some p.2 ∧ h.get? p.1 = none) (hp : ∀ x, Has x R' → Ψ x) : St hb L h' m ((a, o') :: mu) (fun x => Φ x ∧ Ψ x) := by
  have old : ∀ {b : Addr} {x : Obj}, h.get? b = some x → ∀ q ∈ R', b ≠ q.1 := fun e q hq z => by have := (hR q hq).2; rw [← z, e] at this; cases this
  obtain ⟨oL, _, _, hL, _⟩ := F.fr.ns
  have hbe := F.ext
  have hmu : ∀ p ∈ (a, o) :: mu, h.get? p.1 = some p.2 := fun p hp => F.get hp
  have F1 := F.upd0 hs ho
  obtain ⟨f, ⟨R, N, d, c⟩, n⟩ := F1
  refine ⟨f, ⟨R' ++ R, fun p hp => ?_, fun p hp q hq => ?_, fun h'' hh => ⟨c h'' fun p hp => hh p (List.mem_append_right _ hp), hp h'' fun p hp => hh p (List.mem_append_left _ hp)⟩⟩, n⟩
  · rcases List.mem_append.mp hp with hp | hp
    · exact N p (List.mem_append_left _ hp)
    rcases List.mem_append.mp hp with hp | hp
    · refine ⟨(hR p hp).1, fun e => old hL p hp e.symm, ?_⟩
      cases q : hb.get? p.1 with
      | none => rfl
      | some x => exact absurd rfl (old (hbe _ _ q) p hp)
    · exact N p (List.mem_append_right _ hp)
  · rcases List.mem_append.mp hq with hq | hq
    · rcases List.mem_cons.mp hp with rfl | hp
      · exact old (hmu (a, o) (.head _)) q hq
      · exact old (hmu p (.tail _ hp)) q hq
    · exact d p hp q hq
theorem St.openU (F : St hb L h m ((a, o) :: mu) Φ) : ∃ R, News hb L h ((a, o) :: (mu ++ R)) ∧ (∀ p ∈ mu ++ R, p.1 ≠ a) ∧
    (∀ h' m' o', Fr hb L h' m' → News hb L h' ((a, o') :: (mu ++ R)) → St hb L h' m' ((a, o') :: mu) Φ) := by
  obtain ⟨f, ⟨R, N, d, c⟩, n⟩ := F
  rw [List.map_cons, List.nodup_cons] at n
  refine ⟨R, N, fun p hp e => ?_, fun h' m' o' F' N' => ⟨F', ⟨R, N', fun p hp q hq => ?_, c⟩, by rw [List.map_cons, List.nodup_cons]; exact n⟩⟩
  · rcases List.mem_append.mp hp with hp | hp
    · exact n.1 (List.mem_map.mpr ⟨p, hp, e⟩)
    · exact d (a, o) (.head _) p hp e.symm
  · rcases List.mem_cons.mp hp with rfl | hp
    · exact d (a, o) (.head _) q hq
    · exact d p (.tail _ hp) q hq
theorem St.hid (F : St hb L h m ((a, o) :: mu) Φ) : Ext hb (hideAll h [a]) := fun b x e => hideAll_get [a] (F.ext b x e) (by
  intro hm
  have := (F.news (a, o) (.head _)).2.2
  rw [← List.mem_singleton.mp hm, e] at this; cases this)
end

def AddsM (hb : Heap) (L : Addr) (h : Heap) (m : Str → Option Value) (a : Addr) (o : Obj) (mu : Led) (Φ : Heap → Prop) (R : Led) : Prop :=
  ∀ ψ : Heap → Prop, (∀ x, Has x R → ψ x) → St hb L h m ((a, o) :: mu) (fun x => Φ x ∧ ψ x)
theorem Mut.code {w : World} {f : Addr} {args : List Value} {d u d' u' : Nat} {a : Addr} {o : Obj} {pre : Obj → Heap → Prop} {post : Obj → Obj → Led → Value → Prop} {A : Around} {s : Shared} {Rr : Result → Shared → Prop} {hb : Heap} {L : Addr} {m : Str → Option Value} {mu : Led} {Φ : Heap → Prop}
    (P : Mut w f args d u a pre post) (C : Cx A d' u') (T : Tp w hb) (F : St hb L s.heap m ((a, o) :: mu) Φ) (hp : pre o s.heap)
    (k : ∀ v h' tk o' R, post o o' R v → AddsM hb L h' m a o' mu Φ R → (∀ p ∈ R, h'.get? p.1 = some p.2 ∧ s.heap.get? p.1 = none) → Rr (.ok (.ret v)) { s with heap := h', toks := tk }) (hd : d ≤ d' := by omega) (hu : u ≤ u' := by omega) : codeAny (model PP w) A (.call (.ref f) ⟨args, []⟩) Rr s :=
  P A s Rr o (C.less hd hu) (T.keeps F.hid) (F.get (.head _)) hp fun v h' tk o' R hk ho hR hq => k v h' tk o' R hq (fun ψ hψ => F.callM hk ho hR hψ) hR
theorem Mut.use {w : World} {f : Addr} {args : List Value} {d u d' u' : Nat} {a : Addr} {o : Obj} {pre : Obj → Heap → Prop} {post : Obj → Obj → Led → Value → Prop} {A : Around} {s : Shared} {Q : Value → Shared → Prop} {hb : Heap} {L : Addr} {m : Str → Option Value} {mu : Led} {Φ : Heap → Prop}
    (P : Mut w f args d u a pre post) (C : Cx A d' u') (T : Tp w hb) (F : St hb L s.heap m ((a, o) :: mu) Φ) (hp : pre o s.heap)
    (k : ∀ v h' tk o' R, post o o' R v → AddsM hb L h' m a o' mu Φ R → Q v { s with heap := h', toks := tk }) (hd : d ≤ d' := by omega) (hu : u ≤ u' := by omega) : wpAny (model PP w) A (call (.ref f) args) Q NoE s :=
  wpAny_call (P.code C T F hp (fun v h' tk o' R h1 h2 _ => k v h' tk o' R h1 h2) hd hu)

def DoneM (hb : Heap) (a : Addr) (o : Obj) (s : Shared) (post : Obj → Obj → Led → Value → Prop) (v : Value) (s' : Shared) : Prop :=
  ∃ L h' tk m mu Φ o', s' = { s with heap := h', toks := tk } ∧ St hb L h' m ((a, o') :: mu) Φ ∧ ∀ R, (∀ h, Has h R → Φ h) → post o o' R v
theorem hid_start {s : Shared} {a : Addr} {o : Obj} {h₁ : Heap} {m : Str → Option Value} (ho : s.heap.get? a = some o) (hns : h₁.Ns s.heap.objs.size m) (hk₁ : Ext s.heap h₁) : St (hideAll s.heap [a]) s.heap.objs.size h₁ m [(a, o)] (fun _ => True) :=
  ⟨⟨hns, fun b x e => hk₁ b x (of_hideAll _ e), Nat.le_of_eq (hideAll_size _ _)⟩, ⟨[], fun p hp => by
    rw [List.append_nil] at hp
    rw [List.mem_singleton.mp hp]
    exact ⟨hk₁ _ _ ho, Nat.ne_of_lt (Heap.lt_size ho), hideAll_none _ (.head _)⟩, (fun _ _ _ hq => nomatch hq), fun _ _ => trivial⟩, by simp⟩
theorem DoneM.back {s s' : Shared} {a : Addr} {o : Obj} {post : Obj → Obj → Led → Value → Prop} {v : Value} {R : Result → Shared → Prop} (x : DoneM (hideAll s.heap [a]) a o s post v s')
    (k : ∀ v h' tk o' N, Heap.ExtBut a s.heap h' → h'.get? a = some o' → (∀ p ∈ N, h'.get? p.1 = some p.2 ∧ s.heap.get? p.1 = none) → post o o' N v → R (.ok (.ret v)) { s with heap := h', toks := tk }) : R (.ok (.ret v)) s' := by
  obtain ⟨L', h', tk, m, mu, Φ, o', rfl, F, hΦ⟩ := x
  obtain ⟨f, ⟨R', N, d, c⟩, n⟩ := F
  refine k _ h' tk o' R' (fun b x hb e => f.keep b x (hideAll_get [a] e (by simpa using hb))) (N (a, o') (by simp)).1 (fun p hp => ?_) (hΦ R' c)
  have z := N p (List.mem_append_right _ hp)
  refine ⟨z.1, ?_⟩
  cases q : s.heap.get? p.1 with
  | none => rfl
  | some x =>
    have := hideAll_get [a] q (by
      intro hm
      exact d (a, o') (.head _) p hp (List.mem_singleton.mp hm).symm)
    rw [z.2.2] at this; cases this
theorem Mut.intro {w : World} {f : Addr} {args : List Value} {d u : Nat} {a : Addr} {pre : Obj → Heap → Prop} {post : Obj → Obj → Led → Value → Prop}
    {name qual : Str} {params : Arguments} {body : List Stmt} {scope : Scope} {dV kV doc pm cdv ct oc : Value} {an od : Option Addr} {osl : Array (Option Value)} {binds : List (Str × Value)}
    (ho : (Mine.hd.heap_39 w.params).lookup f = some ⟨oc, od, .func (fnOf name qual params body scope dV kV doc pm an cdv ct), osl⟩) (hcd : codeIn (Mine.hd.heap_39 w.params) cdv qual = true)
    (hbind : ∀ s, (KK w).In s.heap → BindsTo s (fnOf name qual params body scope dV kV doc pm an cdv ct) ⟨args, []⟩ binds) (hloc : ∀ y ∈ binds, scope.names.lookup y.1 = some .local)
    (hco : scope.isCoroutine = false) (hgen : scope.isGenerator = false) (hk : scope.kind = .function) (hcell : ∀ x ∈ scope.names, x.2 ≠ .cell)
    (h : ∀ A s h₁ tk o, Cx A d u → Tp w (hideAll s.heap [a]) → s.heap.get? a = some o → pre o s.heap → St (hideAll s.heap [a]) s.heap.objs.size h₁ (fun y => binds.reverse.lookup y) [(a, o)] (fun _ => True) →
      wpAny (model PP w) A (execs body (envOf qual scope s.heap.objs.size f cdv)) (fun fl s' => DoneM (hideAll s.heap [a]) a o s post (match fl with | .ret v => v | _ => .none) s') NoE { s with heap := h₁, toks := tk }) :
    Mut w f args (d + 1) (u + 3) a pre post := by
  intro A s R o C T hoa hp k
  have C' : Cx (A.deeper (envOf qual scope s.heap.objs.size f cdv)) d u :=
    ⟨C.hd, by have := C.dp; show A.depth + 1 + d < _; omega, by have := C.un; show A.units + 3 + u < _; omega⟩
  obtain ⟨mean, mg, mb, T'⟩ := T.T
  have up : Ext (hideAll s.heap [a]) s.heap := fun b x e => of_hideAll _ e
  have X : (KK w).In s.heap := fun b x e => up _ _ (T.K b x e)
  refine codeAny_call_def (fd := fnOf name qual params body scope dV kV doc pm an cdv ct) (body := body) (binds := binds) (by have := C.dp; omega) (X _ _ ho) rfl (T'.nolimit.keeps up) (codeRec_of X hcd) rfl (hbind s X) hcell hloc (fun h₁ hns hk₁ => ?_) hco hgen hk
  refine wpAny_mono (h _ s h₁ _ o C' T hoa hp (hid_start hoa hns hk₁)) (fun fl s' hl => ?_) (fun _ _ x => x.elim)
  exact hl.back k

section
variable {w : World} {A : Around} {hb h : Heap} {L x : Addr} {m : Str → Option Value} {mu : Led} {Φ : Heap → Prop} {g : Array GenState} {dr : Drawn} {tk : Nat} {os : OsState} {env : Env}
  {v : Value} {Q : Value → Shared → Prop} {QU : Unit → Shared → Prop} {E : Value → Shared → Prop}
/-- an attribute stored -/
theorem z_set {C dx : Addr} {es es' : List DictEntry} {n n' : Nat} {name : Str} (T : Tp w hb) (F : St hb L h m ((dx, dictOf es n) :: mu) Φ) (h1 : h.get? x = some (instObj C dx))
    (hs : findIn (KK w) (.ref C) "__setattr__" = some (some (.builtin "object.__setattr__"))) (hp : plainOver (KK w) C = true) (ht : takerIn (KK w) C name = some none) (hh : hasDictIn (KK w) C = true) (hl : (getL name es).isSome = true)
    (e : (putL name (PyData.keyHash w.params name) (.str name (tk + 1)) v es, putN name es n) = (es', n')) (hz : es'.length ≤ 1000)
    (k : ∀ h', St hb L h' m ((dx, dictOf es' n') :: mu) Φ → QU () ⟨h', g, dr, tk + 2, os⟩) : wpAny (model PP w) A (setAttr (.ref x) name v) QU E ⟨h, g, dr, tk, os⟩ := by
  obtain ⟨R, N, hne, f⟩ := F.openU
  exact set_dict (s := ⟨h, g, dr, tk, os⟩) F.fr T.K N (inst_at h1 (F.get (.head _))) rfl hs hp ht hh hl e (.head hne) hz fun h' F' N' => k h' (f _ _ _ F' N')
/-- an object made -/
theorem z_make {C fI : Addr} {args : List Value} (T : Tp w hb) (F : St hb L h m mu Φ) (hm : makesIn (KK w) C = true) (hi : findIn (KK w) (.ref C) "__init__" = some (some (.ref fI))) (hf : isFn (KK w) (.ref fI) = true)
    (k : ∀ x dx h', St hb L h' m ((dx, dictOf [] 0) :: mu) (fun y => Φ y ∧ y.get? x = some (instObj C dx)) → h.get? x = none →
      codeAny (model PP w) (A.under (.builtin "type.__call__" ⟨.ref C :: args, []⟩)) (.call (.ref fI) ⟨.ref x :: args, []⟩) (InitBack x fun r s' => match r with | .ok (.ret v) => Q v s' | .ok _ => False | .error e => E e s') ⟨h', g, dr, tk, os⟩) :
    wpAny (model PP w) A (call (.ref C) args) Q E ⟨h, g, dr, tk, os⟩ := by
  have X := T.K.keeps F.ext
  refine wpAny_call (make_core (makes_of X hm) (looks_findIn X hi) (fun self => bind_fn X self (beq_iff_eq.mp hf)) (.inl rfl) ?_)
  have F1 := F.alloc_mu (emptyDict)
  have F2 := F1.alloc_fz (instObj C h.objs.size)
  rw [Heap.size_push] at F2
  exact k _ _ _ F2 (Heap.get?_none_of_le (Nat.le_succ _))
theorem cx_make {d u : Nat} {C : Addr} {args : List Value} (x : Cx A (d + 1) (u + 8)) : Cx (A.under (.builtin "type.__call__" ⟨.ref C :: args, []⟩)) d u := by
  have e1 : (Code.builtin "type.__call__" ⟨.ref C :: args, []⟩).weight = 1 := by kernel_rfl
  have e2 : (Code.builtin "type.__call__" ⟨.ref C :: args, []⟩).cUnits = 1 := by kernel_rfl
  exact ⟨x.hd, by have := x.dp; show A.depth + _ + d < _; rw [e1]; omega, by have := x.un; show A.units + _ + u < _; rw [e2]; omega⟩
end
end Mine
namespace Mine
section
variable {w : World} {A : Around} {hb h : Heap} {L : Addr} {m : Str → Option Value} {mu : Led} {Φ : Heap → Prop} {g : Array GenState} {dr : Drawn} {tk : Nat} {os : OsState} {Q : Value → Shared → Prop} {E : Value → Shared → Prop}
theorem z_copyM {l : Addr} {items : Array Value} (F : St hb L h m mu Φ) (hl : h.IsList l items) (hsz : items.size ≤ sizeLine) (k : ∀ D c h', St hb L h' m ((D, listOf items c) :: mu) Φ → Q (.ref D) ⟨h', g, dr, tk, os⟩) :
    wpAny (model PP w) A (call (.type "list") [.ref l]) Q E ⟨h, g, dr, tk, os⟩ := by
  obtain ⟨o, ho, hc, n, hd⟩ := hl
  exact call_list_seq (s := ⟨h, g, dr, tk, os⟩) (hsz := hsz) l (.inl rfl) ho hc hd fun h' c' hk hD => k _ c' h' (F.newL hk [(h.objs.size, listOf items c')] (by
    intro p hp
    rw [List.mem_singleton.mp hp]
    exact ⟨hD, Heap.get?_none_of_le (Nat.le_refl _)⟩) (by simp))
end
theorem inst_ne {h : Heap} {x C d dx : Addr} {n : Nat} {es : List DictEntry} (h1 : h.get? x = some (instObj C d)) (h2 : h.get? dx = some (dictOf es n)) : x ≠ dx := by
  intro e; rw [e, h2] at h1; cases h1
theorem hid_get {h : Heap} {a b : Addr} {o : Obj} (e : h.get? b = some o) (hne : b ≠ a) : (hideAll h [a]).get? b = some o := hideAll_get [a] e (by simpa using hne)
theorem list_ne {h : Heap} {l a : Addr} {vs : Array Value} {es : List DictEntry} {n k : Nat} (h1 : h.get? l = some (listOf vs n)) (h2 : h.get? a = some (dictOf es k)) : l ≠ a := fun e => by
  rw [e, h2] at h1
  have := congrArg (fun x : Option Obj => x.map Obj.cls) h1
  simp at this
theorem tok_init (w : World) (x dx : Addr) (k t : Str) (t1 t2 : Tok) : Mut w 147 [.ref x, .str k t1, .str t t2, .none] 1 3 dx (fun o h => o = dictOf [] 0 ∧ h.get? x = some (instObj 164 dx))
    (fun o o' R v => v = .none ∧ ∃ u1 u2 u3 u4 n, o' = dictOf [ent w "kind" u1 (.str k t1), ent w "text" u2 (.str t t2), ent w "at" u3 .none, ent w "worth" u4 (.str t t2)] n) := by
  refine' Mut.intro (binds := [(Str.ofString "self", .ref x), (Str.ofString "kind", .str k t1), (Str.ofString "text", .str t t2), (Str.ofString "at", .none), (Str.ofString "worth", .none)]) (d := 0) (u := 0) (by exact rfl) (by exact rfl) (fun _ X => BindsTo.of_defaults rfl (X _ _ rfl) rfl rfl rfl) (locs rfl) rfl rfl rfl (by decide) ?_
  intro A s h₁ tk o C T hdx hp F
  obtain ⟨rfl, hx⟩ := hp
  have hne := inst_ne hx hdx
  have hx' := hid_get hx hne
  refine wpAny_execs_cons (plainObj_wpAny_Assign_Attribute (z_ld F rfl (z_ld F rfl (z_set T F (F.ext _ _ hx') (by exact rfl) (by exact rfl) (by exact rfl) (by exact rfl) rfl rfl (Nat.le_of_ble_eq_true rfl) fun h' F => ?_))))
  refine wpAny_execs_cons (plainObj_wpAny_Assign_Attribute (z_ld F rfl (z_ld F rfl (z_set T F (F.ext _ _ hx') (by exact rfl) (by exact rfl) (by exact rfl) (by exact rfl) rfl rfl (Nat.le_of_ble_eq_true rfl) fun h' F => ?_))))
  refine wpAny_execs_cons (plainObj_wpAny_Assign_Attribute (z_ld F rfl (z_ld F rfl (z_set T F (F.ext _ _ hx') (by exact rfl) (by exact rfl) (by exact rfl) (by exact rfl) rfl rfl (Nat.le_of_ble_eq_true rfl) fun h' F => ?_))))
  refine wpAny_execs_cons (plainObj_wpAny_Assign_Attribute (IfExp_ (wpAny_isTrue_Compare1 (z_ld F rfl (wpAny_Constant_none (is_none_none (wpAny_truthy_bool (z_t rfl (z_ld F rfl (z_ld F rfl (z_set T F (F.ext _ _ hx') (by exact rfl) (by exact rfl) (by exact rfl) (by exact rfl) rfl rfl (Nat.le_of_ble_eq_true rfl) fun h' F => wpAny_execs_nil ?_)))))))))))
  exact ⟨_, _, _, _, _, _, _, rfl, F, fun R hR => ⟨rfl, _, _, _, _, _, rfl⟩⟩
theorem tree_init (w : World) (x dx l : Addr) (nm : Str) (r : Int) (t1 t2 : Tok) (vs : List Value) (hsz : vs.length ≤ 200) : Mut w 35 [.ref x, .str nm t1, .int r t2, .ref l] 1 3 dx (fun o h => o = dictOf [] 0 ∧ h.get? x = some (instObj 83 dx) ∧ ∃ n, h.get? l = some (listOf vs.toArray n))
    (fun o o' R v => v = .none ∧ ∃ u1 u2 u3 n l2, o' = dictOf [ent w "name" u1 (.str nm t1), ent w "rule" u2 (.int r t2), ent w "children" u3 (.ref l2)] n ∧ ∀ h, Has h R → ∃ n, h.get? l2 = some (listOf vs.toArray n)) := by
  refine' Mut.intro (binds := [(Str.ofString "self", .ref x), (Str.ofString "name", .str nm t1), (Str.ofString "rule", .int r t2), (Str.ofString "children", .ref l)]) (d := 0) (u := 0) (by exact rfl) (by exact rfl) (fun _ _ => BindsTo.of_eq rfl) (locs rfl) rfl rfl rfl (by decide) ?_
  intro A s h₁ tk o C T hdx hp F
  obtain ⟨rfl, hx, n, hl⟩ := hp
  have hne := inst_ne hx hdx
  have hx' := hid_get hx hne
  have hl' := hid_get (a := dx) hl (list_ne hl hdx)
  refine wpAny_execs_cons (plainObj_wpAny_Assign_Attribute (z_ld F rfl (z_ld F rfl (z_set T F (F.ext _ _ hx') (by exact rfl) (by exact rfl) (by exact rfl) (by exact rfl) rfl rfl (Nat.le_of_ble_eq_true rfl) fun h' F => ?_))))
  refine wpAny_execs_cons (plainObj_wpAny_Assign_Attribute (z_ld F rfl (z_ld F rfl (z_set T F (F.ext _ _ hx') (by exact rfl) (by exact rfl) (by exact rfl) (by exact rfl) rfl rfl (Nat.le_of_ble_eq_true rfl) fun h' F => ?_))))
  refine wpAny_execs_cons (plainObj_wpAny_Assign_Attribute (Call_ (z_bn T F (by exact rfl) (v := .type "list") (by boot_fast) (by decide) (z_cwT (spliced_more (z_ld F rfl (spliced_none (z_copyM F ⟨_, F.ext _ _ hl', rfl, _, rfl⟩ (sz_lt (by simp; omega)) fun l2 c h' F => ?_))))))))
  have F := F.freeze
  refine z_ld F rfl (z_set T F (F.ext _ _ hx') (by exact rfl) (by exact rfl) (by exact rfl) (by exact rfl) rfl rfl (Nat.le_of_ble_eq_true rfl) fun h' F => wpAny_execs_nil ?_)
  exact ⟨_, _, _, _, _, _, _, rfl, F, fun R hR => ⟨rfl, _, _, _, _, l2, rfl, fun h hh => ⟨c, (hR h hh).2⟩⟩⟩
theorem leaf_init (w : World) (x dx ta td : Addr) (k : Str) (t1 : Tok) : Mut w 101 [.ref x, .ref ta] 1 3 dx (fun o h => o = dictOf [] 0 ∧ h.get? x = some (instObj 118 dx) ∧ h.get? ta = some (instObj 164 td) ∧ ∃ es n, h.get? td = some (dictOf es n) ∧ getL "kind" es = some (some (.str k t1)))
    (fun o o' R v => v = .none ∧ ∃ u1 u2 u3 u4 t2 n l, o' = dictOf [ent w "name" u1 (.str k t1), ent w "rule" u2 (.int 0 t2), ent w "children" u3 (.ref l), ent w "token" u4 (.ref ta)] n ∧ ∀ h, Has h R → h.get? l = some (listOf #[] 0)) := by
  refine' Mut.intro (binds := [(Str.ofString "self", .ref x), (Str.ofString "token", .ref ta)]) (d := 0) (u := 0) (by exact rfl) (by exact rfl) (fun _ _ => BindsTo.of_eq rfl) (locs rfl) rfl rfl rfl (by decide) ?_
  intro A s h₁ tk o C T hdx hp F
  obtain ⟨rfl, hx, hta, es, n, htd, hk⟩ := hp
  have hx' := hid_get hx (inst_ne hx hdx)
  have hta' := hid_get hta (inst_ne hta hdx)
  have htd' := hid_get (a := dx) htd (by intro e; rw [e, hdx] at htd; have e2 := congrArg (fun x : Option Obj => x.map Obj.data) htd; simp at e2; rw [e2.1] at hk; cases hk)
  refine wpAny_execs_cons (plainObj_wpAny_Assign_Attribute (Attribute_any_ (z_ld F rfl (z_get T F (F.ext _ _ hta') (F.ext _ _ htd') (kk_pg164 w _) (kk_hd164 w) hk rfl (z_ld F rfl (z_set T F (F.ext _ _ hx') (by exact rfl) (by exact rfl) (by exact rfl) (by exact rfl) rfl rfl (Nat.le_of_ble_eq_true rfl) fun h' F => ?_))))))
  refine wpAny_execs_cons (plainObj_wpAny_Assign_Attribute (z_int fun t2 tk => z_ld F rfl (z_set T F (F.ext _ _ hx') (by exact rfl) (by exact rfl) (by exact rfl) (by exact rfl) rfl rfl (Nat.le_of_ble_eq_true rfl) fun h' F => ?_)))
  refine wpAny_execs_cons (plainObj_wpAny_Assign_Attribute (List_ (spliced_none (z_list F (sz_lt (by simp)) fun l h' F => z_ld F rfl (z_set T F (F.ext _ _ hx') (by exact rfl) (by exact rfl) (by exact rfl) (by exact rfl) rfl rfl (Nat.le_of_ble_eq_true rfl) fun h' F => ?_)))))
  refine wpAny_execs_cons (plainObj_wpAny_Assign_Attribute (z_ld F rfl (z_ld F rfl (z_set T F (F.ext _ _ hx') (by exact rfl) (by exact rfl) (by exact rfl) (by exact rfl) rfl rfl (Nat.le_of_ble_eq_true rfl) fun h' F => wpAny_execs_nil ?_))))
  exact ⟨_, _, _, _, _, _, _, rfl, F, fun R hR => ⟨rfl, _, _, _, _, _, _, l, rfl, fun h hh => (hR h hh).2⟩⟩
end Mine
namespace Mine
def MadeR (w : World) (p : P) (R : Led) (v : Value) : Prop := ∃ o : O, v = .ref o.addr ∧ o.plain = p ∧ (∀ h, Has h R → o.At w h) ∧ (o.post.map O.addr).Nodup
theorem O.posts_append : ∀ (xs ys : List O), O.posts (xs ++ ys) = O.posts xs ++ O.posts ys
  | [], ys => rfl
  | x :: xs, ys => by rw [List.cons_append, O.posts, O.posts_append xs ys, O.posts, List.append_assoc]
theorem O.posts_at {w : World} {h : Heap} : ∀ {cs : List O}, O.Ats w h cs → ∀ p ∈ O.posts cs, O.At w h p
  | [], _, p, hp => by rw [O.posts] at hp; cases hp
  | c :: cs, x, p, hp => by
    rw [O.posts] at hp
    rw [O.Ats] at x
    rcases List.mem_append.mp hp with hp | hp
    · exact O.post_at x.1 p hp
    · exact O.posts_at x.2 p hp
theorem O.Ats.snoc {w : World} {h : Heap} {cs : List O} {o : O} (x : O.Ats w h cs) (y : O.At w h o) : O.Ats w h (cs ++ [o]) := O.Ats.of fun c hc => by
  rcases List.mem_append.mp hc with hc | hc
  · exact x.mem c hc
  · rw [List.mem_singleton.mp hc]; exact y

theorem O.At.there {w : World} {h : Heap} {o : O} (x : o.At w h) : ∃ b, h.get? o.addr = some b := by
  cases o with
  | leaf => rw [O.At] at x; exact ⟨_, x.1⟩
  | node => rw [O.At] at x; exact ⟨_, x.1.1⟩

theorem made_ok (w : World) : ∀ n (p : P) (v : Value), p.ht < n → p.Ok → p.size ≤ 200 → Pur w 199 [v] (n + 3) (3 * n + 15) (fun h => RD h v p.data) (MadeR w p) := by
  intro n
  induction n with
  | zero => intro p v hn; exact absurd hn (Nat.not_lt_zero _)
  | succ n ih =>
    intro p v hn hok hsz
    refine' Pur.intro (binds := [(Str.ofString "plain", v)]) (d := n + 1 + 2) (u := 3 * n + 15) (by exact rfl) (by exact rfl) (fun _ _ => BindsTo.of_eq rfl) (locs rfl) rfl rfl rfl (by decide) ?_
    intro A s h₁ tk C T hp F
    cases p with
    | leaf k tx =>
      obtain ⟨a, t0, t1, t2, rfl, ht⟩ := RD.leaf hp
      refine wpAny_execs_cons (wpAny_If (wpAny_isTrue_Compare1 (Subscript_ (z_ld F rfl (z_int fun t tk => z_itemT (ht.keeps F.ext) (by decide) (by decide) rfl rfl (z_int fun t tk => z_eqi (z_t rfl ?_)))))))
      refine wpAny_execs_cons (wpAny_Return_some (Call_ (z_gl T F rfl (z_cw T (by exact rfl) (spliced_more (Call_ (z_gl T F rfl (z_cw T (by exact rfl) (spliced_more (Subscript_ (z_ld F rfl (z_int fun t tk => z_itemT (ht.keeps F.ext) (by decide) (by decide) rfl rfl (spliced_more (Subscript_ (z_ld F rfl (z_int fun t tk => z_itemT (ht.keeps F.ext) (by decide) (by decide) rfl rfl (spliced_more (wpAny_Constant_none (spliced_none ⟨T.keeps F.ext, ?_⟩)))))))))))))))))))
      refine z_make T F (by exact rfl) (by exact rfl) (by exact rfl) fun x dx h' F hx0 => ?_
      refine Mut.code (tok_init w x dx k tx t1 t2) (cx_make (C.less (d' := 1 + 1) (u' := 3 + 8) (by omega) (by omega))) T F ⟨rfl, F.now.2⟩ fun v h' tk' o' R hpost hadd hfr => ?_
      obtain ⟨rfl, u1, u2, u3, u4, nn, rfl⟩ := hpost
      have F := (hadd (fun _ => True) fun _ _ => trivial).freeze
      refine And.intro rfl (spliced_none ⟨T.keeps F.ext, ?_⟩)
      refine z_make T F (by exact rfl) (by exact rfl) (by exact rfl) fun x2 dx2 h' F hx2 => ?_
      refine Mut.code (leaf_init w x2 dx2 x dx k t1) (cx_make (C.less (d' := 1 + 1) (u' := 3 + 8) (by omega) (by omega))) T F ⟨rfl, F.now.2, F.now.1.1.1.2, _, _, F.now.1.2, rfl⟩ fun v h' tk' o' R hpost hadd hfr => ?_
      obtain ⟨rfl, u5, u6, u7, u8, t6, nn2, l, rfl, hl⟩ := hpost
      have F := (hadd _ hl).freeze
      refine And.intro rfl ?_
      refine ⟨_, _, _, _, _, _, rfl, F, fun R hR => ⟨.leaf x2 dx2 l x dx k tx, rfl, rfl, fun h hh => ?_, by simp [O.post]⟩⟩
      have z := hR h hh
      rw [O.At]
      exact ⟨z.1.1.2, ⟨_, _, _, _, _, _, _, z.2⟩, ⟨0, z.1.2⟩, z.1.1.1.1.1.2, ⟨_, _, _, _, _, _, _, _, z.1.1.1.2⟩⟩
    | node r nm cs =>
      obtain ⟨a, t0, t1, l, rfl, ht, vs, n', o', hlo, hlc, hld, hr⟩ := RD.node hp
      simp only [P.ht] at hn
      simp only [P.size] at hsz
      have hlen := hr.len
      rw [P.datas_len, Array.length_toList] at hlen
      have hcl := P.len_le cs
      refine wpAny_execs_cons (wpAny_If (wpAny_isTrue_Compare1 (Subscript_ (z_ld F rfl (z_int fun t tk => z_itemT (ht.keeps F.ext) (by decide) (by decide) rfl rfl (z_int fun t tk => z_eqi (z_f (by simpa using hok.1.1) (wpAny_execs_nil ?_))))))))
      refine wpAny_execs_cons (z_asLC (Subscript_ (z_ld F rfl (z_int fun t tk => z_itemT (ht.keeps F.ext) (by decide) (by decide) rfl rfl ?_))))
      refine z_lcLM (items := vs) C.hd ⟨o', F.ext _ _ hlo, hlc, _, hld⟩ F (fun i ys Φ => ∃ os, ys = refs os ∧ O.plains os = cs.take i ∧ (∀ h, Φ h → O.Ats w h os) ∧ ((O.posts os).map O.addr).Nodup) ⟨[], rfl, rfl, fun h _ => by rw [O.Ats]; trivial, by simp [O.posts]⟩ (sz_lt (by omega)) ?_ ?_
      · rintro hc C' i v ys Φ₁ h₁ tk₁ mc it hk hi hv ⟨os, rfl, hpl, hat, hnd⟩ hys G
        obtain ⟨c, hcc⟩ : ∃ c, cs[i]? = some c := ⟨cs[i]'(by omega), by simp⟩
        have hcv : RD s.heap v c.data := hr.at (i := i) (by simpa using hv) (by rw [P.datas_get, hcc]; rfl)
        have kc : Ext s.heap hc := fun b o e => hk b o (F.ext b o e)
        have T' : Tp w hc := T.keeps kc
        refine y_as G fun h' tk' G => z_tests0 (z_t rfl ?_)
        refine Call_ (y_gl T' G rfl (z_cw T' (by exact rfl) (spliced_more (y_ld G rfl (spliced_none ⟨T'.keeps G.ext, ?_⟩)))))
        refine Pur.useN (ih c v (by have := P.ht_lt hcc; omega) (P.ok_at hok.2 hcc) (by have := P.size_le hcc; omega)) C T' G (hcv.keeps (kc.trans G.ext)) fun x h'' tk' R hpost hadd hfr hext => ?_
        obtain ⟨o, rfl, hop, hoat, hond⟩ := hpost
        refine ⟨_, _, _, _, rfl, hadd _ hoat, os ++ [o], by rw [refs_snoc], ?_, fun h hh => (hat h hh.1).snoc hh.2, ?_⟩
        · rw [O.plains_append, hpl, take_snoc hcc]; simp [O.plains, hop]
        · rw [O.posts_append, List.map_append, List.nodup_append]
          refine ⟨hnd, by simpa [O.posts] using hond, fun x hx y hy e => ?_⟩
          obtain ⟨p, hp, rfl⟩ := List.mem_map.mp hx
          obtain ⟨q, hq, rfl⟩ := List.mem_map.mp hy
          have hq : q ∈ o.post := by simpa [O.posts] using hq
          obtain ⟨b, hb⟩ := (O.posts_at (hat _ G.now) p hp).there
          have hm := mem_of_has (a := q.addr) (fun p hp => (hfr p hp).1) fun h hh => (O.post_at (hoat h hh) q hq).there
          obtain ⟨z, hz, ez⟩ := List.mem_map.mp hm
          have hz0 : h'.get? z.1 = none := (hfr z hz).2
          rw [ez, ← e, hb] at hz0
          cases hz0
      rintro C' D h' tk' ys Φ' oC mm ⟨os, rfl, hpl, hat, hnd⟩ hys hns G
      rw [hlen, List.take_length] at hpl
      rw [hlen] at hys
      have hosl : os.length ≤ 200 := by simp only [List.length_map] at hys; omega
      refine post_some hns G fun h'' tk' F => ?_
      refine wpAny_execs_cons (wpAny_Assign_Name (Call_ (z_gl T F rfl (z_cw T (by exact rfl) (spliced_more (Subscript_ (z_ld F rfl (z_int fun t tk => z_itemT (ht.keeps F.ext) (by decide) (by decide) rfl rfl (spliced_more (Subscript_ (z_ld F rfl (z_int fun t tk => z_itemT (ht.keeps F.ext) (by decide) (by decide) rfl rfl (spliced_more (z_ld F rfl (spliced_none ⟨T.keeps F.ext, ?_⟩)))))))))))))))
      have hbefore : ∀ p ∈ O.posts os, ∃ b, h''.get? p.addr = some b := fun p hp => (O.posts_at (hat _ F.now.2) p hp).there
      refine z_make T F (by exact rfl) (by exact rfl) (by exact rfl) fun x dx h' F hx0 => ?_
      refine Mut.code (tree_init w x dx D nm r t1 t0 (refs os) (by simpa using hosl)) (cx_make (C.less (d' := 1 + 1) (u' := 3 + 8) (by omega) (by omega))) T F ⟨rfl, F.now.2, _, F.get (.tail _ (.head _))⟩ fun v h' tk' o' R hpost hadd hfr => ?_
      obtain ⟨rfl, u1, u2, u3, nn, l2, rfl, hl2⟩ := hpost
      have F := (hadd _ hl2).freeze
      refine And.intro rfl (z_st F fun h' tk' F => ?_)
      refine wpAny_execs_cons (wpAny_Expr (MethodCall_ (z_ld F rfl (z_mapp (F.get (.head _)) (z_cb1 (spliced_more (wpAny_Constant_none (spliced_none (z_app F (sz_lt (by simp; omega)) fun h' F => ?_)))))))))
      refine wpAny_execs_cons (wpAny_Return_some (z_ld F rfl ?_))
      refine ⟨_, _, _, _, _, _, rfl, F, fun R hR => ⟨.node x dx l2 r nm os, rfl, ?_, fun h hh => ?_, ?_⟩⟩
      · rw [O.plain, hpl]
      · have z := hR h hh
        rw [O.At]
        exact ⟨⟨z.1.1.2, ⟨_, _, _, _, _, _, z.2⟩, z.1.2⟩, hat h z.1.1.1.2⟩
      · rw [O.post, List.map_append, List.nodup_append]
        refine ⟨hnd, by simp, fun y hy z hz e => ?_⟩
        have hz : z = x := by simpa [O.addr] using hz
        obtain ⟨p, hp, rfl⟩ := List.mem_map.mp hy
        obtain ⟨b, hb⟩ := hbefore p hp
        rw [e, hz, hx0] at hb
        cases hb
end Mine
namespace Mine
section
variable {w : World} {A : Around} {hb h : Heap} {L : Addr} {m : Str → Option Value} {mu : Led} {Φ : Heap → Prop} {g : Array GenState} {dr : Drawn} {tk : Nat} {os : OsState} {env : Env} {pos : Pos}
  {Q : Value → Shared → Prop} {QB : Bool → Shared → Prop} {QU : Unit → Shared → Prop} {E : Value → Shared → Prop}
theorem z_setL {D : Addr} {o : Obj} {items : Array Value} {n : Nat} {i : Int} {t : Tok} {v : Value} (F : St hb L h m ((D, o) :: mu) Φ) (hc : o.cls = .type "list") (hd : o.data = .seq items n) (h0 : 0 ≤ i) (hfit : i < 2 ^ 63) (hn : i < items.size)
    (k : ∀ h' o' n', o'.cls = .type "list" → o'.data = .seq (items.setIfInBounds i.toNat v) n' → St hb L h' m ((D, o') :: mu) Φ → QU () ⟨h', g, dr, tk, os⟩) : wpAny (model PP w) A (setItem (.ref D) (.int i t) v) QU E ⟨h, g, dr, tk, os⟩ := by
  refine wpAny_setItem_list (s := ⟨h, g, dr, tk, os⟩) ⟨o, F.get (.head _), hc, n, hd⟩ h0 hfit hn fun h' hl hs => ?_
  obtain ⟨o', e1, e2, n', e3⟩ := hl
  exact k h' o' n' e2 e3 (F.upd0 hs.extBut e1)
theorem z_gti {i j : Int} {t u : Tok} (k : QB (decide (i > j)) ⟨h, g, dr, tk, os⟩) : wpAny (model PP w) A (compareOp .Gt (.int i t) (.int j u)) (fun c s₃ => wpAny (model PP w) A (truthy c) QB E s₃) E ⟨h, g, dr, tk, os⟩ := gt_int (wpAny_truthy_bool k)
theorem z_lti {i j : Int} {t u : Tok} (k : QB (decide (i < j)) ⟨h, g, dr, tk, os⟩) : wpAny (model PP w) A (compareOp .Lt (.int i t) (.int j u)) (fun c s₃ => wpAny (model PP w) A (truthy c) QB E s₃) E ⟨h, g, dr, tk, os⟩ := lt_int (wpAny_truthy_bool k)
theorem z_gei {i j : Int} {t u : Tok} (k : QB (decide (j ≤ i)) ⟨h, g, dr, tk, os⟩) : wpAny (model PP w) A (compareOp .GtE (.int i t) (.int j u)) (fun c s₃ => wpAny (model PP w) A (truthy c) QB E s₃) E ⟨h, g, dr, tk, os⟩ := ge_int (wpAny_truthy_bool k)
theorem z_mul {i j : Int} {t u : Tok} (hm : IntMulOk i j) (k : ∀ t tk', Q (.int (i * j) t) ⟨h, g, dr, tk', os⟩) : wpAny (model PP w) A (binaryOp .Mult (.int i t) (.int j u)) Q E ⟨h, g, dr, tk, os⟩ := PyProof.Rows.mul_int (k _ _) hm
theorem z_fdiv {i j : Int} {t u : Tok} (hj : j ≠ 0) (hs : j.natAbs < 1073741824) (k : ∀ t tk', Q (.int (i.fdiv j) t) ⟨h, g, dr, tk', os⟩) : wpAny (model PP w) A (binaryOp .FloorDiv (.int i t) (.int j u)) Q E ⟨h, g, dr, tk, os⟩ := PyProof.Rows.floordiv_int hj (k _ _) (.inl (PyProof.noPylong_small hs))
theorem z_p18 {t u : Tok} (k : ∀ t tk', Q (.int (10 ^ 18) t) ⟨h, g, dr, tk', os⟩) : wpAny (model PP w) A (binaryOp .Pow (.int 10 t) (.int 18 u)) Q E ⟨h, g, dr, tk, os⟩ :=
  PySem.AutoIntOps.pow_4 (s := ⟨h, g, dr, tk, os⟩) (by decide) (by decide) (by decide) (by decide) (by decide +kernel) (k _ _)
theorem z_abs {i : Int} {t : Tok} (k : ∀ t tk', Q (.int (if i < 0 then -i else i) t) ⟨h, g, dr, tk', os⟩) : wpAny (model PP w) A (call (.builtin "abs") [.int i t]) Q E ⟨h, g, dr, tk, os⟩ := PyProof.Rows.call_abs_int (s := ⟨h, g, dr, tk, os⟩) fun u tk => k u tk
end
/-- the pen: a list of four -/
def PenO (lc : Addr) (B : Nat) (o : Obj) : Prop := ∃ (spot carry seed : Int) (t0 t1 t2 : Tok) (n : Nat), o.cls = .type "list" ∧ o.data = .seq #[.ref lc, .int spot t0, .int carry t1, .int seed t2] n ∧ 0 ≤ spot ∧ spot ≤ B ∧ 0 ≤ seed ∧ seed ≤ 2000
def CellsAt (lc : Addr) (h : Heap) : Prop := ∃ (vs : List Value) (ns : List Int) (n : Nat), h.get? lc = some (listOf vs.toArray n) ∧ IntsAre vs ns ∧ vs.length ≤ 63
theorem PenO.mono {lc : Addr} {B B' : Nat} {o : Obj} (x : PenO lc B o) (h : B ≤ B') : PenO lc B' o := by
  obtain ⟨s, c, e, t0, t1, t2, n, h1, h2, h3, h4, h5⟩ := x
  exact ⟨s, c, e, t0, t1, t2, n, h1, h2, h3, by omega, h5⟩
theorem CellsAt.keeps {lc : Addr} {h h' : Heap} (x : CellsAt lc h) (k : Ext h h') : CellsAt lc h' := by
  obtain ⟨vs, ns, n, e, r⟩ := x; exact ⟨vs, ns, n, k _ _ e, r⟩
/-- a small int -/
def NR (many : Int) (_ : Led) (v : Value) : Prop := ∃ i t, v = .int i t ∧ 0 ≤ i ∧ i < many
theorem draw_ok (w : World) (p lc : Addr) (B : Nat) (many : Int) (tm : Tok) (hm : 0 < many) (hmm : many ≤ 1000) (hB : B ≤ 100000) :
    Mut w 175 [.ref p, .int many tm] 1 3 p (fun o h => PenO lc B o ∧ CellsAt lc h ∧ lc ≠ p) (fun _ o' R v => PenO lc (B + 1) o' ∧ NR many R v) := by
  refine' Mut.intro (binds := [(Str.ofString "pen", .ref p), (Str.ofString "many", .int many tm)]) (d := 0) (u := 0) (by exact rfl) (by exact rfl) (fun _ _ => BindsTo.of_eq rfl) (locs rfl) rfl rfl rfl (by decide) ?_
  intro A s h₁ tk o C T hpo hp F
  obtain ⟨⟨spot, carry, seed, t0, t1, t2, n, hc, hd, hs0, hs1, hse, hse2⟩, ⟨cs, ns, nc, hlc, hcs, hcl⟩, hne⟩ := hp
  have hlc' := hid_get hlc hne
  have hmne : many ≠ 0 := by omega
  have hmb : many.natAbs < 1073741824 := by omega
  have e63 : (2 : Int) ^ 63 = 9223372036854775808 := by decide +kernel
  have e64 : (2 : Int) ^ 64 = 18446744073709551616 := by decide +kernel
  have fin : ∀ i : Int, 0 ≤ i.fmod many ∧ i.fmod many < many := fun i => ⟨Int.fmod_nonneg_of_pos _ hm, Int.fmod_lt_of_pos _ hm⟩
  refine wpAny_execs_cons (wpAny_If (wpAny_isTrue_Compare1 (Subscript_ (z_ld F rfl (z_int fun t tk => z_itemL ⟨o, F.get (.head _), hc, _, hd⟩ (by decide) (by decide) rfl (z_int fun t tk => z_gti ?_))))))
  by_cases hcar : carry > 0
  · refine z_t (by simp [hcar]) ?_
    refine wpAny_execs_cons (wpAny_Assign_Name (wpAny_BinOp (Subscript_ (z_ld F rfl (z_int fun t tk => z_itemL ⟨o, F.get (.head _), hc, _, hd⟩ (by decide) (by decide) rfl (z_ld F rfl (z_mod hmne fun td tk => z_st F fun h' tk' F => ?_)))))))
    refine wpAny_execs_cons (wpAny_Assign_Subscript (wpAny_BinOp (Subscript_ (z_ld F rfl (z_int fun t tk => z_itemL ⟨o, F.get (.head _), hc, _, hd⟩ (by decide) (by decide) rfl (z_ld F rfl (z_fdiv hmne hmb fun tf tk => z_ld F rfl (z_int fun t tk => ?_))))))))
    refine z_setL F hc hd (by decide) (by decide) (by simp) fun h' o' n' hc' hd' F => ?_
    refine wpAny_execs_cons (wpAny_Return_some (z_ld F rfl ?_))
    exact ⟨_, _, _, _, _, _, o', rfl, F, fun R hR => ⟨⟨spot, carry.fdiv many, seed, t0, tf, t2, n', hc', hd', hs0, by omega, hse, hse2⟩, _, td, rfl, fin carry⟩⟩
  refine z_f (by simp [hcar]) (wpAny_execs_nil ?_)
  refine wpAny_execs_cons (wpAny_Assign_Name (Subscript_ (z_ld F rfl (z_int fun t tk => z_itemL ⟨o, F.get (.head _), hc, _, hd⟩ (by decide) (by decide) rfl (z_st F fun h' tk' F => ?_)))))
  refine wpAny_execs_cons (wpAny_Assign_Subscript (wpAny_BinOp (z_ld F rfl (z_int fun t tk => z_add fun ts tk => z_ld F rfl (z_int fun t tk => ?_)))))
  refine z_setL F hc hd (by decide) (by decide) (by simp) fun h' o' n' hc' hd' F => ?_
  have hd' : o'.data = .seq #[.ref lc, .int (spot + 1) ts, .int carry t1, .int seed t2] n' := hd'
  clear hd hc
  refine wpAny_execs_cons (wpAny_If (wpAny_isTrue_Compare1 (z_ld F rfl (Call_ (z_bn T F (by exact rfl) (v := .builtin "len") (by boot_fast) (by decide) (z_cwB (spliced_more (Subscript_ (z_ld F rfl (z_int fun t tk => z_itemL ⟨o', F.get (.head _), hc', _, hd'⟩ (by decide) (by decide) rfl (spliced_none (z_lenL ⟨_, F.ext _ _ hlc', rfl, _, rfl⟩ (sz_lt (by simp; omega)) fun t tk => z_gei ?_))))))))))))
  by_cases hge : ((cs.toArray.size : Nat) : Int) ≤ spot
  · refine z_t (by simpa using hge) ?_
    refine wpAny_execs_cons (wpAny_Return_some (wpAny_BinOp (wpAny_BinOp (wpAny_BinOp (wpAny_BinOp (wpAny_BinOp (Subscript_ (z_ld F rfl (z_int fun t tk => z_itemL ⟨o', F.get (.head _), hc', _, hd'⟩ (by decide) (by decide) rfl (z_int fun t tk => z_add fun t tk => ?_))))))))))
    refine wpAny_BinOp (z_ld F rfl (z_int fun t tk => z_add fun t tk => z_mul (IntMulOk.of_left (intBits_le_64 (by omega) (by omega))) fun t tk => wpAny_BinOp (z_ld F rfl (z_int fun t tk => z_add fun t tk => ?_))))
    refine z_mul (IntMulOk.of_right (intBits_le_64 (by omega) (by omega))) fun t tk => z_int fun t tk => z_fdiv (by decide) (by decide) fun t tk => z_ld F rfl (z_mod hmne fun td tk => ?_)
    exact ⟨_, _, _, _, _, _, o', rfl, F, fun R hR => ⟨⟨spot + 1, carry, seed, ts, t1, t2, n', hc', hd', by omega, by omega, hse, hse2⟩, _, td, rfl, fin _⟩⟩
  refine z_f (by simpa using hge) (wpAny_execs_nil ?_)
  have hsl : spot.toNat < cs.length := by simp at hge; omega
  obtain ⟨cell, tc, hcell, hcns⟩ := IntsAre.at hcs spot.toNat (cs[spot.toNat]'(hsl)) (by simp)
  refine wpAny_execs_cons (wpAny_Assign_Name (Subscript_ (Subscript_ (z_ld F rfl (z_int fun t tk => z_itemL ⟨o', F.get (.head _), hc', _, hd'⟩ (by decide) (by decide) rfl (z_ld F rfl (z_itemL ⟨_, F.ext _ _ hlc', rfl, _, rfl⟩ hs0 (by omega) (y := .int cell tc) (by simpa [hsl] using hcell) (z_st F fun h' tk' F => ?_))))))))
  refine wpAny_execs_cons (wpAny_If (wpAny_isTrue_Compare1 (Call_ (z_bn T F (by exact rfl) (v := .builtin "abs") (by boot_fast) (by decide) (z_cwB (spliced_more (z_ld F rfl (spliced_none (z_abs fun t tk => wpAny_BinOp (z_int fun t tk => z_int fun t tk => z_p18 fun t tk => z_lti ?_))))))))))
  by_cases hlt : (if cell < 0 then -cell else cell) < 10 ^ 18
  · refine z_t (by simpa using hlt) ?_
    refine wpAny_execs_cons (wpAny_Return_some (wpAny_BinOp (z_ld F rfl (z_ld F rfl (z_mod hmne fun td tk => ?_)))))
    exact ⟨_, _, _, _, _, _, o', rfl, F, fun R hR => ⟨⟨spot + 1, carry, seed, ts, t1, t2, n', hc', hd', by omega, by omega, hse, hse2⟩, _, td, rfl, fin _⟩⟩
  refine z_f (by simpa using hlt) (wpAny_execs_nil ?_)
  refine wpAny_execs_cons (wpAny_Assign_Name (wpAny_BinOp (wpAny_BinOp (z_int fun t tk => wpAny_BinOp (Call_ (z_bn T F (by exact rfl) (v := .builtin "abs") (by boot_fast) (by decide) (z_cwB (spliced_more (z_ld F rfl (spliced_none (z_abs fun t tk => wpAny_BinOp (z_int fun t tk => z_int fun t tk => z_p18 fun t tk => z_sub fun t tk => z_mul (IntMulOk.of_left (by decide)) fun t tk => ?_))))))))))))
  refine IfExp_ (wpAny_isTrue_Compare1 (z_ld F rfl (z_int fun t tk => z_lti ?_)))
  refine ite_join (fun v s' => ∃ (j : Int) (tj : Tok) (tk' : Nat), v = .int j tj ∧ s' = ⟨h', s.gens, s.drawn, tk', s.os⟩) ?_ ?_
  rotate_left
  · cases hb : decide (cell < 0) with
    | true => exact z_t rfl (z_int fun t tk => ⟨_, _, _, rfl, rfl⟩)
    | false => exact z_f rfl (z_int fun t tk => ⟨_, _, _, rfl, rfl⟩)
  rintro v s' ⟨j, tj, tk', rfl, rfl⟩
  refine z_add fun tg tk => z_st F fun h' tk' F => ?_
  refine wpAny_execs_cons (wpAny_Assign_Subscript (wpAny_BinOp (z_ld F rfl (z_ld F rfl (z_fdiv hmne hmb fun tf tk => z_ld F rfl (z_int fun t tk => ?_))))))
  refine z_setL F hc' hd' (by decide) (by decide) (by simp) fun h' o2 n2 hc2 hd2 F => ?_
  refine wpAny_execs_cons (wpAny_Return_some (wpAny_BinOp (z_ld F rfl (z_ld F rfl (z_mod hmne fun td tk => ?_)))))
  exact ⟨_, _, _, _, _, _, o2, rfl, F, fun R hR => ⟨⟨spot + 1, _, seed, ts, tf, t2, n2, hc2, hd2, by omega, by omega, hse, hse2⟩, _, td, rfl, fin _⟩⟩
end Mine
namespace Mine
section
variable {w : World} {A : Around} {hb h : Heap} {L : Addr} {m : Str → Option Value} {mu : Led} {Φ : Heap → Prop} {g : Array GenState} {dr : Drawn} {tk : Nat} {os : OsState} {env : Env} {pos : Pos}
  {Q : Value → Shared → Prop} {E : Value → Shared → Prop}
theorem z_menu {value slice : Expr} {l : Addr} {vs : List Value} {ys : List Str} {i : Int} {u : Tok} (hl : IsTup h l vs.toArray) (hy : StrsAre vs ys) (h0 : 0 ≤ i) (h1 : i < ys.length) (hsz : ys.length ≤ 100) (k : ∀ y t, y ∈ ys → Q (.str y t) ⟨h, g, dr, tk, os⟩)
    (hs : subscripted slice false (.ref l) (.int i u) = operate [.ref l, .int i u] (getItem (.ref l) (.int i u)) := by with_unfolding_all rfl) :
    wpAny (model PP w) A (subscriptTail value slice (.ref l) (.int i u)) Q E ⟨h, g, dr, tk, os⟩ := by
  have e63 : (2 : Int) ^ 63 = 9223372036854775808 := by decide +kernel
  have hlt : i.toNat < ys.length := by omega
  obtain ⟨t, ht⟩ := StrsAre.at hy (j := i.toNat) (y := ys[i.toNat]'(hlt)) (by simp)
  have hlen := hy.len_eq
  refine z_itemT hl (by omega) (by omega) (j := i.toNat) ?_ ht (k _ t (List.getElem_mem _)) hs
  have e : (if i < 0 then i + (vs.length : Int) else i) = i := if_neg (by omega)
  simp only [seqIndex?, e]
  rw [if_pos (by simp; omega)]
end
def PlainR (D S : Nat) (R : Led) (v : Value) : Prop := ∃ q : P, q.Ok ∧ q.ht ≤ D ∧ q.size ≤ S ∧ ∀ h, Has h R → RD h v q.data
abbrev PenPre (p lc : Addr) (B : Nat) (o : Obj) (h : Heap) : Prop := PenO lc B o ∧ CellsAt lc h ∧ lc ≠ p
theorem okS_of {x : Str} (h : (PyData.strOk x && decide (x.length ≤ 8) && !(x.cps.toList.contains 10)) = true) : OkS x := by
  simp only [Bool.and_eq_true, decide_eq_true_eq, Bool.not_eq_true', List.contains_eq_mem] at h
  refine ⟨h.1.1, h.1.2, fun c hc e => ?_⟩
  subst e
  simp only [decide_eq_false_iff_not] at h
  exact h.2 hc
def okB (x : Str) : Bool := PyData.strOk x && decide (x.length ≤ 8) && !(x.cps.toList.contains 10)
theorem menu_ok {ys : List Str} (h : ys.all okB = true) : ∀ x ∈ ys, OkS x := fun x hx => okS_of (List.all_eq_true.mp h x hx)
theorem leaf_ok (w : World) (p lc : Addr) (B : Nat) (hB : B ≤ 90000) : Mut w 182 [.ref p] 2 6 p (PenPre p lc B) (fun _ o' R v => PenO lc (B + 2) o' ∧ PlainR 0 1 R v) := by
  refine' Mut.intro (binds := [(Str.ofString "pen", .ref p)]) (d := 1) (u := 3) (by exact rfl) (by exact rfl) (fun _ _ => BindsTo.of_eq rfl) (locs rfl) rfl rfl rfl (by decide) ?_
  intro A s h₁ tk o C T hpo hp F
  obtain ⟨hpen, hce, hne⟩ := hp
  have hce' : ∀ h, Ext (hideAll s.heap [p]) h → CellsAt lc h := fun h e => by
    obtain ⟨vs, ns, n, e1, r⟩ := hce; exact ⟨vs, ns, n, e _ _ (hid_get e1 hne), r⟩
  refine wpAny_execs_cons (wpAny_Assign_Name (Subscript_ (Tuple_ (spliced_more (z_str fun a1 tk => spliced_more (z_str fun a2 tk => spliced_more (z_str fun a3 tk => spliced_more (z_str fun a4 tk => spliced_more (z_str fun a5 tk => spliced_none (z_tup F (sz_lt (by simp)) fun l1 h' F => ?_))))))))))
  refine Call_ (z_gl T F rfl (z_cw T (by exact rfl) (spliced_more (z_ld F rfl (spliced_more (z_int fun t5 tk => spliced_none ⟨T.keeps F.ext, ?_⟩))))))
  refine Mut.use (draw_ok w p lc B 5 t5 (by decide) (by decide) (by omega)) C T F ⟨hpen, hce' _ F.ext, hne⟩ fun v h' tk' o' R hpost hadd => ?_
  obtain ⟨hpen, i, t, rfl, hi0, hi1⟩ := hpost
  have F := hadd (fun _ => True) fun _ _ => trivial
  refine z_menu ⟨_, F.now.1.2, rfl, 0, rfl⟩ (.cons _ _ (.cons _ _ (.cons _ _ (.cons _ _ (.cons _ _ .nil))))) hi0 hi1 (by decide) fun kd kt hk => z_st F fun h' tk' F => ?_
  have hkd : OkS kd := menu_ok (ys := [Str.ofString "a", Str.ofString "b", Str.ofString "'+'", Str.ofString "error", Str.ofString "NUMBER"]) (by decide +kernel) kd hk
  refine wpAny_execs_cons (wpAny_Return_some (Tuple_ (spliced_more (z_int fun t0 tk => spliced_more (z_ld F rfl (spliced_more (Subscript_ (Tuple_ (spliced_more (z_ld F rfl (spliced_more (z_str fun a2 tk => spliced_more (z_str fun a3 tk => spliced_more (z_str fun a4 tk => spliced_more (z_str fun a5 tk => spliced_none (z_tup F (sz_lt (by simp)) fun l2 h' F => ?_))))))))))))))))
  refine Call_ (z_gl T F rfl (z_cw T (by exact rfl) (spliced_more (z_ld F rfl (spliced_more (z_int fun t5 tk => spliced_none ⟨T.keeps F.ext, ?_⟩))))))
  refine Mut.use (draw_ok w p lc (B + 1) 5 t5 (by decide) (by decide) (by omega)) C T F ⟨hpen, hce' _ F.ext, hne⟩ fun v h' tk' o' R hpost hadd => ?_
  obtain ⟨hpen, i2, t2, rfl, hj0, hj1⟩ := hpost
  have F := hadd (fun _ => True) fun _ _ => trivial
  refine z_menu ⟨_, F.now.1.2, rfl, 0, rfl⟩ (.cons _ _ (.cons _ _ (.cons _ _ (.cons _ _ (.cons _ _ .nil))))) hj0 hj1 (by simp) fun tx tt hx => spliced_none (z_tup F (sz_lt (by simp)) fun l3 h' F => ?_)
  have htx : OkS tx := by
    rcases List.mem_cons.mp hx with rfl | hx
    · exact hkd
    · exact menu_ok (ys := [Str.ofString "", Str.ofString "12", Str.ofString "a", Str.ofString " x y"]) (by decide +kernel) tx hx
  refine ⟨_, _, _, _, _, _, o', rfl, F, fun R hR => ⟨hpen, .leaf kd tx, ⟨hkd, htx⟩, Nat.le_refl _, Nat.le_refl _, fun h hh => ?_⟩⟩
  exact RD.mkTup (hR h hh).2 (RDs.cons RD.mkInt (RDs.cons RD.mkStr (RDs.cons RD.mkStr RDs.nil)))
end Mine
namespace Mine
theorem fits_small {x : Int} (h0 : 0 ≤ x) (h1 : x ≤ 2000000) : Builtin.Range.rangeFitsLong x = true := by
  have hp : (2 : Int) ^ 63 = 9223372036854775808 := by decide +kernel
  simp only [Builtin.Range.rangeFitsLong, hp, Bool.and_eq_true, decide_eq_true_eq]
  omega
theorem small_ok (n : Nat) (hn : n ≤ 1000000) : Builtin.Range.small 0 (n : Int) 1 = true := by
  unfold Builtin.Range.small
  rw [rangeSize_nat, fits_small (x := 0) (by decide) (by decide), fits_small (x := (n : Int)) (by omega) (by omega), fits_small (x := 1) (by decide) (by decide), if_pos (by decide), fits_small (x := (n : Int) + (1 - 1)) (by omega) (by omega)]
  simp
section
variable {w : World} {A : Around} {hb h : Heap} {L p : Addr} {m : Str → Option Value} {mu : Led} {Φ : Heap → Prop} {g : Array GenState} {dr : Drawn} {tk : Nat} {os : OsState} {env : Env} {op : Obj}
theorem z_lcRangeX {elt target iter : Expr} {ifs : List Expr} {scope : Scope} {cl : List (Str × Addr)} {pos : Pos} {Q : Value → Shared → Prop} {use : Option (Value → Sem Unit)}
    {r : Addr} {n : Nat} {t u v : Tok} (hA : A.handled = none) (hr : IsRange h r 0 (n : Int) 1 t u v) (hn : n ≤ 1000000) (F : St hb L h m ((p, op) :: mu) Φ)
    (J : Nat → List Value → Obj → (Heap → Prop) → Prop) (hj : J 0 [] op (fun _ => True))
    (step : ∀ hc C i ys o' Φ₁ h₁ tk₁ mc it, (∀ b x, b ≠ p → h.get? b = some x → hc.get? b = some x) → hc.get? p = none → i < n → J i ys o' Φ₁ → ys.length ≤ i → St hc C h₁ mc ((p, o') :: it) Φ₁ →
      ∀ ti, wpAny (model PP w) A (assign target (compEnvC scope cl C env) (.int (i : Nat) ti)) (fun _ s₂ =>
        wpAny (model PP w) A (testsOf ifs (compEnvC scope cl C env)) (fun ok s₃ =>
          if ok = true then wpAny (model PP w) A (eval elt (compEnvC scope cl C env)) (fun x s => ∃ h' tk' m' Φ' o'', s = ⟨h', g, dr, tk', os⟩ ∧ St hc C h' m' ((p, o'') :: it) Φ' ∧ J (i + 1) (ys ++ [x]) o'' Φ') NoE s₃
          else ∃ h' tk' m' Φ' o'', s₃ = ⟨h', g, dr, tk', os⟩ ∧ St hc C h' m' ((p, o'') :: it) Φ' ∧ J (i + 1) ys o'' Φ') NoE s₂) NoE ⟨h₁, g, dr, tk₁, os⟩)
    (done : ∀ C D h' tk' ys Φ' oC mm o', J n ys o' Φ' → ys.length ≤ n → h'.Ns C mm → St hb L h' m ((C, oC) :: (p, o') :: mu) (fun x => (Φ x ∧ Φ' x) ∧ x.get? D = some (listOf ys.toArray ys.length)) →
      compPost (model PP w) A NoE use Q (.ref D) C (.ok .next) ⟨h', g, dr, tk', os⟩)
    (hcell : ∀ y ∈ scope.names, y.2 ≠ .cell := by decide) (hkind : scope.kind = .function := by rfl) (ht : ∀ I v, letOwnedTupleGo target (.ref I) v = pure () := by intro _ _; rfl) :
    wpAny (model PP w) A (pyIter (.ref r)) (BlockAt w A env cl scope (.ListComp elt [⟨target, iter, ifs, 0⟩] scope pos) use Q) NoE ⟨h, g, dr, tk, os⟩ := by
  refine wpAny_pyIter_range (s := ⟨h, g, dr, tk, os⟩) hr (small_ok n hn) ?_
  rw [rangeSize_nat]
  have F1 := F.alloc_mu { cls := .type "range_iterator", data := .fields #[rawInt 0, rawInt (n : Int), rawInt 1] }
  have k1 : Ext h (h.push { cls := .type "range_iterator", data := .fields #[rawInt 0, rawInt (n : Int), rawInt 1] }) := fun b x e => Heap.get?_push_of_some _ e
  have W := Walks.range (prog := PP) (w := w) hA h.objs.size 0 1 n
  have st0 : IsRangeIter (h.push { cls := .type "range_iterator", data := .fields #[rawInt 0, rawInt (n : Int), rawInt 1] }) h.objs.size (0 + ((0 : Nat) : Int) * 1) ((n : Int) - ((0 : Nat) : Int)) 1 := by
    have e1 : (0 : Int) + ((0 : Nat) : Int) * 1 = 0 := by omega
    have e2 : (n : Int) - ((0 : Nat) : Int) = n := by omega
    rw [e1, e2]
    exact F1.get (.head _)
  have hpI : p ≠ h.objs.size := Nat.ne_of_lt (Heap.lt_size (F.get (.head _)))
  have F2 : St hb L (h.push { cls := .type "range_iterator", data := .fields #[rawInt 0, rawInt (n : Int), rawInt 1] }) m ((h.objs.size, { cls := .type "range_iterator", data := .fields #[rawInt 0, rawInt (n : Int), rawInt 1] }) :: ([(p, op)] ++ mu)) Φ := F1
  refine z_block (ex := [(p, op)]) W st0 (fun i h hs => ⟨_, hs⟩) F2 (fun b hb => .inl (List.mem_singleton.mp hb)) (fun i ys ex Φ => ∃ o', ex = [(p, o')] ∧ J i ys o' Φ) ⟨op, rfl, hj⟩ hcell hkind ?_ (sz_lt hn) ?_
  · rintro C D i v ys ex₁ Φ₁ h₁ tk₁ mc o hi ⟨ti, rfl⟩ hS ⟨o', rfl, hJ⟩ hex hys G
    have pm : ∀ {o1 o2 o3 : Obj}, [(p, o3), (h.objs.size, o1), (D, o2)].Perm [(h.objs.size, o1), (D, o2), (p, o3)] := fun {o1 o2 o3} => (List.Perm.swap _ _ _).trans (List.Perm.cons _ (List.Perm.swap _ _ _))
    have G' := G.perm (pm (o1 := o) (o2 := listOf ys.toArray ys.length) (o3 := o'))
    have e0 : (0 : Int) + (i : Nat) * 1 = (i : Nat) := by omega
    rw [e0]
    refine z_pass ?_ (ht _ _)
    have hc1 : ∀ b x, b ≠ p → h.get? b = some x → (hideAll (h.push { cls := .type "range_iterator", data := .fields #[rawInt 0, rawInt (n : Int), rawInt 1] }) [h.objs.size, p]).get? b = some x := fun b x hb e =>
      hideAll_get _ (k1 _ _ e) (by
        simp only [List.mem_cons, List.not_mem_nil, or_false, not_or]
        exact ⟨Nat.ne_of_lt (Heap.lt_size e), hb⟩)
    have hc2 : (hideAll (h.push { cls := .type "range_iterator", data := .fields #[rawInt 0, rawInt (n : Int), rawInt 1] }) [h.objs.size, p]).get? p = none := hideAll_none _ (.tail _ (.head _))
    refine wpAny_mono (step _ C i ys o' Φ₁ h₁ tk₁ mc _ hc1 hc2 hi hJ hys G' ti) (fun _ s₂ k₂ => wpAny_mono k₂ (fun ok s₃ k₃ => ?_) fun _ _ e => e.elim) fun _ _ e => e.elim
    cases ok with
    | true =>
      simp only [if_true] at k₃ ⊢
      refine wpAny_mono k₃ (fun x s₄ k₄ => ?_) fun _ _ e => e.elim
      obtain ⟨h', tk', m', Φ', o'', rfl, G'', hJ'⟩ := k₄
      exact ⟨h', tk', m', [(p, o'')], Φ', rfl, G''.perm pm.symm, ⟨o'', rfl, hJ'⟩, rfl, by have := sz_lt hn; omega⟩
    | false =>
      simp only [Bool.false_eq_true, if_false] at k₃ ⊢
      obtain ⟨h', tk', m', Φ', o'', rfl, G'', hJ'⟩ := k₃
      exact ⟨h', tk', m', [(p, o'')], Φ', rfl, G''.perm pm.symm, ⟨o'', rfl, hJ'⟩, rfl, by have := sz_lt hn; omega⟩
  · rintro C D h' tk' ys ex' Φ' oC mm ⟨o', rfl, hJ⟩ hl _ hns G
    exact done C D h' tk' ys Φ' oC mm o' hJ hl hns G
end
/-- a def with two names that its comprehensions see; it changes one object -/
theorem Mut.introC {w : World} {f : Addr} {args : List Value} {d u : Nat} {a : Addr} {pre : Obj → Heap → Prop} {post : Obj → Obj → Led → Value → Prop}
    {name qual : Str} {params : Arguments} {body : List Stmt} {scope : Scope} {dV kV doc pm cdv ct oc : Value} {an od : Option Addr} {osl : Array (Option Value)} {binds : List (Str × Value)} (y₁ y₂ : Str)
    (ho : (Mine.hd.heap_39 w.params).lookup f = some ⟨oc, od, .func (fnOf name qual params body scope dV kV doc pm an cdv ct), osl⟩) (hcd : codeIn (Mine.hd.heap_39 w.params) cdv qual = true)
    (hbind : ∀ s, (KK w).In s.heap → BindsTo s (fnOf name qual params body scope dV kV doc pm an cdv ct) ⟨args, []⟩ binds)
    (hkind : (binds.all fun y => scope.names.lookup y.1 == some .local || scope.names.lookup y.1 == some .cell) = true) (hcf : ∀ n, cellsFrom n scope.names [] = [(y₁, n + 1), (y₂, n)]) (hne : y₁ ≠ y₂)
    (hco : scope.isCoroutine = false) (hgen : scope.isGenerator = false) (hk : scope.kind = .function)
    (h : ∀ A s h₁ tk o o₁ o₂, Cx A d u → Tp w (hideAll s.heap [a]) → s.heap.get? a = some o → pre o s.heap → o₁.data = .cell (bindC (envOfC qual scope s.heap.objs.size f cdv).kindOf binds (fun _ => none) y₁) → o₂.data = .cell (bindC (envOfC qual scope s.heap.objs.size f cdv).kindOf binds (fun _ => none) y₂) →
      St (hideAll s.heap [a]) s.heap.objs.size h₁ (bindL (envOfC qual scope s.heap.objs.size f cdv).kindOf binds fun _ => none) [(a, o), (s.heap.objs.size + 1 + 1, o₁), (s.heap.objs.size + 1, o₂)] (fun _ => True) →
      wpAny (model PP w) A (execs body (envOfC qual scope s.heap.objs.size f cdv)) (fun fl s' => DoneM (hideAll s.heap [a]) a o s post (match fl with | .ret v => v | _ => .none) s') NoE { s with heap := h₁, toks := tk }) :
    Mut w f args (d + 1) (u + 3) a pre post := by
  intro A s R o C T hoa hp k
  have C' : Cx (A.deeper (envOfC qual scope s.heap.objs.size f cdv)) d u :=
    ⟨C.hd, by have := C.dp; show A.depth + 1 + d < _; omega, by have := C.un; show A.units + 3 + u < _; omega⟩
  obtain ⟨mean, mg, mb, T'⟩ := T.T
  have up : Ext (hideAll s.heap [a]) s.heap := fun b x e => of_hideAll _ e
  have X : (KK w).In s.heap := fun b x e => up _ _ (T.K b x e)
  refine codeAny_call_function (fd := fnOf name qual params body scope dV kV doc pm an cdv ct) (by have := C.dp; omega) (X _ _ ho) rfl hco hgen rfl (codeRec_of X hcd) (hbind s X _ _ _ _ ?_)
  refine wpAny_newFunctionEnv_cells hk (kindsX hkind _) fun env' he s' x => ?_
  subst he
  refine ⟨(T'.nolimit.keeps up).keeps x.toInCall.keep, codeAny_func ?_⟩
  obtain ⟨h₁, tk, rfl, _⟩ := x.done
  have hk₁ := x.toInCall.keep
  have hcf' := hcf (s.heap.objs.size + 1)
  obtain ⟨cells, NC, Y⟩ := Cl.news (h₀ := s.heap) (Nat.le_refl _) fun n c hm => ⟨x.cell n c (by
    have hm' : (n, c) ∈ cellsFrom (s.heap.objs.size + 1) scope.names [] := hm
    show (cellsFrom (s.heap.objs.size + 1) scope.names []).lookup n = some c
    rw [hcf'] at hm' ⊢
    rcases List.mem_cons.mp hm' with e | hm'
    · cases e; simp
    · cases List.mem_singleton.mp hm'
      have : (y₂ == y₁) = false := by simpa using fun e => hne (Eq.symm e)
      simp [List.lookup, this]), x.above n c hm⟩
  have Y' : CellsAre (bindC (envOfC qual scope s.heap.objs.size f cdv).kindOf binds fun _ => none) (cellsFrom (s.heap.objs.size + 1) scope.names []) cells := Y
  rw [hcf'] at Y'
  obtain ⟨o₁, o₂, rfl, d1, d2⟩ := Y'.two
  have hal : a < s.heap.objs.size := Heap.lt_size hoa
  have F : St (hideAll s.heap [a]) s.heap.objs.size h₁ (bindL (envOfC qual scope s.heap.objs.size f cdv).kindOf binds fun _ => none) [(a, o), (s.heap.objs.size + 1 + 1, o₁), (s.heap.objs.size + 1, o₂)] (fun _ => True) := by
    refine ⟨⟨x.toInCall.ns, fun b x e => hk₁ b x (of_hideAll _ e), Nat.le_of_eq (hideAll_size _ _)⟩, ⟨[], fun p hp => ?_, (fun _ _ _ hq => nomatch hq), fun _ _ => trivial⟩, ?_⟩
    · rw [List.append_nil] at hp
      rcases List.mem_cons.mp hp with rfl | hp
      · exact ⟨hk₁ _ _ hoa, Nat.ne_of_lt hal, hideAll_none _ (.head _)⟩
      · have z := NC p hp
        refine ⟨z.1, z.2.1, ?_⟩
        cases q : (hideAll s.heap [a]).get? p.1 with
        | none => rfl
        | some y => have := of_hideAll _ q; rw [z.2.2] at this; cases this
    · simp only [List.map_cons, List.map_nil, List.nodup_cons, List.mem_cons, List.not_mem_nil, or_false, not_or, not_false_eq_true, List.nodup_nil, and_true]
      exact ⟨⟨Nat.ne_of_lt (Nat.lt_succ_of_lt (Nat.lt_succ_of_lt hal)), Nat.ne_of_lt (Nat.lt_succ_of_lt hal)⟩, Nat.succ_ne_self _⟩
  exact wpAny_mono (h _ s h₁ tk o o₁ o₂ C' T hoa hp d1 d2 F) (fun fl s' hl => hl.back k) (fun _ _ x => x.elim)
end Mine
namespace Mine
def Kd : Nat → Nat
  | 0 => 2
  | D + 1 => 4 + 3 * Kd D
def Sd : Nat → Nat
  | 0 => 1
  | D + 1 => 1 + 3 * Sd D
def PlainS (w : World) (D : Nat) : Prop := ∀ (p lc : Addr) (B : Nat) (td : Tok), B + Kd D ≤ 80000 → Mut w 194 [.ref p, .int (D : Nat) td] (2 * D + 4) (6 * D + 12) p (PenPre p lc B) (fun _ o' R v => PenO lc (B + Kd D) o' ∧ PlainR D (Sd D) R v)
def NodeS (w : World) (D : Nat) : Prop := ∀ (p lc : Addr) (B : Nat) (td : Tok), B + 3 + 3 * Kd D ≤ 80000 → Mut w 187 [.ref p, .int (D + 1 : Nat) td] (2 * D + 5) (6 * D + 15) p (PenPre p lc B) (fun _ o' R v => PenO lc (B + 3 + 3 * Kd D) o' ∧ PlainR (D + 1) (Sd (D + 1)) R v)
theorem P.Oks.snoc : ∀ {cs : List P} {q : P}, P.Oks cs → q.Ok → P.Oks (cs ++ [q])
  | [], q, _, h => ⟨h, trivial⟩
  | c :: cs, q, ⟨a, b⟩, h => ⟨a, P.Oks.snoc b h⟩
theorem P.hts_snoc : ∀ (cs : List P) (q : P), P.hts (cs ++ [q]) = max (P.hts cs) q.ht
  | [], q => by simp [P.hts]
  | c :: cs, q => by simp only [List.cons_append, P.hts, P.hts_snoc cs q]; omega
theorem P.datas_append : ∀ (xs ys : List P), P.datas (xs ++ ys) = P.datas xs ++ P.datas ys
  | [], ys => rfl
  | x :: xs, ys => by rw [List.cons_append, P.datas, P.datas_append xs ys, P.datas, List.cons_append]
theorem kd_pos (D : Nat) : 2 ≤ Kd D := by cases D <;> simp [Kd]; omega
theorem node_of (w : World) (D : Nat) (ih : PlainS w D) : NodeS w D := by
  intro p lc B td hB
  refine' Mut.introC (binds := [(Str.ofString "pen", .ref p), (Str.ofString "deep", .int (D + 1 : Nat) td)]) (d := 2 * D + 4) (u := 6 * D + 12) (Str.ofString "deep") (Str.ofString "pen") (by exact rfl) (by exact rfl) (fun _ _ => BindsTo.of_eq rfl) rfl (fun n => rfl) (by decide) rfl rfl rfl ?_
  intro A s h₁ tk o oD oP C T hpo hp hdD hdP F
  obtain ⟨hpen, hce, hne⟩ := hp
  have hkp := kd_pos D
  have hdD : oD.data = .cell (some (.int (D + 1 : Nat) td)) := hdD
  have hdP : oP.data = .cell (some (.ref p)) := hdP
  have hce' : ∀ h, Ext (hideAll s.heap [p]) h → CellsAt lc h := fun h e => by
    obtain ⟨vs, ns, n, e1, r⟩ := hce; exact ⟨vs, ns, n, e _ _ (hid_get e1 hne), r⟩
  refine wpAny_execs_cons (z_swap2 (n1 := Str.ofString "name") (n2 := Str.ofString "rule") rfl (Tuple_ (spliced_more (Subscript_ (Tuple_ (spliced_more (z_str fun a1 tk => spliced_more (z_str fun a2 tk => spliced_more (z_str fun a3 tk => spliced_more (z_str fun a4 tk => spliced_none (z_tup F (sz_lt (by simp)) fun l1 h' F => ?_)))))))))))
  refine Call_ (y_gl T F rfl (z_cw T (by exact rfl) (spliced_more (c_ld (F.get (.tail _ (.tail _ (.head _)))) hdP (spliced_more (z_int fun t5 tk => spliced_none ⟨T.keeps F.ext, ?_⟩))))))
  refine Mut.use (draw_ok w p lc B 4 t5 (by decide) (by decide) (by omega)) C T F ⟨hpen, hce' _ F.ext, hne⟩ fun v h' tk' o' R hpost hadd => ?_
  obtain ⟨hpen, i, t, rfl, hi0, hi1⟩ := hpost
  have F := hadd (fun _ => True) fun _ _ => trivial
  refine z_menu ⟨_, F.now.1.2, rfl, 0, rfl⟩ (.cons _ _ (.cons _ _ (.cons _ _ (.cons _ _ .nil)))) hi0 hi1 (by decide) fun nm nt hk => ?_
  have hnm : OkS nm := menu_ok (ys := [Str.ofString "s", Str.ofString "t", Str.ofString "a", Str.ofString "expr"]) (by decide +kernel) nm hk
  refine spliced_more (wpAny_BinOp (z_int fun t1 tk => Call_ (y_gl T F rfl (z_cw T (by exact rfl) (spliced_more (c_ld (F.get (.tail _ (.tail _ (.head _)))) hdP (spliced_more (z_int fun t5 tk => spliced_none ⟨T.keeps F.ext, ?_⟩))))))))
  refine Mut.use (draw_ok w p lc (B + 1) 9 t5 (by decide) (by decide) (by omega)) C T F ⟨hpen, hce' _ F.ext, hne⟩ fun v h' tk' o' R hpost hadd => ?_
  obtain ⟨hpen, r, tr, rfl, hr0, hr1⟩ := hpost
  have F := hadd (fun _ => True) fun _ _ => trivial
  refine z_add fun tr tk => spliced_none (z_tup F (sz_lt (by simp)) fun l2 h' F => ?_)
  refine z_unpackT C.hd F ⟨_, F.now.2, rfl, _, rfl⟩ rfl fun h' F => assignInOrder_cons (z_bind F fun h' tk' F => assignInOrder_cons (z_bind F fun h' tk' F => assignInOrder_nil ?_))
  refine wpAny_execs_cons (wpAny_Return_some (Tuple_ (spliced_more (y_ld F rfl (spliced_more (y_ld F rfl (spliced_more (z_lc (Call_ (y_bn T F (by exact rfl) (v := .type "range") (by boot_fast) (by decide) (z_cwT (spliced_more ?_))))))))))))
  refine Call_ (y_gl T F rfl (z_cw T (by exact rfl) (spliced_more (c_ld (F.get (.tail _ (.tail _ (.head _)))) hdP (spliced_more (z_int fun t5 tk => spliced_none ⟨T.keeps F.ext, ?_⟩))))))
  refine Mut.use (draw_ok w p lc (B + 2) 4 t5 (by decide) (by decide) (by omega)) C T F ⟨hpen, hce' _ F.ext, hne⟩ fun v h' tk' o' R hpost hadd => ?_
  obtain ⟨hpen, n, tn, rfl, hn0, hn1⟩ := hpost
  obtain ⟨n, rfl⟩ := Int.eq_ofNat_of_zero_le hn0
  have hn3 : n ≤ 3 := by omega
  have F := hadd (fun _ => True) fun _ _ => trivial
  refine spliced_none (z_range F fun rg h' tr1 tr2 tk F => ?_)
  have hmul : n * Kd D ≤ 3 * Kd D := Nat.mul_le_mul_right _ hn3
  refine z_lcRangeX (p := p) (n := n) C.hd F.now.2 (by omega) F (fun i ys o' Φ => PenO lc (B + 3 + i * Kd D) o' ∧ ∃ qs, qs.length = i ∧ P.Oks qs ∧ P.hts qs ≤ D ∧ P.sizes qs ≤ i * Sd D ∧ ∀ h, Φ h → RDs h ys (P.datas qs))
    ⟨by rw [Nat.zero_mul]; exact hpen, [], rfl, trivial, Nat.zero_le _, by simp [P.sizes], fun h _ => RDs.nil⟩ ?_ ?_
  · rintro hc C' i ys o' Φ₁ h₁ tk₁ mc it hk hkp' hi ⟨hpen, qs, hq1, hq2, hq3, hq4, hq5⟩ hys G ti
    have kc : Ext (hideAll s.heap [p]) hc := fun b x e => by
      refine hk b x (fun e' => ?_) (F.ext _ _ e)
      rw [e', hideAll_none _ (.head _)] at e; cases e
    have T' : Tp w hc := T.keeps kc
    have hc1 : ∀ h4, Ext hc h4 → h4.get? (s.heap.objs.size + 1 + 1) = some oD := fun h4 e => e _ _ (hk _ _ (Nat.ne_of_gt (Nat.lt_succ_of_lt (Nat.lt_succ_of_lt (Heap.lt_size hpo)))) (F.get (.tail _ (.head _))))
    have hc2 : ∀ h4, Ext hc h4 → h4.get? (s.heap.objs.size + 1) = some oP := fun h4 e => e _ _ (hk _ _ (Nat.ne_of_gt (Nat.lt_succ_of_lt (Heap.lt_size hpo))) (F.get (.tail _ (.tail _ (.head _)))))
    have hmi : i * Kd D + Kd D ≤ 3 * Kd D := by
      have := Nat.mul_le_mul_right (Kd D) (show i + 1 ≤ 3 by omega)
      rw [Nat.succ_mul] at this; exact this
    refine y_as G fun h' tk' G => z_tests0 (z_t rfl ?_)
    refine Call_ (y_gl T' G rfl (z_cw T' (by exact rfl) (spliced_more (c_ld (hc2 _ G.ext) hdP (spliced_more (wpAny_BinOp (c_ld (hc1 _ G.ext) hdD (z_int fun t1 tk => z_sub fun t2 tk => spliced_none ⟨T'.keeps G.ext, ?_⟩))))))))
    have e1 : (((D + 1 : Nat) : Int) - 1) = ((D : Nat) : Int) := by omega
    rw [e1]
    refine Mut.use (ih p lc (B + 3 + i * Kd D) t2 (by omega)) C T' G ⟨hpen, hce' _ (kc.trans G.ext), hne⟩ fun v h' tk' o'' R hpost hadd => ?_
    obtain ⟨hpen', q, hqo, hqh, hqs, hqr⟩ := hpost
    refine ⟨_, _, _, _, o'', rfl, hadd _ hqr, ?_, qs ++ [q], by simp [hq1], hq2.snoc hqo, by rw [P.hts_snoc]; omega, ?_, fun h hh => ?_⟩
    · have e : B + 3 + (i + 1) * Kd D = B + 3 + i * Kd D + Kd D := by rw [Nat.succ_mul]; omega
      rw [e]; exact hpen'
    · rw [P.sizes_append, Nat.succ_mul]
      simp only [P.sizes]; omega
    · rw [P.datas_append]
      exact RDs.append (hq5 h hh.1) (RDs.cons hh.2 RDs.nil)
  · rintro C' D' h' tk' ys Φ' oC mm o' ⟨hpen, qs, hq1, hq2, hq3, hq4, hq5⟩ hys hns G
    refine post_none hns G fun h'' F => ?_
    refine spliced_none (z_tup F (sz_lt (by simp)) fun l3 h' F => ?_)
    refine ⟨_, _, _, _, _, _, o', rfl, F, fun R hR => ⟨hpen.mono (by omega), .node (1 + r) nm qs, ⟨⟨by omega, hnm⟩, hq2⟩, by rw [P.ht]; omega, ?_, fun h hh => ?_⟩⟩
    · have := Nat.mul_le_mul_right (Sd D) hn3
      rw [P.size, Sd]; omega
    · have z := hR h hh
      exact RD.mkTup z.2 (RDs.cons RD.mkInt (RDs.cons RD.mkStr (RDs.cons (RD.mkList z.1.2 (hq5 h z.1.1.2)) RDs.nil)))
end Mine
namespace Mine
theorem PlainR.mono {D D' S S' : Nat} {R : Led} {v : Value} (x : PlainR D S R v) (h1 : D ≤ D') (h2 : S ≤ S') : PlainR D' S' R v := let ⟨q, a, b, c, d⟩ := x; ⟨q, a, Nat.le_trans b h1, Nat.le_trans c h2, d⟩
theorem sd_pos (D : Nat) : 1 ≤ Sd D := by cases D <;> simp [Sd]
theorem plain_ok (w : World) : ∀ D, PlainS w D := by
  intro D
  induction D with
  | zero =>
    intro p lc B td hB
    refine' Mut.intro (binds := [(Str.ofString "pen", .ref p), (Str.ofString "deep", .int (0 : Nat) td)]) (d := 3) (u := 9) (by exact rfl) (by exact rfl) (fun _ _ => BindsTo.of_eq rfl) (locs rfl) rfl rfl rfl (by decide) ?_
    intro A s h₁ tk o C T hpo hp F
    obtain ⟨hpen, hce, hne⟩ := hp
    have hce' : ∀ h, Ext (hideAll s.heap [p]) h → CellsAt lc h := fun h e => by
      obtain ⟨vs, ns, n, e1, r⟩ := hce; exact ⟨vs, ns, n, e _ _ (hid_get e1 hne), r⟩
    refine wpAny_execs_cons (wpAny_Return_some (IfExp_ (isTrue_or (wpAny_isTrue_Compare1 (z_ld F rfl (z_int fun t tk => z_eqi (z_t rfl (z_t rfl ?_))))))))
    refine Call_ (z_gl T F rfl (z_cw T (by exact rfl) (spliced_more (z_ld F rfl (spliced_none ⟨T.keeps F.ext, ?_⟩)))))
    refine Mut.use (leaf_ok w p lc B (by simp [Kd] at hB; omega)) C T F ⟨hpen, hce' _ F.ext, hne⟩ fun v h' tk' o' R hpost hadd => ?_
    obtain ⟨hpen', q, q1, q2, q3, q4⟩ := hpost
    have F := hadd _ q4
    exact ⟨_, _, _, _, _, _, o', rfl, F, fun R hR => ⟨hpen', q, q1, q2, q3, fun h hh => (hR h hh).2⟩⟩
  | succ D ih =>
    intro p lc B td hB
    have hB' : B + (4 + 3 * Kd D) ≤ 80000 := hB
    have hk := kd_pos D
    have hs := sd_pos D
    refine' Mut.intro (binds := [(Str.ofString "pen", .ref p), (Str.ofString "deep", .int (D + 1 : Nat) td)]) (d := 2 * (D + 1) + 3) (u := 6 * (D + 1) + 9) (by exact rfl) (by exact rfl) (fun _ _ => BindsTo.of_eq rfl) (locs rfl) rfl rfl rfl (by decide) ?_
    intro A s h₁ tk o C T hpo hp F
    obtain ⟨hpen, hce, hne⟩ := hp
    have hce' : ∀ h, Ext (hideAll s.heap [p]) h → CellsAt lc h := fun h e => by
      obtain ⟨vs, ns, n, e1, r⟩ := hce; exact ⟨vs, ns, n, e _ _ (hid_get e1 hne), r⟩
    have hd0 : (((D + 1 : Nat) : Int) == 0) = false := by simp; omega
    refine wpAny_execs_cons (wpAny_Return_some (IfExp_ (isTrue_or (wpAny_isTrue_Compare1 (z_ld F rfl (z_int fun t tk => z_eqi (z_f hd0 ?_)))))))
    refine isTrue_or (wpAny_isTrue_Compare1 (Call_ (z_gl T F rfl (z_cw T (by exact rfl) (spliced_more (z_ld F rfl (spliced_more (z_int fun t3 tk => spliced_none ⟨T.keeps F.ext, ?_⟩))))))))
    refine Mut.use (draw_ok w p lc B 3 t3 (by decide) (by decide) (by omega)) C T F ⟨hpen, hce' _ F.ext, hne⟩ fun v h' tk' o' R hpost hadd => ?_
    obtain ⟨hpen, i, t, rfl, hi0, hi1⟩ := hpost
    have F := (hadd (fun _ => True) fun _ _ => trivial)
    refine z_int fun t tk => z_eqi ?_
    by_cases hi : i = 0
    · refine z_t (by simp [hi]) (z_t rfl ?_)
      refine Call_ (z_gl T F rfl (z_cw T (by exact rfl) (spliced_more (z_ld F rfl (spliced_none ⟨T.keeps F.ext, ?_⟩)))))
      refine Mut.use (leaf_ok w p lc (B + 1) (by omega)) C T F ⟨hpen, hce' _ F.ext, hne⟩ fun v h' tk' o' R hpost hadd => ?_
      obtain ⟨hpen', q, q1, q2, q3, q4⟩ := hpost
      have F := hadd _ q4
      exact ⟨_, _, _, _, _, _, o', rfl, F, fun R hR => ⟨hpen'.mono (by rw [Kd]; omega), q, q1, by omega, by rw [Sd]; omega, fun h hh => (hR h hh).2⟩⟩
    · refine z_f (by simp [hi]) (isTrue_or_nil (z_f rfl ?_))
      refine Call_ (z_gl T F rfl (z_cw T (by exact rfl) (spliced_more (z_ld F rfl (spliced_more (z_ld F rfl (spliced_none ⟨T.keeps F.ext, ?_⟩)))))))
      refine Mut.use (node_of w D ih p lc (B + 1) td (by omega)) C T F ⟨hpen, hce' _ F.ext, hne⟩ fun v h' tk' o' R hpost hadd => ?_
      obtain ⟨hpen', q, q1, q2, q3, q4⟩ := hpost
      have F := hadd _ q4
      exact ⟨_, _, _, _, _, _, o', rfl, F, fun R hR => ⟨hpen'.mono (by rw [Kd]; omega), q, q1, q2, q3, fun h hh => (hR h hh).2⟩⟩
end Mine
namespace Mine
def joinL : List (List Nat) → List Nat
  | [] => []
  | [x] => x
  | x :: y :: r => x ++ 10 :: joinL (y :: r)
theorem cut_eq : ∀ {p r X Y : List Nat}, 10 ∉ p → 10 ∉ r → p ++ 10 :: X = r ++ 10 :: Y → p = r ∧ X = Y
  | [], [], X, Y, _, _, h => by simpa using h
  | [], b :: r, X, Y, _, h2, h => by
    simp only [List.nil_append, List.cons_append, List.cons.injEq] at h
    exact absurd (h.1 ▸ .head _) h2
  | a :: p, [], X, Y, h1, _, h => by
    simp only [List.nil_append, List.cons_append, List.cons.injEq] at h
    exact absurd (h.1 ▸ .head _) h1
  | a :: p, b :: r, X, Y, h1, h2, h => by
    simp only [List.cons_append, List.cons.injEq] at h
    obtain ⟨e1, e2⟩ := cut_eq (fun q => h1 (.tail _ q)) (fun q => h2 (.tail _ q)) h.2
    exact ⟨by rw [h.1, e1], e2⟩
theorem cut_uniq : ∀ {ps rs : List (List Nat)}, ps.length = rs.length → (∀ p ∈ ps, 10 ∉ p) → (∀ p ∈ rs, 10 ∉ p) → joinL ps = joinL rs → ps = rs
  | [], [], _, _, _, _ => rfl
  | [p], [r], _, _, _, h => by simpa [joinL] using h
  | p :: p' :: ps, r :: r' :: rs, hl, h1, h2, h => by
    rw [joinL, joinL] at h
    obtain ⟨e1, e2⟩ := cut_eq (h1 p (.head _)) (h2 r (.head _)) h
    rw [e1, cut_uniq (by simpa using hl) (fun q hq => h1 q (.tail _ hq)) (fun q hq => h2 q (.tail _ hq)) e2]
  | [], _ :: _, hl, _, _, _ => by simp at hl
  | _ :: _, [], hl, _, _, _ => by simp at hl
  | [_], _ :: _ :: _, hl, _, _, _ => by simp at hl
  | _ :: _ :: _, [_], hl, _, _, _ => by simp at hl
abbrev nlS : Str := Str.ofString "\n"
theorem nl_cps : nlS = ⟨#[10]⟩ := by decide +kernel
theorem joinS : ∀ rows : List Str, (Str.join nlS rows).cps.toList = joinL (rows.map fun x => x.cps.toList)
  | [] => by rfl
  | [x] => by rfl
  | x :: y :: rows => by
    have ih := joinS (y :: rows)
    show (x ++ nlS ++ Str.join nlS (y :: rows)).cps.toList = _
    rw [nl_cps] at ih ⊢
    have ih' : (Str.join ⟨#[10]⟩ (y :: rows)).cps.toList = joinL (y.cps.toList :: rows.map fun x => x.cps.toList) := ih
    rw [List.map_cons, List.map_cons, joinL, ← ih']
    simp [Str.cps_append]
theorem count_join : ∀ rows : List (List Nat), rows ≠ [] → (joinL rows).count 10 + 1 = (rows.map fun x => x.count 10).sum + rows.length
  | [], h => absurd rfl h
  | [x], _ => by simp [joinL]
  | x :: y :: rows, _ => by
    have ih := count_join (y :: rows) (by simp)
    rw [joinL]
    simp only [List.count_append, List.count_cons, List.map_cons, List.sum_cons, List.length_cons] at ih ⊢
    simp only [beq_self_eq_true, if_true]
    omega
theorem cnt_count (l : List Nat) : cnt 10 l = (l.count 10 : Int) := by
  induction l with
  | nil => rw [cnt_nil]; rfl
  | cons a l ih =>
    rw [cnt_cons, ih, List.count_cons]
    by_cases h : a = 10
    · subst h; simp; omega
    · simp [h]
theorem split_join {rows : List Str} (hne : rows ≠ []) (hnl : ∀ x ∈ rows, 10 ∉ x.cps.toList) : Txt.split (Txt.join nlS rows) nlS = rows := by
  have e1 : Txt.join nlS rows = Str.join nlS rows := StrLaws.glued_eq_join _ _
  rw [e1]
  generalize hx : Str.join nlS rows = x
  have h1 := StrLaws.join_split x nlS
  have h2 := split_len x 10
  rw [← nl_cps, cnt_count] at h2
  generalize hps : Txt.split x nlS = ps at h1 h2
  have hpne : ps ≠ [] := by intro e; rw [e] at h2; simp at h2; omega
  have hcx : x.cps.toList.count 10 + 1 = (rows.map fun x => x.cps.toList.count 10).sum + rows.length := by
    have := count_join (rows.map fun x => x.cps.toList) (by simpa using hne)
    rw [← joinS, hx, List.map_map, List.length_map] at this
    exact this
  have hcp : x.cps.toList.count 10 + 1 = (ps.map fun x => x.cps.toList.count 10).sum + ps.length := by
    have := count_join (ps.map fun x => x.cps.toList) (by simpa using hpne)
    rw [← joinS, h1, List.map_map, List.length_map] at this
    exact this
  have hz : (rows.map fun x => x.cps.toList.count 10).sum = 0 := by
    have : ∀ l : List Str, (∀ x ∈ l, 10 ∉ x.cps.toList) → (l.map fun x => x.cps.toList.count 10).sum = 0 := by
      intro l
      induction l with
      | nil => intro _; rfl
      | cons a l ih =>
        intro h
        rw [List.map_cons, List.sum_cons, ih fun x hx => h x (.tail _ hx), List.count_eq_zero.mpr (h a (.head _))]
    exact this rows hnl
  have hlen : ps.length = rows.length := by omega
  have hpz : (ps.map fun x => x.cps.toList.count 10).sum = 0 := by omega
  have hpn : ∀ p ∈ ps, 10 ∉ p.cps.toList := by
    have : ∀ l : List Str, (l.map fun x => x.cps.toList.count 10).sum = 0 → ∀ x ∈ l, 10 ∉ x.cps.toList := by
      intro l
      induction l with
      | nil => intro _ x hx; cases hx
      | cons a l ih =>
        intro h x hx
        rw [List.map_cons, List.sum_cons] at h
        rcases List.mem_cons.mp hx with rfl | hx
        · exact List.count_eq_zero.mp (by omega)
        · exact ih (by omega) x hx
    exact this ps hpz
  have hu := cut_uniq (ps := ps.map fun x => x.cps.toList) (rs := rows.map fun x => x.cps.toList) (by simpa using hlen) (by simpa using hpn) (by simpa using hnl) (by rw [← joinS, ← joinS, h1, hx])
  have inj : ∀ (a b : List Str), (a.map fun x => x.cps.toList) = (b.map fun x => x.cps.toList) → a = b := by
    intro a
    induction a with
    | nil => intro b h; cases b with
      | nil => rfl
      | cons _ _ => simp at h
    | cons x a ih => intro b h; cases b with
      | nil => simp at h
      | cons y b =>
        simp only [List.map_cons, List.cons.injEq] at h
        rw [ih b h.2, Str.ext' (Array.toList_inj.mp h.1)]
  exact inj _ _ hu
end Mine
namespace Mine
-- the data that are compared: they may be laid, they are not deep
def Lay (d : PyData) : Prop := d.canLay0 = true ∧ d.depth ≤ 300
def LayAll (ds : List PyData) : Prop := PyData.canLayAll0 ds = true ∧ PyData.depthAll ds ≤ 299
theorem LayAll.nil : LayAll [] := ⟨rfl, Nat.zero_le _⟩
theorem LayAll.of : ∀ {ds : List PyData}, (∀ d ∈ ds, d.canLay0 = true ∧ d.depth ≤ 299) → LayAll ds
  | [], _ => LayAll.nil
  | d :: ds, h => by
    have h1 := h d (.head _)
    have h2 := LayAll.of (ds := ds) fun x hx => h x (.tail _ hx)
    exact ⟨by rw [PyData.canLayAll0, h1.1, h2.1]; rfl, by rw [PyData.depthAll]; exact Nat.max_le.mpr ⟨h1.2, h2.2⟩⟩
theorem LayAll.list {ds : List PyData} (h : LayAll ds) : Lay (.list ds) := ⟨by rw [PyData.canLay0]; exact h.1, by rw [PyData.depth]; have := h.2; omega⟩
theorem lay_ints (ns : List Int) : Lay (.list (ns.map .int)) := (LayAll.of fun d hd => by
  obtain ⟨n, _, rfl⟩ := List.mem_map.mp hd
  exact ⟨rfl, Nat.zero_le _⟩).list
theorem lay_strs {ss : List Str} (h : ∀ x ∈ ss, PyData.strOk x = true) : Lay (.list (ss.map .str)) := (LayAll.of fun d hd => by
  obtain ⟨n, hn, rfl⟩ := List.mem_map.mp hd
  exact ⟨by rw [PyData.canLay0]; exact h n hn, Nat.zero_le _⟩).list
theorem tup_strs {ns : List Str} (h : ∀ x ∈ ns, PyData.strOk x = true) : (tupD ns).canLay0 = true ∧ (tupD ns).depth ≤ 299 := by
  have h1 : PyData.canLayAll0 (ns.map .str) = true := by
    induction ns with
    | nil => rfl
    | cons a ns ih => rw [List.map_cons, PyData.canLayAll0, PyData.canLay0, h a (.head _), ih fun x hx => h x (.tail _ hx)]; rfl
  have h2 : PyData.depthAll (ns.map .str) = 0 := by
    clear h h1
    induction ns with
    | nil => rfl
    | cons a ns ih => rw [List.map_cons, PyData.depthAll, ih]; rfl
  exact ⟨by rw [PyData.canLay0]; exact h1, by rw [PyData.depth, h2]; omega⟩
theorem pair_lay {p : Str × Str} (h1 : PyData.strOk p.1 = true) (h2 : PyData.strOk p.2 = true) : (pairD p).canLay0 = true ∧ (pairD p).depth ≤ 299 := tup_strs (ns := [p.1, p.2]) (by simpa using ⟨h1, h2⟩)
mutual
theorem P.lvs_ok : ∀ {p : P}, p.Ok → ∀ q ∈ p.lvs, OkS q.1 ∧ OkS q.2
  | .leaf k t, h, q, hq => by rw [P.lvs] at hq; rw [List.mem_singleton.mp hq]; exact h
  | .node r nm cs, h, q, hq => by rw [P.lvs] at hq; exact P.lvss_ok h.2 q hq
theorem P.lvss_ok : ∀ {cs : List P}, P.Oks cs → ∀ q ∈ P.lvss cs, OkS q.1 ∧ OkS q.2
  | [], _, q, hq => by rw [P.lvss] at hq; cases hq
  | c :: cs, h, q, hq => by
    rw [P.lvss] at hq
    rcases List.mem_append.mp hq with hq | hq
    · exact P.lvs_ok h.1 q hq
    · exact P.lvss_ok h.2 q hq
end
theorem lay_lvs {p : P} (h : p.Ok) : Lay (.list (p.lvs.map pairD)) := (LayAll.of fun d hd => by
  obtain ⟨q, hq, rfl⟩ := List.mem_map.mp hd
  have := P.lvs_ok h q hq
  exact pair_lay this.1.ok this.2.ok).list
mutual
theorem P.told_lay : ∀ {p : P}, p.Ok → p.told.canLay0 = true
  | .leaf k t, h => (pair_lay (p := (k, t)) h.1.ok h.2.ok).1
  | .node r nm cs, h => by rw [P.told, PyData.canLay0, PyData.canLayAll0, PyData.canLay0, h.1.2.ok, P.tolds_lay h.2]; rfl
theorem P.tolds_lay : ∀ {cs : List P}, P.Oks cs → PyData.canLayAll0 (P.tolds cs) = true
  | [], _ => rfl
  | c :: cs, h => by rw [P.tolds, PyData.canLayAll0, P.told_lay h.1, P.tolds_lay h.2]; rfl
end
mutual
theorem P.told_depth : ∀ (p : P), p.told.depth ≤ p.ht + 1
  | .leaf k t => by simp [P.told, PyData.depth, PyData.depthAll, P.ht]
  | .node r nm cs => by have := P.tolds_depth cs; rw [P.told, PyData.depth, PyData.depthAll, PyData.depth, P.ht]; omega
theorem P.tolds_depth : ∀ (cs : List P), PyData.depthAll (P.tolds cs) ≤ P.hts cs + 1
  | [] => by simp [P.tolds, PyData.depthAll]
  | c :: cs => by have := P.told_depth c; have := P.tolds_depth cs; rw [P.tolds, PyData.depthAll, P.hts]; omega
end
theorem lay_told {p : P} (h : p.Ok) (hh : p.ht ≤ 200) : Lay p.told := ⟨P.told_lay h, by have := P.told_depth p; omega⟩
theorem P.name_ok {p : P} (h : p.Ok) : OkS p.name := by cases p with
  | leaf => exact h.1
  | node => exact h.1.2
theorem P.names_ok : ∀ {cs : List P}, P.Oks cs → ∀ x ∈ P.names cs, OkS x
  | [], _, x, hx => by cases hx
  | c :: cs, h, x, hx => by
    rcases List.mem_cons.mp hx with rfl | hx
    · exact P.name_ok h.1
    · exact P.names_ok h.2 x hx
theorem P.yields_ok {cs : List P} (h : P.Oks cs) : ∀ x ∈ P.yields cs, OkS x := fun x hx => by
  obtain ⟨q, hq, rfl⟩ := List.mem_map.mp hx
  exact (P.lvss_ok h q hq).1
mutual
theorem P.forms_ok : ∀ {p : P} {l r : List Str}, p.Ok → (∀ x ∈ l, OkS x) → (∀ x ∈ r, OkS x) → ∀ f ∈ p.forms l r, ∀ x ∈ f, OkS x
  | .leaf _ _, l, r, _, _, _, f, hf => by rw [P.forms] at hf; cases hf
  | .node rr nm cs, l, r, h, hl, hr, f, hf => by
    rw [P.forms] at hf
    rcases List.mem_cons.mp hf with rfl | hf
    · intro x hx
      rcases List.mem_append.mp hx with hx | hx
      · rcases List.mem_append.mp hx with hx | hx
        · exact hl x hx
        · exact P.names_ok h.2 x hx
      · exact hr x hx
    · exact P.formsR_ok h.2 hl hr f hf
theorem P.formsR_ok : ∀ {cs : List P} {l r : List Str}, P.Oks cs → (∀ x ∈ l, OkS x) → (∀ x ∈ r, OkS x) → ∀ f ∈ P.formsR cs l r, ∀ x ∈ f, OkS x
  | [], l, r, _, _, _, f, hf => by rw [P.formsR] at hf; cases hf
  | c :: cs, l, r, h, hl, hr, f, hf => by
    rw [P.formsR] at hf
    rcases List.mem_append.mp hf with hf | hf
    · refine P.formsR_ok h.2 (fun x hx => ?_) hr f hf
      rcases List.mem_append.mp hx with hx | hx
      · exact hl x hx
      · rw [List.mem_singleton.mp hx]; exact P.name_ok h.1
    · refine P.forms_ok h.1 hl (fun x hx => ?_) f hf
      rcases List.mem_append.mp hx with hx | hx
      · exact P.yields_ok h.2 x hx
      · exact hr x hx
end
theorem lay_forms {fs : List (List Str)} (h : ∀ f ∈ fs, ∀ x ∈ f, OkS x) : Lay (.list (fs.map tupD)) := (LayAll.of fun d hd => by
  obtain ⟨f, hf, rfl⟩ := List.mem_map.mp hd
  exact tup_strs fun x hx => (h f hf x hx).ok).list
-- the page's rows
theorem strOk_iff (x : Str) : PyData.strOk x = true ↔ ∀ c ∈ x.cps.toList, c < 0x110000 := by
  unfold PyData.strOk
  rw [← Array.all_toList, List.all_eq_true]
  simp
theorem mem_mul {x : Str} {n : Int} {c : Nat} (h : c ∈ (Txt.mul x n).cps.toList) : c ∈ x.cps.toList := by
  unfold Txt.mul at h
  split at h
  · simp [Str.empty] at h
  · split at h
    · exact h
    · have : ∀ (k : Nat) (acc : Array Nat), c ∈ ((List.replicate k x.cps).foldl (· ++ ·) acc).toList → c ∈ acc.toList ∨ c ∈ x.cps.toList := by
        intro k
        induction k with
        | zero => intro acc h; exact .inl h
        | succ k ih =>
          intro acc h
          rw [List.replicate_succ, List.foldl_cons] at h
          rcases ih _ h with h | h
          · rw [Array.toList_append] at h; exact List.mem_append.mp h
          · exact .inr h
      rcases this _ _ h with h | h
      · simp at h
      · exact h
def Plain (x : Str) : Prop := ∀ c ∈ x.cps.toList, c < 0x110000 ∧ c ≠ 10
theorem Plain.append {x y : Str} (hx : Plain x) (hy : Plain y) : Plain (x ++ y) := fun c hc => by
  rw [Str.cps_append, Array.toList_append] at hc
  rcases List.mem_append.mp hc with hc | hc
  · exact hx c hc
  · exact hy c hc
theorem Plain.of {x : Str} (h : OkS x) : Plain x := fun c hc => ⟨(strOk_iff x).mp h.ok c hc, h.nl c hc⟩
theorem pad_plain (d : Nat) : Plain (pad d) := fun c hc => by
  have h := mem_mul hc
  have e : (Str.ofString "  ").cps.toList = [32, 32] := by decide +kernel
  rw [e] at h
  have : c = 32 := by simpa using h
  subst this; decide
theorem head_plain {k t : Str} (hk : OkS k) (ht : OkS t) : Plain (leafHead k t) := by
  unfold leafHead
  split
  · exact Plain.of hk
  · refine ((Plain.of hk).append fun c hc => ?_).append (Plain.of ht)
    have e : (Str.ofString " ").cps.toList = [32] := by decide +kernel
    rw [e] at hc
    have : c = 32 := by simpa using hc
    subst this; decide
mutual
theorem P.page_plain : ∀ {p : P} {d : Nat}, p.Ok → ∀ x ∈ p.page d, Plain x
  | .leaf k t, d, h, x, hx => by rw [P.page] at hx; rw [List.mem_singleton.mp hx]; exact (pad_plain d).append (head_plain h.1 h.2)
  | .node r nm cs, d, h, x, hx => by
    rw [P.page] at hx
    rcases List.mem_cons.mp hx with rfl | hx
    · exact (pad_plain d).append (Plain.of h.1.2)
    · exact P.pages_plain h.2 x hx
theorem P.pages_plain : ∀ {cs : List P} {d : Nat}, P.Oks cs → ∀ x ∈ P.pages cs d, Plain x
  | [], d, _, x, hx => by rw [P.pages] at hx; cases hx
  | c :: cs, d, h, x, hx => by
    rw [P.pages] at hx
    rcases List.mem_append.mp hx with hx | hx
    · exact P.page_plain h.1 x hx
    · exact P.pages_plain h.2 x hx
end
theorem lay_page {p : P} {d : Nat} (h : p.Ok) : Lay (.list ((p.page d).map .str)) := lay_strs fun x hx => (strOk_iff x).mpr fun c hc => (P.page_plain h x hx c hc).1
theorem split_page {p : P} (h : p.Ok) : Txt.split (Txt.join nlS (p.page 0)) nlS = p.page 0 := split_join (by intro e; have := P.page_pos p 0; rw [e] at this; simp at this) fun x hx hc => (P.page_plain h x hx 10 hc).2 rfl
end Mine
namespace Mine
section
variable {w : World} {A : Around} {hb h : Heap} {L : Addr} {m : Str → Option Value} {mu : Led} {Φ : Heap → Prop} {g : Array GenState} {dr : Drawn} {tk : Nat} {os : OsState} {env : Env} {pos : Pos}
  {v : Value} {Q : Value → Shared → Prop} {QB : Bool → Shared → Prop} {QF : Flow → Shared → Prop} {E : Value → Shared → Prop}
theorem z_sum {l : Addr} {vs : List Value} {ns : List Int} (hA : A.handled = none) (F : St hb L h m mu Φ) (hl : h.IsList l vs.toArray) (hi : IntsAre vs ns) (k : ∀ i t h' tk', St hb L h' m mu Φ → Q (.int i t) ⟨h', g, dr, tk', os⟩) :
    wpAny (model PP w) A (call (.builtin "sum") [.ref l]) Q E ⟨h, g, dr, tk, os⟩ := by
  obtain ⟨xs, e⟩ := hi.allInts.items
  rw [e] at hl
  exact PySem.sum_intListG (s := ⟨h, g, dr, tk, os⟩) hA hl fun h' tk t' hk => k _ t' h' tk (F.newL hk [] (fun p hp => nomatch hp) (by simp))
theorem z_inT {a : Value} {c : Addr} {xs : List PyData} {d : PyData} (hc : RD h (.ref c) (.tuple xs)) (hx : RD h a d) (hxs : PyData.canLayAll0 xs = true) (hd : d.canLay0 = true) (hu : A.units + 1 + d.depth < cLine) (k : QB (xs.any fun y => PyData.eqv y d) ⟨h, g, dr, tk, os⟩) :
    wpAny (model PP w) A (compareOp .In a (.ref c)) (fun v s₃ => wpAny (model PP w) A (truthy v) QB E s₃) E ⟨h, g, dr, tk, os⟩ := by
  obtain ⟨as, r⟩ := hc
  obtain ⟨bs, r2⟩ := hx
  exact PySem.SeqAt.in_tuple_reads (s := ⟨h, g, dr, tk, os⟩) r r2 hxs hd (by have := Nat.min_le_right (PyData.depthAll xs) d.depth; omega) (wpAny_truthy_bool k)
theorem z_neSame {a b : Value} {d : PyData} (ra : RD h a d) (rb : RD h b d) (hd : Lay d) (hu : A.units + 300 < cLine) (k : QB false ⟨h, g, dr, tk, os⟩) :
    wpAny (model PP w) A (compareOp .NotEq a b) (fun v s₃ => wpAny (model PP w) A (truthy v) QB E s₃) E ⟨h, g, dr, tk, os⟩ := by
  obtain ⟨as, ra⟩ := ra; obtain ⟨bs, rb⟩ := rb
  refine PySem.SeqAt.compareNe_reads (s := ⟨h, g, dr, tk, os⟩) ra rb hd.1 hd.1 (by rw [Nat.min_self]; have := hd.2; omega) (wpAny_truthy_bool ?_)
  rw [PySem.SeqAt.eqv_refl d hd.1]
  exact k
theorem z_eqSame {a b : Value} {d : PyData} (ra : RD h a d) (rb : RD h b d) (hd : Lay d) (hu : A.units + 300 < cLine) (k : Q (.bool true) ⟨h, g, dr, tk, os⟩) :
    wpAny (model PP w) A (compareOp .Eq a b) Q E ⟨h, g, dr, tk, os⟩ := by
  obtain ⟨as, ra⟩ := ra; obtain ⟨bs, rb⟩ := rb
  refine PySem.SeqAt.compareEq_reads (s := ⟨h, g, dr, tk, os⟩) ra rb hd.1 hd.1 (by rw [Nat.min_self]; have := hd.2; omega) ?_
  rw [PySem.SeqAt.eqv_refl d hd.1]
  exact k
/-- a for over range(n) -/
theorem z_forRange {R : Result → Shared → Prop} {target : Expr} {body : List Stmt} {r : Addr} {n : Nat} {t u v : Tok} {Φ₀ : Heap → Prop} (hA : A.handled = none) (hr : IsRange h r 0 (n : Int) 1 t u v) (hn : n ≤ 1000000)
    (J : Nat → (Str → Option Value) → Led → (Heap → Prop) → Prop) (F : St hb L h m mu (fun x => Φ₀ x ∧ Φ x)) (hj : J 0 m mu Φ)
    (step : ∀ i v m₁ mu₁ Φ₁ h₁ tk₁ it, i < n → (∃ t, v = .int ((i : Nat) : Int) t) → J i m₁ mu₁ Φ₁ → St hb L h₁ m₁ (it ++ mu₁) (fun x => Φ₀ x ∧ Φ₁ x) →
      wpAny (model PP w) A (assign target env v) (fun _ s₂ => wpAny (model PP w) A (execs body env) (TurnE hb L g dr os Φ₀ it (J (i + 1)) R) NoE s₂) NoE ⟨h₁, g, dr, tk₁, os⟩)
    (done : ∀ h' tk' m' mu' Φ', J n m' mu' Φ' → St hb L h' m' mu' (fun x => Φ₀ x ∧ Φ' x) → R (.ok .next) ⟨h', g, dr, tk', os⟩)
    (ht : ∀ I v, letOwnedTupleGo target (.ref I) v = pure () := by intro _ _; rfl) :
    wpAny (model PP w) A (pyIter (.ref r)) (fun it s₂ => codeAny (model PP w) A (.forLoop target it body [] env) R s₂) NoE ⟨h, g, dr, tk, os⟩ := by
  refine wpAny_pyIter_range (s := ⟨h, g, dr, tk, os⟩) hr (small_ok n hn) ?_
  rw [rangeSize_nat]
  have F1 := F.alloc_mu { cls := .type "range_iterator", data := .fields #[rawInt 0, rawInt (n : Int), rawInt 1] }
  have W := Walks.range (prog := PP) (w := w) hA h.objs.size 0 1 n
  have st0 : IsRangeIter (h.push { cls := .type "range_iterator", data := .fields #[rawInt 0, rawInt (n : Int), rawInt 1] }) h.objs.size (0 + ((0 : Nat) : Int) * 1) ((n : Int) - ((0 : Nat) : Int)) 1 := by
    have e1 : (0 : Int) + ((0 : Nat) : Int) * 1 = 0 := by omega
    have e2 : (n : Int) - ((0 : Nat) : Int) = n := by omega
    rw [e1, e2]
    exact F1.get (.head _)
  refine z_forW W ?_ ?_ J st0 F1 hj (fun i v m₁ mu₁ Φ₁ h₁ tk₁ o hi hP hJ F => step i v m₁ mu₁ Φ₁ h₁ tk₁ _ hi ?_ hJ F) done (ht _)
  · intro b hb; exact .inl (List.mem_singleton.mp hb)
  · intro i h hs; exact ⟨_, hs⟩
  · obtain ⟨t, rfl⟩ := hP
    refine ⟨t, ?_⟩
    congr 1
    omega
/-- a method of Tree's called on a made tree -/
theorem z_mT {o : O} {name : Str} {f : Addr} {pl : Sem Bool} (T : Tp w hb) (F : St hb L h m mu Φ) (ho : o.At w h) (k : wpAny (model PP w) A (call (.ref f) [.ref o.addr]) Q E ⟨h, g, dr, tk, os⟩)
    (h1 : findIn (KK w) (.ref 83) name = some (some (.ref f)) := by exact rfl) (h2 : findIn (KK w) (.ref 118) name = some (some (.ref f)) := by exact rfl) (hf : isFn (KK w) (.ref f) = true := by exact rfl) (hk : keepIn (KK w) (.ref f) = true := by exact rfl)
    (n3 : ∀ u1 u2 u3 v1 v2 v3, getL name [ent w "name" u1 v1, ent w "rule" u2 v2, ent w "children" u3 v3] = some none := by intro _ _ _ _ _ _; rfl)
    (n4 : ∀ u1 u2 u3 u4 v1 v2 v3 v4, getL name [ent w "name" u1 v1, ent w "rule" u2 v2, ent w "children" u3 v3, ent w "token" u4 v4] = some none := by intro _ _ _ _ _ _ _ _; rfl) :
    wpAny (model PP w) A (getMethod (.ref o.addr) name pl) (fun fx s₂ => wpAny (model PP w) A (callWith pos fx.1 fx.2 (backTo pos (starEach [] env)) []) Q E s₂) E ⟨h, g, dr, tk, os⟩ := by
  cases o with
  | leaf a d l ta td kd tx =>
    rw [O.At] at ho
    obtain ⟨e1, ⟨u1, u2, u3, u4, t1, t2, n, e2⟩, _⟩ := ho
    exact z_meth (f := f) T F e1 e2 (kk_pg118 w _) h2 hf (n4 _ _ _ _ _ _ _ _) (z_cm0 T F hk k)
  | node a d l r nm cs =>
    rw [O.At] at ho
    obtain ⟨⟨e1, ⟨u1, u2, u3, t1, t2, n, e2⟩, _⟩, _⟩ := ho
    exact z_meth (f := f) T F e1 e2 (kk_pg83 w _) h1 hf (n3 _ _ _ _ _ _) (z_cm0 T F hk k)
/-- a text cut -/
theorem z_split {x y : Str} {t u : Tok} (F : St hb L h m mu Φ) (hy : (y.length == 0) = false) (hsz : x.length ≤ 900000) (k : ∀ D h' tk' ws, StrsAre ws (Txt.split x y) → St hb L h' m mu Φ → h'.IsList D (List.toArray ws) → Q (.ref D) ⟨h', g, dr, tk', os⟩) :
    wpAny (model PP w) A (call (.builtin "str.split") [.str x t, .str y u]) Q E ⟨h, g, dr, tk, os⟩ := by
  refine PySem.SCH.split1 (s := ⟨h, g, dr, tk, os⟩) (P := fun h' => St hb L h' m mu Φ) (fun h ob F => F.newL (fun b o e => Heap.get?_push_of_some _ e) [] (fun p hp => nomatch hp) (by simp)) F hy (fun D l h' tk' hl F hD => k D h' tk' _ ?_ F hD) (sz_lt (by omega)) (sz_lt ?_)
  · rw [← hl]
    have : ∀ l : List (Str × Tok), StrsAre (PySem.strValues l) (l.map (·.1)) := by
      intro l
      induction l with
      | nil => exact .nil
      | cons p l ih => exact .cons _ _ ih
    exact this l
  · rw [PySem.length_partsBetween]; have := StrLaws.occ_length_le x y 0 x.length (x.length + 1); omega
end
end Mine
namespace Mine
def LawEnd (s : Shared) (fl : Flow) (s' : Shared) : Prop := ∃ L h' tk' m, fl = .ret (.bool true) ∧ s' = ⟨h', s.gens, s.drawn, tk', s.os⟩ ∧ Fr s.heap L h' m
def LawRuns (w : World) (qual : Str) (body : List Stmt) (scope : Scope) : Prop :=
  ∀ (A : Around) (s : Shared) (fa : Addr) (cdv : Value) (la : Addr) (vs : List Value) (ns : List Int) (h₁ : Heap) (tk : Nat), Cx A 60 400 → Tp w s.heap → s.heap.IsList la vs.toArray → IntsAre vs ns → vs.length ≤ 63 →
    St s.heap s.heap.objs.size h₁ (fun y => [(Str.ofString "script", Value.ref la)].reverse.lookup y) [] (fun _ => True) →
    wpAny (model PP w) A (execs body (envOf qual scope s.heap.objs.size fa cdv)) (LawEnd s) NoE ⟨h₁, s.gens, s.drawn, tk, s.os⟩
theorem law_of {w : World} {name name' qual qual' : Str} {params params' : Arguments} {body body' : List Stmt} {scope scope' : Scope} {dV kV doc pm cdv ct oc dV' kV' doc' pm' cdv' ct' oc' : Value} {an od an' od' : Option Addr} {osl osl' : Array (Option Value)}
    (ho : (Mine.hd.heap_39 w.params).lookup 252 = some ⟨oc, od, .func (fnOf name qual params body scope dV kV doc pm an cdv ct), osl⟩) (h : LawRuns w qual body scope)
    (ho' : (Mine.hd.heap_39 w.params).lookup 252 = some ⟨oc', od', .func (fnOf name' qual' params' body' scope' dV' kV' doc' pm' an' cdv' ct'), osl'⟩) : LawRuns w qual' body' scope' := by
  rw [ho] at ho'
  have e := Option.some.inj ho'
  injection e with e1 e2 e3 e4
  injection e3 with e3
  injection e3 with f1 f2 f3 f4 f5
  injection f4 with f4
  subst f2 f4 f5
  exact h
theorem ints_take : ∀ {vs : List Value} {ns : List Int}, IntsAre vs ns → ∀ k, IntsAre (vs.take k) (ns.take k)
  | _, _, _, 0 => .nil
  | _, _, .nil, _ + 1 => .nil
  | _, _, .cons n t h, k + 1 => .cons n t (ints_take h k)
theorem derivs_ok {o : O} (h : o.plain.Ok) : ∀ f ∈ derivs o, ∀ x ∈ f, OkS x := fun f hf x hx => by
  rcases List.mem_cons.mp hf with rfl | hf
  · rw [List.mem_singleton.mp hx, ← O.nm_plain]; exact P.name_ok h
  · exact P.forms_ok h (by intro x hx; cases hx) (by intro x hx; cases hx) f hf x hx
theorem RDs.reverse {h : Heap} : ∀ {vs : List Value} {ds : List PyData}, RDs h vs ds → RDs h vs.reverse ds.reverse
  | [], [], _ => RDs.nil
  | v :: vs, d :: ds, ⟨_, .cons a b⟩ => by
    rw [List.reverse_cons, List.reverse_cons]
    exact RDs.append (RDs.reverse ⟨_, b⟩) (RDs.cons ⟨_, a⟩ RDs.nil)
  | [], _ :: _, ⟨_, r⟩ => nomatch r
  | _ :: _, [], ⟨_, r⟩ => nomatch r
theorem fmod_range {i m : Int} (hm : 0 < m) : 0 ≤ i.fmod m ∧ i.fmod m < m := ⟨Int.fmod_nonneg_of_pos _ hm, Int.fmod_lt_of_pos _ hm⟩
theorem law_at (w : World) {name qual : Str} {params : Arguments} {body : List Stmt} {scope : Scope} {dV kV doc pm cdv ct oc : Value} {an od : Option Addr} {osl : Array (Option Value)}
    (ho' : (Mine.hd.heap_39 w.params).lookup 252 = some ⟨oc, od, .func (fnOf name qual params body scope dV kV doc pm an cdv ct), osl⟩) : LawRuns w qual body scope := by
  refine law_of (by exact rfl) ?_ ho'
  clear ho'
  intro A s fa cdv la vs ns h₁ tk C T hl hns hvl F
  -- the pen
  refine wpAny_execs_cons (wpAny_Assign_Name (List_ (spliced_more (Call_ (z_bn T F (by exact rfl) (v := .type "list") (by boot_fast) (by decide) (z_cwT (spliced_more (Subscript_ (z_ld F rfl (z_slice (wpAny_evalPart_none (wpAny_evalPart_some (z_int fun t tk => wpAny_evalPart_none ?_)))))))))))))
  refine z_slT F (hl.at fun o e => F.ext _ _ e) .none (.int _ _) .none (by decide) (sz_lt (by simp; omega)) fun l1 h' F => ?_
  rw [slice_up (i := 63) (b := 63) (by decide)] at F
  refine spliced_none (z_copyM F ⟨_, F.now.2, rfl, _, rfl⟩ (sz_lt (by simp; omega)) fun lc cc h' F => ?_)
  have F := F.freeze
  refine spliced_more (z_int fun tp0 tk => spliced_more (z_int fun tp1 tk => spliced_more (wpAny_BinOp (Call_ (z_bn T F (by exact rfl) (v := .builtin "abs") (by boot_fast) (by decide) (z_cwB (spliced_more (Call_ (z_bn T F (by exact rfl) (v := .builtin "sum") (by boot_fast) (by decide) (z_cwB (spliced_more (Subscript_ (z_ld F rfl (z_slice (wpAny_evalPart_none (wpAny_evalPart_some (z_int fun t tk => wpAny_evalPart_none ?_)))))))))))))))))
  refine z_slT F (hl.at fun o e => F.ext _ _ e) .none (.int _ _) .none (by decide) (sz_lt (by simp; omega)) fun l2 h' F => ?_
  rw [slice_up (i := 63) (b := 63) (by decide)] at F
  refine spliced_none (z_sum C.hd F ⟨_, F.now.2, rfl, _, rfl⟩ ((ints_take hns 63)) fun su tsu h' tk F => spliced_none (z_abs fun ta tk => z_int fun t tk => z_mod (by decide) fun tse tk => ?_))
  have hse := fmod_range (i := if su < 0 then -su else su) (m := 1009) (by decide)
  generalize (if su < 0 then -su else su).fmod 1009 = seed at hse ⊢
  refine spliced_none (z_listM F (sz_lt (by simp)) fun p h' F => z_st F fun h' tk' F => ?_)
  have hpen : PenO lc 0 (listOf [.ref lc, .int 0 tp0, .int 0 tp1, .int seed tse].toArray 0) := ⟨0, 0, seed, tp0, tp1, tse, 0, rfl, rfl, by decide, by decide, hse.1, by omega⟩
  have hne : lc ≠ p := by
    intro e
    have e1 := F.now.1.2
    have e2 := F.get (.head _)
    rw [e, e2] at e1
    have e3 := congrArg (fun x : Option Obj => x.map Obj.data) e1
    simp only [Option.map_some, Option.some.injEq, Data.seq.injEq] at e3
    have e4 := congrArg Array.toList e3.1
    have hi := (ints_take hns 63)
    simp only at e4
    rw [← e4] at hi
    cases hi
  have hce : ∀ h, (h.get? lc = some (listOf (vs.take 63).toArray cc)) → CellsAt lc h := fun h e => ⟨vs.take 63, ns.take 63, cc, e, (ints_take hns 63), by rw [List.length_take]; omega⟩
  -- way
  refine wpAny_execs_cons (wpAny_Assign_Name (Call_ (z_gl T F rfl (z_cw T (by exact rfl) (spliced_more (z_ld F rfl (spliced_more (z_int fun t6 tk => spliced_none ⟨T.keeps F.ext, ?_⟩))))))))
  refine Mut.use (draw_ok w p lc 0 6 t6 (by decide) (by decide) (by decide)) C T F ⟨hpen, hce _ F.now.1.2, hne⟩ fun v h' tk' o1 R hpost hadd => ?_
  obtain ⟨hpen1, wy, tw, rfl, hw0, hw1⟩ := hpost
  have F := (hadd (fun _ => True) fun _ _ => trivial).imp (Ψ := fun h => h.get? lc = some (listOf (vs.take 63).toArray cc)) fun h hh => hh.1.1.2
  refine z_st F fun h' tk' F => ?_
  -- plain
  refine wpAny_execs_cons (wpAny_Assign_Name (IfExp_ (wpAny_isTrue_Compare1 (z_ld F rfl (z_int fun t tk => z_eqi ?_)))))
  refine ite_join (fun v s' => ∃ (m : Str → Option Value) (o' : Obj) (q : P) (h'' : Heap) (tk'' : Nat), s' = ⟨h'', s.gens, s.drawn, tk'', s.os⟩ ∧ m "way" = some (.int wy tw) ∧ m "pen" = some (.ref p) ∧ PenO lc 200 o' ∧ q.Ok ∧ q.ht ≤ 3 ∧ q.size ≤ 40 ∧
    St s.heap s.heap.objs.size h'' m [(p, o')] (fun h => h.get? lc = some (listOf (vs.take 63).toArray cc) ∧ RD h v q.data)) ?_ ?_
  rotate_left
  · cases hb : (wy == 5) with
    | true =>
      refine z_t rfl (Call_ (z_gl T F rfl (z_cw T (by exact rfl) (spliced_more (z_ld F rfl (spliced_none ⟨T.keeps F.ext, ?_⟩))))))
      refine Mut.use (leaf_ok w p lc 1 (by decide)) C T F ⟨hpen1, hce _ F.now, hne⟩ fun v h' tk' o' R hpost hadd => ?_
      obtain ⟨hpen', q, q1, q2, q3, q4⟩ := hpost
      exact ⟨_, o', q, _, _, rfl, rfl, rfl, hpen'.mono (by decide), q1, by omega, by omega, hadd _ q4⟩
    | false =>
      refine z_f rfl (Call_ (z_gl T F rfl (z_cw T (by exact rfl) (spliced_more (z_ld F rfl (spliced_more (z_int fun t3 tk => spliced_none ⟨T.keeps F.ext, ?_⟩)))))))
      refine Mut.use (node_of w 2 (plain_ok w 2) p lc 1 t3 (by decide)) C T F ⟨hpen1, hce _ F.now, hne⟩ fun v h' tk' o' R hpost hadd => ?_
      obtain ⟨hpen', q, q1, q2, q3, q4⟩ := hpost
      exact ⟨_, o', q, _, _, rfl, rfl, rfl, hpen'.mono (by decide), q1, q2, q3, hadd _ q4⟩
  rintro v s' ⟨m, o2, q, h', tk', rfl, hm1, hm2, hpen2, hq1, hq2, hq3, F⟩
  refine z_st F fun h' tk' F => ?_
  -- the chain
  refine wpAny_execs_cons (wpAny_For (Call_ (z_bn T F (by exact rfl) (v := .type "range") (by boot_fast) (by decide) (z_cwT (spliced_more (IfExp_ (wpAny_isTrue_Compare1 (z_ld F hm1 (Tuple_ (spliced_more (z_int fun ta tk => spliced_more (z_int fun tb tk => spliced_none (z_tup F (sz_lt (by simp)) fun lt h' F => ?_)))))))))))))
  have hin : RD h' (.ref lt) (.tuple [.int 1, .int 3]) := RD.mkTup F.now.2 (RDs.cons RD.mkInt (RDs.cons RD.mkInt RDs.nil))
  refine z_inT hin (d := .int wy) RD.mkInt rfl rfl (by have := C.un; simp only [PyData.depth]; omega) ?_
  have F := F.imp (Ψ := fun h => h.get? lc = some (listOf (vs.take 63).toArray cc) ∧ RD h v q.data) fun h hh => hh.1
  refine ite_join (fun v2 s' => ∃ (n : Nat) (tn : Tok) (o' : Obj) (h'' : Heap) (tk'' : Nat), v2 = .int (n : Nat) tn ∧ n ≤ 39 ∧ s' = ⟨h'', s.gens, s.drawn, tk'', s.os⟩ ∧
    St s.heap s.heap.objs.size h'' (fun y => if y = Str.ofString "plain" then some v else m y) [(p, o')] (fun h => RD h v q.data)) ?_ ?_
  rotate_left
  · generalize ([PyData.int 1, .int 3].any fun y => PyData.eqv y (.int wy)) = bb
    cases bb with
    | true =>
      refine z_t rfl (Call_ (z_gl T F rfl (z_cw T (by exact rfl) (spliced_more (z_ld F hm2 (spliced_more (z_int fun t3 tk => spliced_none ⟨T.keeps F.ext, ?_⟩)))))))
      refine Mut.use (draw_ok w p lc 200 40 t3 (by decide) (by decide) (by decide)) C T F ⟨hpen2, hce _ F.now.1, hne⟩ fun v2 h' tk' o' R hpost hadd => ?_
      obtain ⟨_, n, tn, rfl, hn0, hn1⟩ := hpost
      obtain ⟨n, rfl⟩ := Int.eq_ofNat_of_zero_le hn0
      exact ⟨n, tn, o', _, _, rfl, by omega, rfl, (hadd (fun _ => True) fun _ _ => trivial).imp fun h hh => hh.1.2⟩
    | false => exact z_f rfl (z_int fun t tk => ⟨0, t, o2, _, _, rfl, by decide, rfl, F.imp fun h hh => hh.2⟩)
  rintro v2 s' ⟨n, tn, o3, h', tk', rfl, hn39, rfl, F⟩
  have F := F.drop
  refine spliced_none (z_range F fun rg h' tr1 tr2 tk F => ?_)
  refine z_forRange (n := n) (Φ₀ := fun _ => True) C.hd F.now.2 (by omega)
    (fun i m mu Φ => mu = [] ∧ ∃ (v : Value) (q : P), m "plain" = some v ∧ q.Ok ∧ q.ht ≤ 3 + i ∧ q.size ≤ 40 + i ∧ ∀ h, Φ h → RD h v q.data)
    (F.imp fun h hh => ⟨trivial, hh.1⟩) ⟨rfl, v, q, rfl, hq1, by omega, by omega, fun h hh => hh⟩ ?_ ?_
  · rintro i v m₁ mu₁ Φ₁ h₁ tk₁ it hi ⟨tv, rfl⟩ ⟨rfl, pv, q, hm1, hq1, hq2, hq3, hΦ⟩ F
    have hr9 := fmod_range (i := ((i : Nat) : Int)) (m := 9) (by decide)
    have hr2 := fmod_range (i := ((i : Nat) : Int)) (m := 2) (by decide)
    refine z_as F fun h' tk' F => ?_
    refine wpAny_execs_cons (wpAny_Assign_Name (Tuple_ (spliced_more (wpAny_BinOp (z_int fun t1 tk => wpAny_BinOp (z_ld F rfl (z_int fun t9 tk => z_mod (by decide) fun tm tk => z_add fun tr tk => ?_)))))))
    refine spliced_more (Subscript_ (Tuple_ (spliced_more (z_str fun a1 tk => spliced_more (z_str fun a2 tk => spliced_none (z_tup F (sz_lt (by simp)) fun l1 h' F => ?_))))))
    refine wpAny_BinOp (z_ld F rfl (z_int fun t2 tk => z_mod (by decide) fun tm2 tk => ?_))
    refine z_menu ⟨_, F.now.2, rfl, 0, rfl⟩ (.cons _ _ (.cons _ _ .nil)) hr2.1 (by simpa using hr2.2) (by decide) fun nm nt hk => ?_
    have hnm : OkS nm := menu_ok (ys := [Str.ofString "s", Str.ofString "t"]) (by decide +kernel) nm hk
    refine spliced_more (List_ (spliced_more (z_ld F hm1 (spliced_none (z_list F (sz_lt (by simp)) fun l2 h' F => spliced_none (z_tup F (sz_lt (by simp)) fun l3 h' F => z_st F fun h' tk' F => wpAny_execs_nil ?_))))))
    refine ⟨_, _, _, [], fun h => RD h (.ref l3) (P.node (1 + ((i : Nat) : Int).fmod 9) nm [q]).data, rfl, F.imp fun h hh => ⟨trivial, ?_⟩, rfl, .ref l3, .node (1 + ((i : Nat) : Int).fmod 9) nm [q], rfl, ⟨⟨by omega, hnm⟩, hq1, trivial⟩, ?_, ?_, fun h hh => hh⟩
    · exact RD.mkTup hh.2 (RDs.cons RD.mkInt (RDs.cons RD.mkStr (RDs.cons (RD.mkList hh.1.2 (RDs.cons (hΦ h hh.1.1.1.2) RDs.nil)) RDs.nil)))
    · simp only [P.ht, P.hts]; omega
    · simp only [P.size, P.sizes]; omega
  rintro h' tk' m' mu' Φ' ⟨rfl, v, q, hm1, hq1, hq2, hq3, hΦ⟩ F
  have F := F.imp (Ψ := fun h => RD h v q.data) fun h hh => hΦ h hh.2
  clear hΦ hpen hpen1 hpen2
  -- made
  refine wpAny_execs_cons (wpAny_Assign_Name (Call_ (z_gl T F rfl (z_cw T (by exact rfl) (spliced_more (z_ld F hm1 (spliced_none ⟨T.keeps F.ext, ?_⟩)))))))
  refine Pur.use (made_ok w 43 q v (by omega) hq1 (by omega)) C T F F.now fun x h' tk' R hpost hadd => ?_
  obtain ⟨o, rfl, rfl, hoat, hond⟩ := hpost
  have F := hadd _ hoat
  refine z_st F fun h' tk' F => ?_
  have hsz : o.plain.size ≤ 200 := by omega
  have hht : o.plain.ht ≤ 42 := by omega
  obtain ⟨a, y0, tnm, y2, rfl, hit⟩ := RD.item1 F.now.1
  -- forms, rules
  refine wpAny_execs_cons (z_swap2 (n1 := Str.ofString "forms") (n2 := Str.ofString "rules") rfl (Tuple_ (spliced_more (wpAny_BinOp (List_ (spliced_more (Tuple_ (spliced_more (Subscript_ (z_ld F hm1 (z_int fun t tk => z_itemT hit (by decide) (by decide) rfl rfl ?_)))))))))))
  refine spliced_none (z_tup F (sz_lt (by simp)) fun lt0 h' F => spliced_none (z_list F (sz_lt (by simp)) fun lf0 h' F => ?_))
  refine Call_ (z_gl T F rfl (z_cw T (by exact rfl) (spliced_more (z_ld F hm1 (spliced_more (Tuple_ (spliced_none (z_tup F (sz_lt (by simp)) fun la1 h' F => spliced_more (Tuple_ (spliced_none (z_tup F (sz_lt (by simp)) fun ra1 h' F => spliced_none ⟨T.keeps F.ext, ?_⟩)))))))))))
  refine Pur.use (forms_ok w 43 o.plain (.ref a) la1 ra1 [] [] [] [] (by omega) hq1 hsz (by simp; omega) (by simp; omega) (fun _ => RDs.nil) (fun _ => RDs.nil)) C T F ⟨F.now.1.1.1.1.1, ⟨_, F.now.1.2, rfl, 0, rfl⟩, ⟨_, F.now.2, rfl, 0, rfl⟩⟩ fun x h' tk' R hpost hadd => ?_
  obtain ⟨lx, xs, nx, rfl, hx⟩ := hpost
  have F := hadd _ hx
  have hB : TupsB la1 ra1 [] [] h' := ⟨⟨_, F.now.1.1.2, rfl, 0, rfl⟩, ⟨_, F.now.1.2, rfl, 0, rfl⟩⟩
  have hxl := (F.now.2.2 hB).len
  rw [List.length_map, P.forms_len] at hxl
  have hrl := P.rules_len o.plain
  refine z_addL F ⟨_, F.now.1.1.1.2, rfl, 0, rfl⟩ ⟨_, F.now.2.1, rfl, _, rfl⟩ (sz_lt (by simp; omega)) fun lfm h' F => ?_
  have F := F.imp (Ψ := fun h => (RD h (.ref a) o.plain.data ∧ o.At w h) ∧ h.get? lfm = some (listOf ([Value.ref lt0] ++ xs).toArray 0) ∧ RDs h ([Value.ref lt0] ++ xs) ((derivs o).map tupD)) fun h hh =>
    ⟨⟨hh.1.1.1.1.1.1.1, hh.1.1.1.1.1.1.2⟩, hh.2, RDs.cons (RD.mkTup hh.1.1.1.1.1.2 (RDs.cons (by rw [← O.nm_plain]; exact RD.mkStr) RDs.nil)) (hh.1.2.2 ⟨⟨_, hh.1.1.1.2, rfl, 0, rfl⟩, ⟨_, hh.1.1.2, rfl, 0, rfl⟩⟩)⟩
  generalize hfs : ([Value.ref lt0] ++ xs : List Value) = fs at F
  refine spliced_more (Call_ (z_gl T F rfl (z_cw T (by exact rfl) (spliced_more (z_ld F hm1 (spliced_none ⟨T.keeps F.ext, ?_⟩))))))
  refine Pur.use (rules_ok w 43 o.plain (.ref a) (by omega) hq1 hsz) C T F F.now.1.1 fun x h' tk' R hpost hadd => ?_
  obtain ⟨lr, rs, nr, rfl, hr⟩ := hpost
  have F := hadd _ hr
  refine spliced_none (z_tup F (sz_lt (by simp)) fun l4 h' F => ?_)
  refine z_unpackT C.hd F ⟨_, F.now.2, rfl, _, rfl⟩ rfl fun h' F => assignInOrder_cons (z_bind F fun h' tk' F => assignInOrder_cons (z_bind F fun h' tk' F => assignInOrder_nil ?_))
  -- the two turns
  refine wpAny_execs_cons (wpAny_For (Call_ (z_bn T F (by exact rfl) (v := .type "range") (by boot_fast) (by decide) (z_cwT (spliced_more (z_int fun t2 tk => spliced_none (z_range F fun rg h' tr1 tr2 tk F => ?_)))))))
  have hFacts : ∀ h, ((((((RD h (.ref a) o.plain.data ∧ o.At w h) ∧ h.get? lfm = some (listOf fs.toArray 0) ∧ RDs h fs ((derivs o).map tupD)) ∧ h.get? lr = some (listOf rs.toArray nr) ∧ RDs h rs (o.plain.rules.map .int)) ∧ h.get? l4 = some (tupOf #[.ref lfm, .ref lr])) ∧ IsRange h rg 0 2 1 tr1 t2 tr2) →
      (((RD h (.ref a) o.plain.data ∧ o.At w h) ∧ h.get? lfm = some (listOf fs.toArray 0) ∧ RDs h fs ((derivs o).map tupD)) ∧ h.get? lr = some (listOf rs.toArray nr) ∧ RDs h rs (o.plain.rules.map .int))) := fun h hh => hh.1.1
  refine z_forRange (n := 2) (Φ₀ := fun _ => True) C.hd F.now.2 (by decide)
    (fun i m mu Φ => mu = [] ∧ m "plain" = some (.ref a) ∧ m "made" = some (.ref o.addr) ∧ m "forms" = some (.ref lfm) ∧ m "rules" = some (.ref lr) ∧
      ∀ h, Φ h → ((RD h (.ref a) o.plain.data ∧ o.At w h) ∧ h.get? lfm = some (listOf fs.toArray 0) ∧ RDs h fs ((derivs o).map tupD)) ∧ h.get? lr = some (listOf rs.toArray nr) ∧ RDs h rs (o.plain.rules.map .int))
    (F.imp fun h hh => ⟨trivial, hFacts h hh⟩) ⟨rfl, hm1, rfl, rfl, rfl, fun h hh => hh⟩ ?_ ?_
  · rintro i v m₁ mu₁ Φ₁ h₁ tk₁ it hi hv ⟨rfl, hm1, hm2, hm3, hm4, hΦ⟩ F
    have hun : A.units + 300 < cLine := by have := C.un; omega
    refine z_as F fun h' tk' F => ?_
    -- told
    refine wpAny_execs_cons (wpAny_If (isTrue_or (wpAny_isTrue_Compare1 (MethodCall_ (z_ld F hm2 (z_mT (f := 56) T F (hΦ _ F.now.2).1.1.2 ?_))))))
    refine Pur.use (tt_ok w o hsz) C T F (hΦ _ F.now.2).1.1.2 fun x h' tk' R hpost hadd => ?_
    have F := hadd (fun h => RD h x o.plain.told) hpost
    refine Call_ (z_gl T F rfl (z_cw T (by exact rfl) (spliced_more (z_ld F hm1 (spliced_none ⟨T.keeps F.ext, ?_⟩)))))
    refine Pur.use (told_ok w 43 o.plain (.ref a) (by omega) hq1 hsz) C T F (hΦ _ F.now.1.2).1.1.1 fun y h' tk' R hpost hadd => ?_
    have F := hadd (fun h => RD h y o.plain.told) hpost
    refine z_neSame F.now.1.2 F.now.2 (lay_told hq1 (by omega)) hun (z_f rfl ?_)
    have F := F.imp (Ψ := fun h => True ∧ Φ₁ h) fun h hh => hh.1.1
    -- leaves
    refine isTrue_or (wpAny_isTrue_Compare1 (z_lc (MethodCall_ (z_ld F hm2 (z_mT (f := 61) T F (hΦ _ F.now.2).1.1.2 ?_)))))
    refine Pur.use (tlv_ok w o hsz) C T F (hΦ _ F.now.2).1.1.2 fun x h' tk' R hpost hadd => ?_
    obtain ⟨ltk, ntk, rfl, hlt⟩ := hpost
    have F := hadd _ hlt
    have hlvl : (leavesOf o.post).length ≤ 200 := by
      have h1 := congrArg List.length (O.lvs_post o)
      have h2 := P.lvs_len o.plain
      rw [List.length_map] at h1; omega
    have hatF := (hΦ _ F.now.1.2).1.1.2
    refine z_lcL (items := ((leavesOf o.post).map O.tok).toArray) C.hd ⟨_, F.now.2, rfl, _, rfl⟩ F (fun i ys Φ => ∀ h, Φ h → RDs h ys (((leavesOf o.post).take i).map fun c => pairD c.lv)) (fun h _ => RDs.nil) (sz_lt (by simp; omega)) ?_ ?_
    · intro hc C' j v ys Φ₂ h₂ tk₂ mc it2 hk hj hv hJ hys G
      have kc : Ext s.heap hc := fun b o e => hk b o (F.ext b o e)
      have T' : Tp w hc := T.keeps kc
      simp only [List.getElem?_toArray, List.getElem?_map, Option.map_eq_some_iff] at hv
      obtain ⟨c, hcc, rfl⟩ := hv
      have hcm : c ∈ leavesOf o.post := mem_at hcc
      have hcf := List.mem_filter.mp hcm
      have hcat := O.post_at hatF c hcf.1
      cases c with
      | node => cases hcf.2
      | leaf ca cd cl cta ctd ck ct =>
        rw [O.At] at hcat
        refine y_as G fun h' tk' G => z_tests0 (z_t rfl (MethodCall_ (y_ld G rfl (z_ttold C T' G (hcat.keeps (Ext.trans hk G.ext)) fun v h' tk' R hv hadd => ⟨_, _, _, _, rfl, hadd _ hv, fun h hh => ?_⟩))))
        rw [take_snoc hcc, List.map_append]
        exact RDs.append (hJ h hh.1) (RDs.cons hh.2 RDs.nil)
    intro C' D h' tk' ys Φ' oC mm hJ hys hns G
    refine post_none hns G fun h'' F => ?_
    have e1 : ((leavesOf o.post).map O.tok).toArray.size = (leavesOf o.post).length := by simp
    rw [e1, List.take_length] at hJ
    have e2 : ((leavesOf o.post).map fun c => pairD c.lv) = o.plain.lvs.map pairD := by rw [← O.lvs_post, List.map_map]; rfl
    rw [e2] at hJ
    have F := F.imp (Ψ := fun h => (True ∧ Φ₁ h) ∧ RD h (.ref D) (.list (o.plain.lvs.map pairD))) fun h hh => ⟨hh.1.1.1, RD.mkList hh.2 (hJ h hh.1.2)⟩
    refine Call_ (z_gl T F rfl (z_cw T (by exact rfl) (spliced_more (z_ld F hm1 (spliced_none ⟨T.keeps F.ext, ?_⟩)))))
    refine Pur.use (leaves_ok w 43 o.plain (.ref a) (by omega) hq1 hsz) C T F (hΦ _ F.now.1.2).1.1.1 fun y h' tk' R hpost hadd => ?_
    obtain ⟨ly, yy, ny, rfl, hy⟩ := hpost
    have F := hadd _ hy
    refine z_neSame F.now.1.2 (RD.mkList F.now.2.1 F.now.2.2) (lay_lvs hq1) hun (z_f rfl (isTrue_or_nil (z_f rfl (wpAny_execs_nil ?_))))
    have F := F.imp (Ψ := fun h => True ∧ Φ₁ h) fun h hh => hh.1.1
    -- reductions
    refine wpAny_execs_cons (wpAny_If (isTrue_or (wpAny_isTrue_Compare1 (MethodCall_ (z_ld F hm2 (z_mT (f := 66) T F (hΦ _ F.now.2).1.1.2 ?_))))))
    refine Pur.use (red_ok w o hsz) C T F (hΦ _ F.now.2).1.1.2 fun x h' tk' R hpost hadd => ?_
    obtain ⟨lx, xx, nx, rfl, hx⟩ := hpost
    have F := hadd _ hx
    have hru := (hΦ _ F.now.1.2).2
    refine z_ld F hm4 (z_neSame (RD.mkList F.now.2.1 F.now.2.2) (RD.mkList hru.1 hru.2) (lay_ints _) hun (z_f rfl ?_))
    have F := F.imp (Ψ := fun h => True ∧ Φ₁ h) fun h hh => hh.1
    -- height
    refine isTrue_or (wpAny_isTrue_Compare1 (MethodCall_ (z_ld F hm2 (z_mT (f := 73) T F (hΦ _ F.now.2).1.1.2 ?_))))
    refine Pur.use (th_ok w o hsz) C T F (hΦ _ F.now.2).1.1.2 fun x h' tk' R hpost hadd => ?_
    obtain ⟨tx, rfl⟩ := hpost
    have F := hadd (fun _ => True) fun _ _ => trivial
    refine Call_ (z_gl T F rfl (z_cw T (by exact rfl) (spliced_more (z_ld F hm1 (spliced_none ⟨T.keeps F.ext, ?_⟩)))))
    refine Pur.use (height_ok w 43 o.plain (.ref a) (by omega) hq1 hsz) C T F (hΦ _ F.now.1.2).1.1.1 fun y h' tk' R hpost hadd => ?_
    obtain ⟨ty, rfl⟩ := hpost
    have F := hadd (fun _ => True) fun _ _ => trivial
    refine z_neSame (d := .int o.plain.ht) RD.mkInt RD.mkInt ⟨rfl, Nat.zero_le _⟩ hun (z_f rfl (isTrue_or_nil (z_f rfl (wpAny_execs_nil ?_))))
    have F := F.imp (Ψ := fun h => True ∧ Φ₁ h) fun h hh => hh.1.1
    -- show
    refine wpAny_execs_cons (wpAny_If (isTrue_or (wpAny_isTrue_Compare1 (MethodCall_ (MethodCall_ (z_ld F hm2 (z_mT (f := 80) T F (hΦ _ F.now.2).1.1.2 ?_)))))))
    refine Pur.use (show_ok w o hsz hq1 (by omega)) C T F (hΦ _ F.now.2).1.1.2 fun x h' tk' R hpost hadd => ?_
    obtain ⟨tx, rfl⟩ := hpost
    have F := (hadd (fun _ => True) fun _ _ => trivial).imp (Ψ := fun h => True ∧ Φ₁ h) fun h hh => hh.1
    refine GM.split (z_cb1 (spliced_more (z_str fun tn tk => spliced_none (z_split F (by decide +kernel) ?_ fun D h' tk' ws hws F hD => ?_))))
    · have h1 := sum_le (B := 420) ((o.plain.page 0).map (·.length)) (by
        intro x hx
        obtain ⟨y, hy, rfl⟩ := List.mem_map.mp hx
        exact P.page_row (B := 200) _ o.plain 0 (Nat.lt_succ_self _) hq1 (by omega) y hy)
      have h2 := P.page_len o.plain 0
      have h3 : (Txt.join nlS (o.plain.page 0)).length ≤ ((o.plain.page 0).map (·.length)).sum + (o.plain.page 0).length * nlS.length := by
        have := StrLaws.join_length_le nlS (o.plain.page 0)
        rw [← StrLaws.glued_eq_join] at this
        exact this
      have h4 : nlS.length = 1 := by decide +kernel
      rw [List.length_map] at h1
      rw [h4] at h3
      show (Txt.join nlS (o.plain.page 0)).length ≤ _
      omega
    have hws : StrsAre ws (o.plain.page 0) := by rw [← split_page hq1]; exact hws
    refine Call_ (z_gl T F rfl (z_cw T (by exact rfl) (spliced_more (z_ld F hm1 (spliced_more (z_int fun t0 tk => spliced_none ⟨T.keeps F.ext, ?_⟩))))))
    refine Pur.useN (page_ok w 43 o.plain (.ref a) 0 t0 (by omega) hq1 hsz (by omega)) C T F (hΦ _ F.now.2).1.1.1 fun y h' tk' R hpost hadd hfr hext => ?_
    obtain ⟨ly, yy, ny, rfl, hy⟩ := hpost
    have F := hadd _ hy
    have hD' : RD h' (.ref D) (.list ((o.plain.page 0).map .str)) := by
      obtain ⟨od, e1, e2, n2, e3⟩ := hD
      have : ∀ {ws : List Value} {ss : List Str}, StrsAre ws ss → RDs h' ws (ss.map .str) := by
        intro ws ss h
        induction h with
        | nil => exact RDs.nil
        | cons y t _ ih => exact RDs.cons RD.mkStr ih
      obtain ⟨as, r⟩ := this hws
      exact ⟨_, .list (hext _ _ e1) e2 e3 r⟩
    refine z_neSame hD' (RD.mkList F.now.2.1 F.now.2.2) (lay_page hq1) hun (z_f rfl ?_)
    have F := F.imp (Ψ := fun h => True ∧ Φ₁ h) fun h hh => hh.1
    -- derivation
    refine isTrue_or (wpAny_isTrue_Compare1 (Call_ (z_gl T F rfl (z_cw T (by exact rfl) (spliced_more (z_ld F hm2 (spliced_none ⟨T.keeps F.ext, ?_⟩)))))))
    refine Pur.use (deriv_ok w o hsz) C T F (hΦ _ F.now.2).1.1.2 fun x h' tk' R hpost hadd => ?_
    obtain ⟨lx, xx, nx, rfl, hx⟩ := hpost
    have F := hadd _ hx
    have hfo := (hΦ _ F.now.1.2).1.2
    refine z_ld F hm3 (z_neSame (RD.mkList F.now.2.1 F.now.2.2) (RD.mkList hfo.1 hfo.2) (lay_forms (derivs_ok hq1)) hun (z_f rfl (isTrue_or_nil (z_f rfl (wpAny_execs_nil (wpAny_execs_nil ?_))))))
    exact ⟨_, _, _, [], Φ₁, rfl, F.imp fun h hh => hh.1, rfl, hm1, hm2, hm3, hm4, hΦ⟩
  rintro h' tk' m' mu' Φ' ⟨rfl, hm1, hm2, hm3, hm4, hΦ⟩ F
  have hun : A.units + 300 < cLine := by have := C.un; omega
  have hfl := (hΦ _ F.now.2).1.2.2.len
  have hrl2 := (hΦ _ F.now.2).2.2.len
  rw [List.length_map] at hfl hrl2
  have hdl : (derivs o).length = o.plain.rules.length + 1 := by simp [derivs, P.forms_len]
  refine wpAny_execs_cons (wpAny_Return_some (BoolOp_and (wpAny_Compare1 (Call_ (z_bn T F (by exact rfl) (v := .builtin "len") (by boot_fast) (by decide) (z_cwB (spliced_more (z_ld F hm3 (spliced_none (z_lenL ⟨_, (hΦ _ F.now.2).1.2.1, rfl, _, rfl⟩ (sz_lt (by simp; omega)) fun t1 tk => ?_))))))))))
  refine wpAny_BinOp (Call_ (z_bn T F (by exact rfl) (v := .builtin "len") (by boot_fast) (by decide) (z_cwB (spliced_more (z_ld F hm4 (spliced_none (z_lenL ⟨_, (hΦ _ F.now.2).2.1, rfl, _, rfl⟩ (sz_lt (by simp; omega)) fun t2 tk => z_int fun t3 tk => z_add fun t4 tk => eq_int (wpAny_truthy_bool (z_t (by simp; omega) ?_)))))))))
  refine BoolOp_and (wpAny_Compare1 (Subscript_ (z_ld F hm4 (z_slice (wpAny_evalPart_none (wpAny_evalPart_none (wpAny_evalPart_some (wpAny_UnaryOp (z_int fun t tk => neg_int ?_)))))))))
  refine z_slT (its := rs.toArray) F ⟨_, (hΦ _ F.now.2).2.1, rfl, _, rfl⟩ .none .none (.int _ _) (by decide) (sz_lt (by simp; omega)) fun lrv h' F => ?_
  rw [krv_pick] at F
  refine Call_ (z_gl T F rfl (z_cw T (by exact rfl) (spliced_more (z_ld F hm1 (spliced_none ⟨T.keeps F.ext, ?_⟩)))))
  refine Pur.use (opened_ok w 43 o.plain (.ref a) (by omega) hq1 hsz) C T F (hΦ _ F.now.1.2).1.1.1 fun y h' tk' R hpost hadd => ?_
  obtain ⟨ly, yy, ny, rfl, hy⟩ := hpost
  have F := hadd _ hy
  have hrev : RDs h' rs.reverse (o.plain.opened.map .int) := by
    rw [P.opened_eq, List.map_reverse]
    exact RDs.reverse (hΦ _ F.now.1.1.2).2.2
  refine z_eqSame (RD.mkList F.now.1.2 hrev) (RD.mkList F.now.2.1 F.now.2.2) (lay_ints _) hun (wpAny_truthy_bool (z_t rfl ?_))
  refine BoolOp_one (Call_ (z_gl T F rfl (z_cw T (by exact rfl) (spliced_more (z_ld F hm2 (spliced_none ⟨T.keeps F.ext, ?_⟩))))))
  refine Pur.use (ord_ok w o hsz hond) C T F (hΦ _ F.now.1.1.2).1.1.2 fun y h' tk' R hpost hadd => ?_
  cases hpost
  have F := hadd (fun _ => True) fun _ _ => trivial
  exact ⟨_, _, _, _, rfl, rfl, F.fr⟩
end Mine
namespace Mine
noncomputable abbrev RW : RowW := (PySem.Challenge.rw_nn0354_01).row.toRowW
def asL : List Addr := [2, 3, 15, 17, 18, 20, 21, 29, 31, 32, 34, 35, 36, 38, 39, 41, 42, 43, 45, 46, 48, 49, 50, 52, 53, 55, 56, 57, 60, 61, 62, 65, 66, 67, 69, 70, 72, 73, 74, 76, 77, 79, 80, 81, 82, 83, 84, 85, 88, 95, 97, 98, 100, 101, 102, 104, 105, 107, 108, 109, 111, 112, 114, 115, 116, 117, 118, 121, 123, 124, 126, 127, 128, 131, 132, 140, 141, 143, 144, 146, 147, 148, 150, 151, 153, 154, 155, 157, 158, 160, 161, 162, 163, 164, 165, 166, 169, 171, 172, 174, 175, 176, 178, 179, 181, 182, 183, 186, 187, 188, 190, 191, 193, 194, 195, 198, 199, 200, 203, 204, 205, 207, 208, 210, 211, 212, 214, 215, 217, 218, 219, 222, 223, 224, 226, 227, 229, 230, 231, 234, 235, 236, 238, 239, 241, 242, 243, 246, 247, 248, 251, 252]
noncomputable def hk : Hook := kHook Mine.hd.heap_39 asL (fun _ => by kernel_rfl)
noncomputable def tmObj (s : Stmt) (qual : String) : Obj := match s with
  | .FunctionDef n ps b _ _ _ sc _ _ _ => { cls := .none, data := .func { name := n, qualname := Str.ofString qual, params := ps, body := .stmts b, scope := sc, globals := 0, closure := [], defaults := .none, kwdefaults := .none } }
  | _ => { cls := .none }
noncomputable def hd.pre (P : Params) : List Obj :=
  (PySem.W.boot_o_0 P) ::
  (PySem.W.boot_o_1 P) ::
  (PySem.W.boot_o_2 P) ::
  (PySem.W.boot_o_3 P) ::
  (PySem.W.boot_o_4 P) ::
  (PySem.W.boot_o_5 P) ::
  (PySem.W.boot_o_6 P) ::
  (PySem.W.boot_o_7 P) ::
  (PySem.W.boot_o_8 P) ::
  (PySem.W.boot_o_9 P) ::
  (PySem.W.boot_o_10 P) ::
  { cls := Value.type "tuple", data := Data.seq #[] } ::
  { cls := Value.none, data := Data.fields #[] } ::
  { cls := Value.type "code", data := Data.fields #[Value.str (Str.ofString "<module>") 182, Value.str (Str.ofString "<module>") 183, Value.str (Str.ofString "/claim/cut.py") 184, Value.int 1 0, Value.int 0 0, Value.int 0 0, Value.int 0 0, Value.int 0 0, Value.ref 11, Value.bool false, Value.int 181 0, Value.ref 12, Value.none, Value.none, Value.none, Value.none, Value.int 185 0, Value.int 1 0, Value.str (Str.ofString "/claim/cut.py") 186] } ::
  { cls := Value.type "frame", slots := #[some (Value.ref 13), some (Value.ref 3), some (Value.ref 3), none, some (Value.str (Str.ofString "__main__") 164), none, some (Value.ref 0)] } :: []
noncomputable def hd.c1 (P : Params) (x y z : Obj) (t : List Obj) : List Obj :=
  (PySem.W.boot_o_0 P) ::
  (PySem.W.boot_o_1 P) ::
  (PySem.W.boot_o_2 P) ::
  x ::
  (PySem.W.boot_o_4 P) ::
  (PySem.W.boot_o_5 P) ::
  (PySem.W.boot_o_6 P) ::
  (PySem.W.boot_o_7 P) ::
  (PySem.W.boot_o_8 P) ::
  (PySem.W.boot_o_9 P) ::
  (PySem.W.boot_o_10 P) ::
  { cls := Value.type "tuple", data := Data.seq #[] } ::
  y ::
  { cls := Value.type "code", data := Data.fields #[Value.str (Str.ofString "<module>") 182, Value.str (Str.ofString "<module>") 183, Value.str (Str.ofString "/claim/cut.py") 184, Value.int 1 0, Value.int 0 0, Value.int 0 0, Value.int 0 0, Value.int 0 0, Value.ref 11, Value.bool false, Value.int 181 0, Value.ref 12, Value.none, Value.none, Value.none, Value.none, Value.int 185 0, Value.int 1 0, Value.str (Str.ofString "/claim/cut.py") 186] } ::
  { cls := Value.type "frame", slots := #[some (Value.ref 13), some (Value.ref 3), some (Value.ref 3), none, some (Value.str (Str.ofString "__main__") 164), none, some (Value.ref 0)] } ::
  { cls := Value.type "tuple", data := Data.seq #[] } ::
  { cls := Value.none, data := Data.fields #[] } ::
  { cls := Value.type "tuple", data := Data.seq #[Value.str (Str.ofString "k") 190] } ::
  { cls := Value.type "tuple", data := Data.seq #[] } ::
  (tmObj (nth topBody 0) "_wall") ::
  { cls := Value.type "code", data := Data.fields #[Value.str (Str.ofString "_wall") 187, Value.str (Str.ofString "_wall") 188, Value.str (Str.ofString "/claim/cut.py") 189, Value.int 1 0, Value.int 1 0, Value.int 0 0, Value.int 0 0, Value.int 3 0, Value.ref 15, Value.bool true, Value.int 181 0, Value.ref 16, Value.none, Value.ref 17, Value.ref 18, Value.ref 19, Value.int 191 0, Value.int 1 0, Value.str (Str.ofString "/claim/cut.py") 192] } ::
  (fnObj (nth topBody 0) "_wall" "__main__" 164 20 Value.none) ::
  { cls := Value.type "tuple", data := Data.seq #[] } ::
  { cls := Value.type "builtin_function_or_method", data := Data.fields #[Value.builtin "type.__prepare__", Value.type "type"] } ::
  { cls := Value.type "dict", data := Data.dict #[{ hash := PyData.keyHash P (Str.ofString "__module__"), key := Value.str (Str.ofString "__module__") 203, val := Value.str (Str.ofString "grammarmill.nodes") 194 }, { hash := PyData.keyHash P (Str.ofString "__qualname__"), key := Value.str (Str.ofString "__qualname__") 205, val := Value.str (Str.ofString "Tree") 204 }, { hash := PyData.keyHash P (Str.ofString "__firstlineno__"), key := Value.str (Str.ofString "__firstlineno__") 207, val := Value.int 5 206 }, { hash := PyData.keyHash P (Str.ofString "__init__"), key := Value.str (Str.ofString "__init__") 217, val := Value.ref 35 }, { hash := PyData.keyHash P (Str.ofString "is_leaf"), key := Value.str (Str.ofString "is_leaf") 224, val := Value.ref 42 }, { hash := PyData.keyHash P (Str.ofString "head"), key := Value.str (Str.ofString "head") 231, val := Value.ref 49 }, { hash := PyData.keyHash P (Str.ofString "told"), key := Value.str (Str.ofString "told") 241, val := Value.ref 56 }, { hash := PyData.keyHash P (Str.ofString "leaves"), key := Value.str (Str.ofString "leaves") 247, val := Value.ref 61 }, { hash := PyData.keyHash P (Str.ofString "reductions"), key := Value.str (Str.ofString "reductions") 253, val := Value.ref 66 }, { hash := PyData.keyHash P (Str.ofString "height"), key := Value.str (Str.ofString "height") 264, val := Value.ref 73 }, { hash := PyData.keyHash P (Str.ofString "show"), key := Value.str (Str.ofString "show") 276, val := Value.ref 80 }, { hash := PyData.keyHash P (Str.ofString "__static_attributes__"), key := Value.str (Str.ofString "__static_attributes__") 280, val := Value.ref 81 }] 12 } ::
  { cls := Value.type "tuple", data := Data.seq #[] } ::
  { cls := Value.none, data := Data.fields #[Value.int 7 0, Value.int 4 0, Value.ref 34, Value.int 12 0, Value.int 4 0, Value.ref 41, Value.int 15 0, Value.int 4 0, Value.ref 48, Value.int 18 0, Value.int 4 0, Value.ref 55, Value.int 28 0, Value.int 4 0, Value.ref 60, Value.int 31 0, Value.int 4 0, Value.ref 65, Value.int 34 0, Value.int 4 0, Value.ref 72, Value.int 42 0, Value.int 4 0, Value.ref 79] } ::
  { cls := Value.type "code", data := Data.fields #[Value.str (Str.ofString "Tree") 198, Value.str (Str.ofString "Tree") 199, Value.str (Str.ofString "/claim/cut.py") 200, Value.int 5 0, Value.int 0 0, Value.int 0 0, Value.int 0 0, Value.int 0 0, Value.ref 25, Value.bool false, Value.int 181 0, Value.ref 26, Value.none, Value.none, Value.none, Value.none, Value.int 201 0, Value.int 5 0, Value.str (Str.ofString "/claim/cut.py") 202] } ::
  { cls := Value.type "frame", slots := #[some (Value.ref 27), some (Value.ref 3), some (Value.ref 24), none, some (Value.str (Str.ofString "grammarmill.nodes") 194), none, some (Value.ref 0)] } ::
  { cls := Value.type "tuple", data := Data.seq #[] } ::
  { cls := Value.none, data := Data.fields #[] } ::
  { cls := Value.type "tuple", data := Data.seq #[Value.str (Str.ofString "self") 211, Value.str (Str.ofString "name") 212, Value.str (Str.ofString "rule") 213, Value.str (Str.ofString "children") 214] } ::
  { cls := Value.type "tuple", data := Data.seq #[] } ::
  (tmObj (nth (inCls (nth topBody 2)) 0) "Tree.__init__") ::
  { cls := Value.type "code", data := Data.fields #[Value.str (Str.ofString "__init__") 208, Value.str (Str.ofString "Tree.__init__") 209, Value.str (Str.ofString "/claim/cut.py") 210, Value.int 7 0, Value.int 4 0, Value.int 0 0, Value.int 0 0, Value.int 3 0, Value.ref 29, Value.bool true, Value.int 181 0, Value.ref 30, Value.none, Value.ref 31, Value.ref 32, Value.ref 33, Value.int 215 0, Value.int 7 0, Value.str (Str.ofString "/claim/cut.py") 216] } ::
  (fnObj (nth (inCls (nth topBody 2)) 0) "Tree.__init__" "grammarmill.nodes" 194 34 Value.none) ::
  { cls := Value.type "tuple", data := Data.seq #[] } ::
  { cls := Value.none, data := Data.fields #[] } ::
  { cls := Value.type "tuple", data := Data.seq #[Value.str (Str.ofString "self") 221] } ::
  { cls := Value.type "tuple", data := Data.seq #[] } ::
  (tmObj (nth (inCls (nth topBody 2)) 1) "Tree.is_leaf") ::
  { cls := Value.type "code", data := Data.fields #[Value.str (Str.ofString "is_leaf") 218, Value.str (Str.ofString "Tree.is_leaf") 219, Value.str (Str.ofString "/claim/cut.py") 220, Value.int 12 0, Value.int 1 0, Value.int 0 0, Value.int 0 0, Value.int 3 0, Value.ref 36, Value.bool true, Value.int 181 0, Value.ref 37, Value.none, Value.ref 38, Value.ref 39, Value.ref 40, Value.int 222 0, Value.int 12 0, Value.str (Str.ofString "/claim/cut.py") 223] } ::
  (fnObj (nth (inCls (nth topBody 2)) 1) "Tree.is_leaf" "grammarmill.nodes" 194 41 Value.none) ::
  { cls := Value.type "tuple", data := Data.seq #[] } ::
  { cls := Value.none, data := Data.fields #[] } ::
  { cls := Value.type "tuple", data := Data.seq #[Value.str (Str.ofString "self") 228] } ::
  { cls := Value.type "tuple", data := Data.seq #[] } ::
  (tmObj (nth (inCls (nth topBody 2)) 2) "Tree.head") ::
  { cls := Value.type "code", data := Data.fields #[Value.str (Str.ofString "head") 225, Value.str (Str.ofString "Tree.head") 226, Value.str (Str.ofString "/claim/cut.py") 227, Value.int 15 0, Value.int 1 0, Value.int 0 0, Value.int 0 0, Value.int 3 0, Value.ref 43, Value.bool true, Value.int 181 0, Value.ref 44, Value.none, Value.ref 45, Value.ref 46, Value.ref 47, Value.int 229 0, Value.int 15 0, Value.str (Str.ofString "/claim/cut.py") 230] } ::
  (fnObj (nth (inCls (nth topBody 2)) 2) "Tree.head" "grammarmill.nodes" 194 48 Value.none) ::
  { cls := Value.type "tuple", data := Data.seq #[] } ::
  { cls := Value.none, data := Data.fields #[] } ::
  { cls := Value.type "tuple", data := Data.seq #[Value.str (Str.ofString "self") 235, Value.str (Str.ofString "done") 236, Value.str (Str.ofString "node") 237, Value.str (Str.ofString "start") 238] } ::
  { cls := Value.type "tuple", data := Data.seq #[] } ::
  (tmObj (nth (inCls (nth topBody 2)) 3) "Tree.told") ::
  { cls := Value.type "code", data := Data.fields #[Value.str (Str.ofString "told") 232, Value.str (Str.ofString "Tree.told") 233, Value.str (Str.ofString "/claim/cut.py") 234, Value.int 18 0, Value.int 1 0, Value.int 0 0, Value.int 0 0, Value.int 3 0, Value.ref 50, Value.bool true, Value.int 181 0, Value.ref 51, Value.none, Value.ref 52, Value.ref 53, Value.ref 54, Value.int 239 0, Value.int 18 0, Value.str (Str.ofString "/claim/cut.py") 240] } ::
  (fnObj (nth (inCls (nth topBody 2)) 3) "Tree.told" "grammarmill.nodes" 194 55 Value.none) ::
  { cls := Value.type "tuple", data := Data.seq #[] } ::
  { cls := Value.none, data := Data.fields #[] } ::
  (tmObj (nth (inCls (nth topBody 2)) 4) "Tree.leaves") ::
  { cls := Value.type "code", data := Data.fields #[Value.str (Str.ofString "leaves") 242, Value.str (Str.ofString "Tree.leaves") 243, Value.str (Str.ofString "/claim/cut.py") 244, Value.int 28 0, Value.int 1 0, Value.int 0 0, Value.int 0 0, Value.int 3 0, Value.ref 57, Value.bool true, Value.int 181 0, Value.ref 58, Value.none, Value.none, Value.none, Value.ref 59, Value.int 245 0, Value.int 28 0, Value.str (Str.ofString "/claim/cut.py") 246] } ::
  (fnObj (nth (inCls (nth topBody 2)) 4) "Tree.leaves" "grammarmill.nodes" 194 60 Value.none) ::
  { cls := Value.type "tuple", data := Data.seq #[] } ::
  { cls := Value.none, data := Data.fields #[] } ::
  (tmObj (nth (inCls (nth topBody 2)) 5) "Tree.reductions") ::
  { cls := Value.type "code", data := Data.fields #[Value.str (Str.ofString "reductions") 248, Value.str (Str.ofString "Tree.reductions") 249, Value.str (Str.ofString "/claim/cut.py") 250, Value.int 31 0, Value.int 1 0, Value.int 0 0, Value.int 0 0, Value.int 3 0, Value.ref 62, Value.bool true, Value.int 181 0, Value.ref 63, Value.none, Value.none, Value.none, Value.ref 64, Value.int 251 0, Value.int 31 0, Value.str (Str.ofString "/claim/cut.py") 252] } ::
  (fnObj (nth (inCls (nth topBody 2)) 5) "Tree.reductions" "grammarmill.nodes" 194 65 Value.none) ::
  { cls := Value.type "tuple", data := Data.seq #[] } ::
  { cls := Value.none, data := Data.fields #[] } ::
  { cls := Value.type "tuple", data := Data.seq #[Value.str (Str.ofString "self") 257, Value.str (Str.ofString "done") 258, Value.str (Str.ofString "node") 259, Value.str (Str.ofString "start") 260, Value.str (Str.ofString "below") 261] } ::
  { cls := Value.type "tuple", data := Data.seq #[] } ::
  (tmObj (nth (inCls (nth topBody 2)) 6) "Tree.height") ::
  { cls := Value.type "code", data := Data.fields #[Value.str (Str.ofString "height") 254, Value.str (Str.ofString "Tree.height") 255, Value.str (Str.ofString "/claim/cut.py") 256, Value.int 34 0, Value.int 1 0, Value.int 0 0, Value.int 0 0, Value.int 3 0, Value.ref 67, Value.bool true, Value.int 181 0, Value.ref 68, Value.none, Value.ref 69, Value.ref 70, Value.ref 71, Value.int 262 0, Value.int 34 0, Value.str (Str.ofString "/claim/cut.py") 263] } ::
  (fnObj (nth (inCls (nth topBody 2)) 6) "Tree.height" "grammarmill.nodes" 194 72 Value.none) ::
  { cls := Value.type "tuple", data := Data.seq #[] } ::
  { cls := Value.none, data := Data.fields #[] } ::
  { cls := Value.type "tuple", data := Data.seq #[Value.str (Str.ofString "self") 268, Value.str (Str.ofString "rows") 269, Value.str (Str.ofString "line") 270, Value.str (Str.ofString "node") 271, Value.str (Str.ofString "deep") 272, Value.str (Str.ofString "child") 273] } ::
  { cls := Value.type "tuple", data := Data.seq #[] } ::
  (tmObj (nth (inCls (nth topBody 2)) 7) "Tree.show") ::
  { cls := Value.type "code", data := Data.fields #[Value.str (Str.ofString "show") 265, Value.str (Str.ofString "Tree.show") 266, Value.str (Str.ofString "/claim/cut.py") 267, Value.int 42 0, Value.int 1 0, Value.int 0 0, Value.int 0 0, Value.int 3 0, Value.ref 74, Value.bool true, Value.int 181 0, Value.ref 75, Value.none, Value.ref 76, Value.ref 77, Value.ref 78, Value.int 274 0, Value.int 42 0, Value.str (Str.ofString "/claim/cut.py") 275] } ::
  (fnObj (nth (inCls (nth topBody 2)) 7) "Tree.show" "grammarmill.nodes" 194 79 Value.none) ::
  { cls := Value.type "tuple", data := Data.seq #[Value.str (Str.ofString "children") 277, Value.str (Str.ofString "name") 278, Value.str (Str.ofString "rule") 279] } ::
  { cls := Value.type "dict", data := Data.dict #[{ hash := PyData.keyHash P (Str.ofString "__module__"), key := Value.str (Str.ofString "__module__") 203, val := Value.str (Str.ofString "grammarmill.nodes") 194 }, { hash := PyData.keyHash P (Str.ofString "__firstlineno__"), key := Value.str (Str.ofString "__firstlineno__") 207, val := Value.int 5 206 }, { hash := PyData.keyHash P (Str.ofString "__init__"), key := Value.str (Str.ofString "__init__") 217, val := Value.ref 35 }, { hash := PyData.keyHash P (Str.ofString "is_leaf"), key := Value.str (Str.ofString "is_leaf") 224, val := Value.ref 42 }, { hash := PyData.keyHash P (Str.ofString "head"), key := Value.str (Str.ofString "head") 231, val := Value.ref 49 }, { hash := PyData.keyHash P (Str.ofString "told"), key := Value.str (Str.ofString "told") 241, val := Value.ref 56 }, { hash := PyData.keyHash P (Str.ofString "leaves"), key := Value.str (Str.ofString "leaves") 247, val := Value.ref 61 }, { hash := PyData.keyHash P (Str.ofString "reductions"), key := Value.str (Str.ofString "reductions") 253, val := Value.ref 66 }, { hash := PyData.keyHash P (Str.ofString "height"), key := Value.str (Str.ofString "height") 264, val := Value.ref 73 }, { hash := PyData.keyHash P (Str.ofString "show"), key := Value.str (Str.ofString "show") 276, val := Value.ref 80 }, { hash := PyData.keyHash P (Str.ofString "__static_attributes__"), key := Value.str (Str.ofString "__static_attributes__") 280, val := Value.ref 81 }, { hash := PyData.keyHash P (Str.ofString "__dict__"), key := Value.str (Str.ofString "__dict__") 282, val := Value.ref 84 }, { hash := PyData.keyHash P (Str.ofString "__weakref__"), key := Value.str (Str.ofString "__weakref__") 284, val := Value.ref 85 }, { hash := PyData.keyHash P (Str.ofString "__doc__"), key := Value.str (Str.ofString "__doc__") 285, val := Value.none }] 4 } ::
  z ::
  { cls := Value.type "getset_descriptor", data := Data.fields #[Value.str (Str.ofString "__dict__") 281, Value.ref 83, Value.builtin "function.__dict__", Value.builtin "function.__dict__#set"] } ::
  { cls := Value.type "getset_descriptor", data := Data.fields #[Value.str (Str.ofString "__weakref__") 283, Value.ref 83, Value.builtin "ExceptionGroup.__weakref__", Value.none] } ::
  { cls := Value.type "super", data := Data.fields #[Value.ref 83, Value.ref 83, Value.ref 83] } ::
  { cls := Value.type "builtin_function_or_method", data := Data.fields #[Value.builtin "object.__init_subclass__", Value.ref 83] } :: t
noncomputable def hd.c2 (P : Params) (t : List Obj) : List Obj :=
  { cls := Value.type "tuple", data := Data.seq #[Value.ref 83] } ::
  { cls := Value.type "builtin_function_or_method", data := Data.fields #[Value.builtin "type.__prepare__", Value.type "type"] } ::
  { cls := Value.type "dict", data := Data.dict #[{ hash := PyData.keyHash P (Str.ofString "__module__"), key := Value.str (Str.ofString "__module__") 295, val := Value.str (Str.ofString "grammarmill.nodes") 194 }, { hash := PyData.keyHash P (Str.ofString "__qualname__"), key := Value.str (Str.ofString "__qualname__") 297, val := Value.str (Str.ofString "Leaf") 296 }, { hash := PyData.keyHash P (Str.ofString "__firstlineno__"), key := Value.str (Str.ofString "__firstlineno__") 299, val := Value.int 51 298 }, { hash := PyData.keyHash P (Str.ofString "__init__"), key := Value.str (Str.ofString "__init__") 307, val := Value.ref 101 }, { hash := PyData.keyHash P (Str.ofString "is_leaf"), key := Value.str (Str.ofString "is_leaf") 314, val := Value.ref 108 }, { hash := PyData.keyHash P (Str.ofString "head"), key := Value.str (Str.ofString "head") 321, val := Value.ref 115 }, { hash := PyData.keyHash P (Str.ofString "__static_attributes__"), key := Value.str (Str.ofString "__static_attributes__") 326, val := Value.ref 116 }] 7 } ::
  { cls := Value.type "tuple", data := Data.seq #[] } ::
  { cls := Value.none, data := Data.fields #[Value.int 53 0, Value.int 4 0, Value.ref 100, Value.int 59 0, Value.int 4 0, Value.ref 107, Value.int 62 0, Value.int 4 0, Value.ref 114] } ::
  { cls := Value.type "code", data := Data.fields #[Value.str (Str.ofString "Leaf") 290, Value.str (Str.ofString "Leaf") 291, Value.str (Str.ofString "/claim/cut.py") 292, Value.int 51 0, Value.int 0 0, Value.int 0 0, Value.int 0 0, Value.int 0 0, Value.ref 91, Value.bool false, Value.int 181 0, Value.ref 92, Value.none, Value.none, Value.none, Value.none, Value.int 293 0, Value.int 51 0, Value.str (Str.ofString "/claim/cut.py") 294] } ::
  { cls := Value.type "frame", slots := #[some (Value.ref 93), some (Value.ref 3), some (Value.ref 90), none, some (Value.str (Str.ofString "grammarmill.nodes") 194), none, some (Value.ref 0)] } ::
  { cls := Value.type "tuple", data := Data.seq #[] } ::
  { cls := Value.none, data := Data.fields #[] } ::
  { cls := Value.type "tuple", data := Data.seq #[Value.str (Str.ofString "self") 303, Value.str (Str.ofString "token") 304] } ::
  { cls := Value.type "tuple", data := Data.seq #[] } ::
  (tmObj (nth (inCls (nth topBody 3)) 0) "Leaf.__init__") ::
  { cls := Value.type "code", data := Data.fields #[Value.str (Str.ofString "__init__") 300, Value.str (Str.ofString "Leaf.__init__") 301, Value.str (Str.ofString "/claim/cut.py") 302, Value.int 53 0, Value.int 2 0, Value.int 0 0, Value.int 0 0, Value.int 3 0, Value.ref 95, Value.bool true, Value.int 181 0, Value.ref 96, Value.none, Value.ref 97, Value.ref 98, Value.ref 99, Value.int 305 0, Value.int 53 0, Value.str (Str.ofString "/claim/cut.py") 306] } ::
  (fnObj (nth (inCls (nth topBody 3)) 0) "Leaf.__init__" "grammarmill.nodes" 194 100 Value.none) ::
  { cls := Value.type "tuple", data := Data.seq #[] } ::
  { cls := Value.none, data := Data.fields #[] } ::
  { cls := Value.type "tuple", data := Data.seq #[Value.str (Str.ofString "self") 311] } ::
  { cls := Value.type "tuple", data := Data.seq #[] } ::
  (tmObj (nth (inCls (nth topBody 3)) 1) "Leaf.is_leaf") ::
  { cls := Value.type "code", data := Data.fields #[Value.str (Str.ofString "is_leaf") 308, Value.str (Str.ofString "Leaf.is_leaf") 309, Value.str (Str.ofString "/claim/cut.py") 310, Value.int 59 0, Value.int 1 0, Value.int 0 0, Value.int 0 0, Value.int 3 0, Value.ref 102, Value.bool true, Value.int 181 0, Value.ref 103, Value.none, Value.ref 104, Value.ref 105, Value.ref 106, Value.int 312 0, Value.int 59 0, Value.str (Str.ofString "/claim/cut.py") 313] } ::
  (fnObj (nth (inCls (nth topBody 3)) 1) "Leaf.is_leaf" "grammarmill.nodes" 194 107 Value.none) ::
  { cls := Value.type "tuple", data := Data.seq #[] } ::
  { cls := Value.none, data := Data.fields #[] } ::
  { cls := Value.type "tuple", data := Data.seq #[Value.str (Str.ofString "self") 318] } ::
  { cls := Value.type "tuple", data := Data.seq #[] } ::
  (tmObj (nth (inCls (nth topBody 3)) 2) "Leaf.head") ::
  { cls := Value.type "code", data := Data.fields #[Value.str (Str.ofString "head") 315, Value.str (Str.ofString "Leaf.head") 316, Value.str (Str.ofString "/claim/cut.py") 317, Value.int 62 0, Value.int 1 0, Value.int 0 0, Value.int 0 0, Value.int 3 0, Value.ref 109, Value.bool true, Value.int 181 0, Value.ref 110, Value.none, Value.ref 111, Value.ref 112, Value.ref 113, Value.int 319 0, Value.int 62 0, Value.str (Str.ofString "/claim/cut.py") 320] } ::
  (fnObj (nth (inCls (nth topBody 3)) 2) "Leaf.head" "grammarmill.nodes" 194 114 Value.none) ::
  { cls := Value.type "tuple", data := Data.seq #[Value.str (Str.ofString "children") 322, Value.str (Str.ofString "name") 323, Value.str (Str.ofString "rule") 324, Value.str (Str.ofString "token") 325] } ::
  { cls := Value.type "dict", data := Data.dict #[{ hash := PyData.keyHash P (Str.ofString "__module__"), key := Value.str (Str.ofString "__module__") 295, val := Value.str (Str.ofString "grammarmill.nodes") 194 }, { hash := PyData.keyHash P (Str.ofString "__firstlineno__"), key := Value.str (Str.ofString "__firstlineno__") 299, val := Value.int 51 298 }, { hash := PyData.keyHash P (Str.ofString "__init__"), key := Value.str (Str.ofString "__init__") 307, val := Value.ref 101 }, { hash := PyData.keyHash P (Str.ofString "is_leaf"), key := Value.str (Str.ofString "is_leaf") 314, val := Value.ref 108 }, { hash := PyData.keyHash P (Str.ofString "head"), key := Value.str (Str.ofString "head") 321, val := Value.ref 115 }, { hash := PyData.keyHash P (Str.ofString "__static_attributes__"), key := Value.str (Str.ofString "__static_attributes__") 326, val := Value.ref 116 }, { hash := PyData.keyHash P (Str.ofString "__doc__"), key := Value.str (Str.ofString "__doc__") 327, val := Value.none }] 2 } ::
  { cls := Value.type "type", data := Data.cls { name := Str.ofString "Leaf", bases := [Value.ref 83], mro := [Value.ref 118, Value.ref 83, Value.type "object"], ns := 117, qualname := Str.ofString "Leaf" }, slots := #[some (Value.ref 88), none, some (Value.str (Str.ofString "Leaf") 288), some (Value.str (Str.ofString "Leaf") 296), some (Value.builtin "object.__new__"), some (Value.bool true)] } ::
  { cls := Value.type "super", data := Data.fields #[Value.ref 118, Value.ref 118, Value.ref 118] } ::
  { cls := Value.type "builtin_function_or_method", data := Data.fields #[Value.builtin "object.__init_subclass__", Value.ref 118] } :: t
noncomputable def hd.c3 (P : Params) (t : List Obj) : List Obj :=
  { cls := Value.type "tuple", data := Data.seq #[] } ::
  { cls := Value.none, data := Data.fields #[] } ::
  { cls := Value.type "tuple", data := Data.seq #[Value.str (Str.ofString "tree") 333, Value.str (Str.ofString "found") 334, Value.str (Str.ofString "line") 335, Value.str (Str.ofString "node") 336, Value.str (Str.ofString "child") 337] } ::
  { cls := Value.type "tuple", data := Data.seq #[] } ::
  (tmObj (nth topBody 4) "postorder") ::
  { cls := Value.type "code", data := Data.fields #[Value.str (Str.ofString "postorder") 330, Value.str (Str.ofString "postorder") 331, Value.str (Str.ofString "/claim/cut.py") 332, Value.int 66 0, Value.int 1 0, Value.int 0 0, Value.int 0 0, Value.int 3 0, Value.ref 121, Value.bool true, Value.int 181 0, Value.ref 122, Value.none, Value.ref 123, Value.ref 124, Value.ref 125, Value.int 338 0, Value.int 66 0, Value.str (Str.ofString "/claim/cut.py") 339] } ::
  (fnObj (nth topBody 4) "postorder" "grammarmill.nodes" 194 126 Value.none) ::
  { cls := Value.type "tuple", data := Data.seq #[] } ::
  { cls := Value.none, data := Data.fields #[] } ::
  (tmObj (nth topBody 5) "derivation") ::
  { cls := Value.type "code", data := Data.fields #[Value.str (Str.ofString "derivation") 341, Value.str (Str.ofString "derivation") 342, Value.str (Str.ofString "/claim/cut.py") 343, Value.int 75 0, Value.int 1 0, Value.int 0 0, Value.int 0 0, Value.int 3 0, Value.ref 128, Value.bool true, Value.int 181 0, Value.ref 129, Value.none, Value.none, Value.none, Value.ref 130, Value.int 344 0, Value.int 75 0, Value.str (Str.ofString "/claim/cut.py") 345] } ::
  (fnObj (nth topBody 5) "derivation" "grammarmill.nodes" 194 131 Value.none) ::
  { cls := Value.type "tuple", data := Data.seq #[] } ::
  { cls := Value.type "builtin_function_or_method", data := Data.fields #[Value.builtin "type.__prepare__", Value.type "type"] } ::
  { cls := Value.type "dict", data := Data.dict #[{ hash := PyData.keyHash P (Str.ofString "__module__"), key := Value.str (Str.ofString "__module__") 356, val := Value.str (Str.ofString "grammarmill.source") 347 }, { hash := PyData.keyHash P (Str.ofString "__qualname__"), key := Value.str (Str.ofString "__qualname__") 358, val := Value.str (Str.ofString "Token") 357 }, { hash := PyData.keyHash P (Str.ofString "__firstlineno__"), key := Value.str (Str.ofString "__firstlineno__") 360, val := Value.int 86 359 }, { hash := PyData.keyHash P (Str.ofString "__init__"), key := Value.str (Str.ofString "__init__") 371, val := Value.ref 147 }, { hash := PyData.keyHash P (Str.ofString "told"), key := Value.str (Str.ofString "told") 378, val := Value.ref 154 }, { hash := PyData.keyHash P (Str.ofString "is_end"), key := Value.str (Str.ofString "is_end") 385, val := Value.ref 161 }, { hash := PyData.keyHash P (Str.ofString "__static_attributes__"), key := Value.str (Str.ofString "__static_attributes__") 390, val := Value.ref 162 }] 7 } ::
  { cls := Value.type "tuple", data := Data.seq #[] } ::
  { cls := Value.none, data := Data.fields #[Value.int 88 0, Value.int 4 0, Value.ref 146, Value.int 94 0, Value.int 4 0, Value.ref 153, Value.int 97 0, Value.int 4 0, Value.ref 160] } ::
  { cls := Value.type "code", data := Data.fields #[Value.str (Str.ofString "Token") 351, Value.str (Str.ofString "Token") 352, Value.str (Str.ofString "/claim/cut.py") 353, Value.int 86 0, Value.int 0 0, Value.int 0 0, Value.int 0 0, Value.int 0 0, Value.ref 136, Value.bool false, Value.int 181 0, Value.ref 137, Value.none, Value.none, Value.none, Value.none, Value.int 354 0, Value.int 86 0, Value.str (Str.ofString "/claim/cut.py") 355] } ::
  { cls := Value.type "frame", slots := #[some (Value.ref 138), some (Value.ref 3), some (Value.ref 135), none, some (Value.str (Str.ofString "grammarmill.source") 347), none, some (Value.ref 0)] } ::
  { cls := Value.type "tuple", data := Data.seq #[Value.none] } ::
  { cls := Value.type "tuple", data := Data.seq #[] } ::
  { cls := Value.none, data := Data.fields #[] } ::
  { cls := Value.type "tuple", data := Data.seq #[Value.str (Str.ofString "self") 364, Value.str (Str.ofString "kind") 365, Value.str (Str.ofString "text") 366, Value.str (Str.ofString "at") 367, Value.str (Str.ofString "worth") 368] } ::
  { cls := Value.type "tuple", data := Data.seq #[] } ::
  (tmObj (nth (inCls (nth topBody 7)) 0) "Token.__init__") ::
  { cls := Value.type "code", data := Data.fields #[Value.str (Str.ofString "__init__") 361, Value.str (Str.ofString "Token.__init__") 362, Value.str (Str.ofString "/claim/cut.py") 363, Value.int 88 0, Value.int 5 0, Value.int 0 0, Value.int 0 0, Value.int 3 0, Value.ref 141, Value.bool true, Value.int 181 0, Value.ref 142, Value.none, Value.ref 143, Value.ref 144, Value.ref 145, Value.int 369 0, Value.int 88 0, Value.str (Str.ofString "/claim/cut.py") 370] } ::
  (fnObj (nth (inCls (nth topBody 7)) 0) "Token.__init__" "grammarmill.source" 347 146 (Value.ref 140)) ::
  { cls := Value.type "tuple", data := Data.seq #[] } ::
  { cls := Value.none, data := Data.fields #[] } ::
  { cls := Value.type "tuple", data := Data.seq #[Value.str (Str.ofString "self") 375] } ::
  { cls := Value.type "tuple", data := Data.seq #[] } ::
  (tmObj (nth (inCls (nth topBody 7)) 1) "Token.told") ::
  { cls := Value.type "code", data := Data.fields #[Value.str (Str.ofString "told") 372, Value.str (Str.ofString "Token.told") 373, Value.str (Str.ofString "/claim/cut.py") 374, Value.int 94 0, Value.int 1 0, Value.int 0 0, Value.int 0 0, Value.int 3 0, Value.ref 148, Value.bool true, Value.int 181 0, Value.ref 149, Value.none, Value.ref 150, Value.ref 151, Value.ref 152, Value.int 376 0, Value.int 94 0, Value.str (Str.ofString "/claim/cut.py") 377] } ::
  (fnObj (nth (inCls (nth topBody 7)) 1) "Token.told" "grammarmill.source" 347 153 Value.none) ::
  { cls := Value.type "tuple", data := Data.seq #[] } ::
  { cls := Value.none, data := Data.fields #[] } ::
  { cls := Value.type "tuple", data := Data.seq #[Value.str (Str.ofString "self") 382] } ::
  { cls := Value.type "tuple", data := Data.seq #[] } ::
  (tmObj (nth (inCls (nth topBody 7)) 2) "Token.is_end") ::
  { cls := Value.type "code", data := Data.fields #[Value.str (Str.ofString "is_end") 379, Value.str (Str.ofString "Token.is_end") 380, Value.str (Str.ofString "/claim/cut.py") 381, Value.int 97 0, Value.int 1 0, Value.int 0 0, Value.int 0 0, Value.int 3 0, Value.ref 155, Value.bool true, Value.int 181 0, Value.ref 156, Value.none, Value.ref 157, Value.ref 158, Value.ref 159, Value.int 383 0, Value.int 97 0, Value.str (Str.ofString "/claim/cut.py") 384] } ::
  (fnObj (nth (inCls (nth topBody 7)) 2) "Token.is_end" "grammarmill.source" 347 160 Value.none) ::
  { cls := Value.type "tuple", data := Data.seq #[Value.str (Str.ofString "at") 386, Value.str (Str.ofString "kind") 387, Value.str (Str.ofString "text") 388, Value.str (Str.ofString "worth") 389] } ::
  { cls := Value.type "dict", data := Data.dict #[{ hash := PyData.keyHash P (Str.ofString "__module__"), key := Value.str (Str.ofString "__module__") 356, val := Value.str (Str.ofString "grammarmill.source") 347 }, { hash := PyData.keyHash P (Str.ofString "__firstlineno__"), key := Value.str (Str.ofString "__firstlineno__") 360, val := Value.int 86 359 }, { hash := PyData.keyHash P (Str.ofString "__init__"), key := Value.str (Str.ofString "__init__") 371, val := Value.ref 147 }, { hash := PyData.keyHash P (Str.ofString "told"), key := Value.str (Str.ofString "told") 378, val := Value.ref 154 }, { hash := PyData.keyHash P (Str.ofString "is_end"), key := Value.str (Str.ofString "is_end") 385, val := Value.ref 161 }, { hash := PyData.keyHash P (Str.ofString "__static_attributes__"), key := Value.str (Str.ofString "__static_attributes__") 390, val := Value.ref 162 }, { hash := PyData.keyHash P (Str.ofString "__dict__"), key := Value.str (Str.ofString "__dict__") 392, val := Value.ref 165 }, { hash := PyData.keyHash P (Str.ofString "__weakref__"), key := Value.str (Str.ofString "__weakref__") 394, val := Value.ref 166 }, { hash := PyData.keyHash P (Str.ofString "__doc__"), key := Value.str (Str.ofString "__doc__") 395, val := Value.none }] 4 } ::
  { cls := Value.type "type", data := Data.cls { name := Str.ofString "Token", bases := [Value.type "object"], mro := [Value.ref 164, Value.type "object"], ns := 163, qualname := Str.ofString "Token" }, slots := #[none, none, some (Value.str (Str.ofString "Token") 349), some (Value.str (Str.ofString "Token") 357), some (Value.builtin "object.__new__"), some (Value.bool true)] } ::
  { cls := Value.type "getset_descriptor", data := Data.fields #[Value.str (Str.ofString "__dict__") 391, Value.ref 164, Value.builtin "function.__dict__", Value.builtin "function.__dict__#set"] } ::
  { cls := Value.type "getset_descriptor", data := Data.fields #[Value.str (Str.ofString "__weakref__") 393, Value.ref 164, Value.builtin "ExceptionGroup.__weakref__", Value.none] } ::
  { cls := Value.type "super", data := Data.fields #[Value.ref 164, Value.ref 164, Value.ref 164] } ::
  { cls := Value.type "builtin_function_or_method", data := Data.fields #[Value.builtin "object.__init_subclass__", Value.ref 164] } :: t
noncomputable def hd.c4 (P : Params) : List Obj :=
  { cls := Value.type "tuple", data := Data.seq #[] } ::
  { cls := Value.none, data := Data.fields #[] } ::
  { cls := Value.type "tuple", data := Data.seq #[Value.str (Str.ofString "pen") 403, Value.str (Str.ofString "many") 404, Value.str (Str.ofString "digit") 405, Value.str (Str.ofString "spot") 406, Value.str (Str.ofString "cell") 407, Value.str (Str.ofString "great") 408] } ::
  { cls := Value.type "tuple", data := Data.seq #[] } ::
  (tmObj (nth topBody 9) "_law_draw") ::
  { cls := Value.type "code", data := Data.fields #[Value.str (Str.ofString "_law_draw") 400, Value.str (Str.ofString "_law_draw") 401, Value.str (Str.ofString "/claim/cut.py") 402, Value.int 100 0, Value.int 2 0, Value.int 0 0, Value.int 0 0, Value.int 3 0, Value.ref 169, Value.bool true, Value.int 181 0, Value.ref 170, Value.none, Value.ref 171, Value.ref 172, Value.ref 173, Value.int 409 0, Value.int 100 0, Value.str (Str.ofString "/claim/cut.py") 410] } ::
  (fnObj (nth topBody 9) "_law_draw" "law_nn0354_01" 398 174 Value.none) ::
  { cls := Value.type "tuple", data := Data.seq #[] } ::
  { cls := Value.none, data := Data.fields #[] } ::
  { cls := Value.type "tuple", data := Data.seq #[Value.str (Str.ofString "pen") 415, Value.str (Str.ofString "kind") 416] } ::
  { cls := Value.type "tuple", data := Data.seq #[] } ::
  (tmObj (nth topBody 10) "_law_leaf") ::
  { cls := Value.type "code", data := Data.fields #[Value.str (Str.ofString "_law_leaf") 412, Value.str (Str.ofString "_law_leaf") 413, Value.str (Str.ofString "/claim/cut.py") 414, Value.int 115 0, Value.int 1 0, Value.int 0 0, Value.int 0 0, Value.int 3 0, Value.ref 176, Value.bool true, Value.int 181 0, Value.ref 177, Value.none, Value.ref 178, Value.ref 179, Value.ref 180, Value.int 417 0, Value.int 115 0, Value.str (Str.ofString "/claim/cut.py") 418] } ::
  (fnObj (nth topBody 10) "_law_leaf" "law_nn0354_01" 398 181 Value.none) ::
  { cls := Value.type "tuple", data := Data.seq #[] } ::
  { cls := Value.none, data := Data.fields #[] } ::
  (tmObj (nth topBody 11) "_law_node") ::
  { cls := Value.type "code", data := Data.fields #[Value.str (Str.ofString "_law_node") 420, Value.str (Str.ofString "_law_node") 421, Value.str (Str.ofString "/claim/cut.py") 422, Value.int 118 0, Value.int 2 0, Value.int 0 0, Value.int 0 0, Value.int 3 0, Value.ref 183, Value.bool true, Value.int 181 0, Value.ref 184, Value.none, Value.none, Value.none, Value.ref 185, Value.int 423 0, Value.int 118 0, Value.str (Str.ofString "/claim/cut.py") 424] } ::
  (fnObj (nth topBody 11) "_law_node" "law_nn0354_01" 398 186 Value.none) ::
  { cls := Value.type "tuple", data := Data.seq #[] } ::
  { cls := Value.none, data := Data.fields #[] } ::
  { cls := Value.type "tuple", data := Data.seq #[Value.str (Str.ofString "pen") 429, Value.str (Str.ofString "deep") 430] } ::
  { cls := Value.type "tuple", data := Data.seq #[] } ::
  (tmObj (nth topBody 12) "_law_plain") ::
  { cls := Value.type "code", data := Data.fields #[Value.str (Str.ofString "_law_plain") 426, Value.str (Str.ofString "_law_plain") 427, Value.str (Str.ofString "/claim/cut.py") 428, Value.int 121 0, Value.int 2 0, Value.int 0 0, Value.int 0 0, Value.int 3 0, Value.ref 188, Value.bool true, Value.int 181 0, Value.ref 189, Value.none, Value.ref 190, Value.ref 191, Value.ref 192, Value.int 431 0, Value.int 121 0, Value.str (Str.ofString "/claim/cut.py") 432] } ::
  (fnObj (nth topBody 12) "_law_plain" "law_nn0354_01" 398 193 Value.none) ::
  { cls := Value.type "tuple", data := Data.seq #[] } ::
  { cls := Value.none, data := Data.fields #[] } ::
  (tmObj (nth topBody 13) "_law_made") ::
  { cls := Value.type "code", data := Data.fields #[Value.str (Str.ofString "_law_made") 434, Value.str (Str.ofString "_law_made") 435, Value.str (Str.ofString "/claim/cut.py") 436, Value.int 123 0, Value.int 1 0, Value.int 0 0, Value.int 0 0, Value.int 3 0, Value.ref 195, Value.bool true, Value.int 181 0, Value.ref 196, Value.none, Value.none, Value.none, Value.ref 197, Value.int 437 0, Value.int 123 0, Value.str (Str.ofString "/claim/cut.py") 438] } ::
  (fnObj (nth topBody 13) "_law_made" "law_nn0354_01" 398 198 Value.none) ::
  { cls := Value.type "tuple", data := Data.seq #[] } ::
  { cls := Value.none, data := Data.fields #[] } ::
  (tmObj (nth topBody 14) "_law_told") ::
  { cls := Value.type "code", data := Data.fields #[Value.str (Str.ofString "_law_told") 440, Value.str (Str.ofString "_law_told") 441, Value.str (Str.ofString "/claim/cut.py") 442, Value.int 130 0, Value.int 1 0, Value.int 0 0, Value.int 0 0, Value.int 3 0, Value.ref 200, Value.bool true, Value.int 181 0, Value.ref 201, Value.none, Value.none, Value.none, Value.ref 202, Value.int 443 0, Value.int 130 0, Value.str (Str.ofString "/claim/cut.py") 444] } ::
  (fnObj (nth topBody 14) "_law_told" "law_nn0354_01" 398 203 Value.none) ::
  { cls := Value.type "tuple", data := Data.seq #[] } ::
  { cls := Value.none, data := Data.fields #[] } ::
  { cls := Value.type "tuple", data := Data.seq #[Value.str (Str.ofString "plain") 449, Value.str (Str.ofString "found") 450, Value.str (Str.ofString "one") 451] } ::
  { cls := Value.type "tuple", data := Data.seq #[] } ::
  (tmObj (nth topBody 15) "_law_leaves") ::
  { cls := Value.type "code", data := Data.fields #[Value.str (Str.ofString "_law_leaves") 446, Value.str (Str.ofString "_law_leaves") 447, Value.str (Str.ofString "/claim/cut.py") 448, Value.int 132 0, Value.int 1 0, Value.int 0 0, Value.int 0 0, Value.int 3 0, Value.ref 205, Value.bool true, Value.int 181 0, Value.ref 206, Value.none, Value.ref 207, Value.ref 208, Value.ref 209, Value.int 452 0, Value.int 132 0, Value.str (Str.ofString "/claim/cut.py") 453] } ::
  (fnObj (nth topBody 15) "_law_leaves" "law_nn0354_01" 398 210 Value.none) ::
  { cls := Value.type "tuple", data := Data.seq #[] } ::
  { cls := Value.none, data := Data.fields #[] } ::
  { cls := Value.type "tuple", data := Data.seq #[Value.str (Str.ofString "plain") 458, Value.str (Str.ofString "found") 459, Value.str (Str.ofString "one") 460] } ::
  { cls := Value.type "tuple", data := Data.seq #[] } ::
  (tmObj (nth topBody 16) "_law_rules") ::
  { cls := Value.type "code", data := Data.fields #[Value.str (Str.ofString "_law_rules") 455, Value.str (Str.ofString "_law_rules") 456, Value.str (Str.ofString "/claim/cut.py") 457, Value.int 139 0, Value.int 1 0, Value.int 0 0, Value.int 0 0, Value.int 3 0, Value.ref 212, Value.bool true, Value.int 181 0, Value.ref 213, Value.none, Value.ref 214, Value.ref 215, Value.ref 216, Value.int 461 0, Value.int 139 0, Value.str (Str.ofString "/claim/cut.py") 462] } ::
  (fnObj (nth topBody 16) "_law_rules" "law_nn0354_01" 398 217 Value.none) ::
  { cls := Value.type "tuple", data := Data.seq #[] } ::
  { cls := Value.none, data := Data.fields #[] } ::
  (tmObj (nth topBody 17) "_law_height") ::
  { cls := Value.type "code", data := Data.fields #[Value.str (Str.ofString "_law_height") 464, Value.str (Str.ofString "_law_height") 465, Value.str (Str.ofString "/claim/cut.py") 466, Value.int 146 0, Value.int 1 0, Value.int 0 0, Value.int 0 0, Value.int 3 0, Value.ref 219, Value.bool true, Value.int 181 0, Value.ref 220, Value.none, Value.none, Value.none, Value.ref 221, Value.int 467 0, Value.int 146 0, Value.str (Str.ofString "/claim/cut.py") 468] } ::
  (fnObj (nth topBody 17) "_law_height" "law_nn0354_01" 398 222 Value.none) ::
  { cls := Value.type "tuple", data := Data.seq #[] } ::
  { cls := Value.none, data := Data.fields #[] } ::
  { cls := Value.type "tuple", data := Data.seq #[Value.str (Str.ofString "plain") 473, Value.str (Str.ofString "deep") 474, Value.str (Str.ofString "rows") 475, Value.str (Str.ofString "one") 476] } ::
  { cls := Value.type "tuple", data := Data.seq #[] } ::
  (tmObj (nth topBody 18) "_law_page") ::
  { cls := Value.type "code", data := Data.fields #[Value.str (Str.ofString "_law_page") 470, Value.str (Str.ofString "_law_page") 471, Value.str (Str.ofString "/claim/cut.py") 472, Value.int 148 0, Value.int 2 0, Value.int 0 0, Value.int 0 0, Value.int 3 0, Value.ref 224, Value.bool true, Value.int 181 0, Value.ref 225, Value.none, Value.ref 226, Value.ref 227, Value.ref 228, Value.int 477 0, Value.int 148 0, Value.str (Str.ofString "/claim/cut.py") 478] } ::
  (fnObj (nth topBody 18) "_law_page" "law_nn0354_01" 398 229 Value.none) ::
  { cls := Value.type "tuple", data := Data.seq #[] } ::
  { cls := Value.none, data := Data.fields #[] } ::
  (tmObj (nth topBody 19) "_law_forms") ::
  { cls := Value.type "code", data := Data.fields #[Value.str (Str.ofString "_law_forms") 480, Value.str (Str.ofString "_law_forms") 481, Value.str (Str.ofString "/claim/cut.py") 482, Value.int 155 0, Value.int 3 0, Value.int 0 0, Value.int 0 0, Value.int 3 0, Value.ref 231, Value.bool true, Value.int 181 0, Value.ref 232, Value.none, Value.none, Value.none, Value.ref 233, Value.int 483 0, Value.int 155 0, Value.str (Str.ofString "/claim/cut.py") 484] } ::
  (fnObj (nth topBody 19) "_law_forms" "law_nn0354_01" 398 234 Value.none) ::
  { cls := Value.type "tuple", data := Data.seq #[] } ::
  { cls := Value.none, data := Data.fields #[] } ::
  { cls := Value.type "tuple", data := Data.seq #[Value.str (Str.ofString "plain") 489, Value.str (Str.ofString "found") 490, Value.str (Str.ofString "one") 491] } ::
  { cls := Value.type "tuple", data := Data.seq #[] } ::
  (tmObj (nth topBody 20) "_law_opened") ::
  { cls := Value.type "code", data := Data.fields #[Value.str (Str.ofString "_law_opened") 486, Value.str (Str.ofString "_law_opened") 487, Value.str (Str.ofString "/claim/cut.py") 488, Value.int 164 0, Value.int 1 0, Value.int 0 0, Value.int 0 0, Value.int 3 0, Value.ref 236, Value.bool true, Value.int 181 0, Value.ref 237, Value.none, Value.ref 238, Value.ref 239, Value.ref 240, Value.int 492 0, Value.int 164 0, Value.str (Str.ofString "/claim/cut.py") 493] } ::
  (fnObj (nth topBody 20) "_law_opened" "law_nn0354_01" 398 241 Value.none) ::
  { cls := Value.type "tuple", data := Data.seq #[] } ::
  { cls := Value.none, data := Data.fields #[] } ::
  (tmObj (nth topBody 21) "_law_is_ordered") ::
  { cls := Value.type "code", data := Data.fields #[Value.str (Str.ofString "_law_is_ordered") 495, Value.str (Str.ofString "_law_is_ordered") 496, Value.str (Str.ofString "/claim/cut.py") 497, Value.int 171 0, Value.int 1 0, Value.int 0 0, Value.int 0 0, Value.int 3 0, Value.ref 243, Value.bool true, Value.int 181 0, Value.ref 244, Value.none, Value.none, Value.none, Value.ref 245, Value.int 498 0, Value.int 171 0, Value.str (Str.ofString "/claim/cut.py") 499] } ::
  (fnObj (nth topBody 21) "_law_is_ordered" "law_nn0354_01" 398 246 Value.none) ::
  { cls := Value.type "tuple", data := Data.seq #[] } ::
  { cls := Value.none, data := Data.fields #[] } ::
  (tmObj (nth topBody 22) "law") ::
  { cls := Value.type "code", data := Data.fields #[Value.str (Str.ofString "law") 501, Value.str (Str.ofString "law") 502, Value.str (Str.ofString "/claim/cut.py") 503, Value.int 182 0, Value.int 1 0, Value.int 0 0, Value.int 0 0, Value.int 3 0, Value.ref 248, Value.bool true, Value.int 181 0, Value.ref 249, Value.none, Value.none, Value.none, Value.ref 250, Value.int 504 0, Value.int 182 0, Value.str (Str.ofString "/claim/cut.py") 505] } ::
  (fnObj (nth topBody 22) "law" "law_nn0354_01" 398 251 Value.none) :: []
noncomputable def hd.tree (P : Params) : Obj := { cls := Value.type "type", data := Data.cls { name := Str.ofString "Tree", bases := [Value.type "object"], mro := [Value.ref 83, Value.type "object"], ns := 82, qualname := Str.ofString "Tree", subclasses := [Value.ref 118] }, slots := #[none, none, some (Value.str (Str.ofString "Tree") 196), some (Value.str (Str.ofString "Tree") 204), some (Value.builtin "object.__new__"), some (Value.bool true)] }
noncomputable def hd.l1 (P : Params) : List Obj := hd.c1 P { cls := Value.type "dict", data := Data.dict #[{ hash := PyData.keyHash P (Str.ofString "__name__"), key := Value.str (Str.ofString "__name__") 165, val := Value.str (Str.ofString "grammarmill.nodes") 194 }, { hash := PyData.keyHash P (Str.ofString "__doc__"), key := Value.str (Str.ofString "__doc__") 166, val := Value.none }, { hash := PyData.keyHash P (Str.ofString "__package__"), key := Value.str (Str.ofString "__package__") 167, val := Value.none }, { hash := PyData.keyHash P (Str.ofString "__loader__"), key := Value.str (Str.ofString "__loader__") 168, val := Value.builtin "__main__.__loader__#opaque" }, { hash := PyData.keyHash P (Str.ofString "__spec__"), key := Value.str (Str.ofString "__spec__") 169, val := Value.none }, { hash := PyData.keyHash P (Str.ofString "__annotations__"), key := Value.str (Str.ofString "__annotations__") 170, val := Value.ref 6 }, { hash := PyData.keyHash P (Str.ofString "__builtins__"), key := Value.str (Str.ofString "__builtins__") 171, val := Value.ref 4 }, { hash := PyData.keyHash P (Str.ofString "__file__"), key := Value.str (Str.ofString "__file__") 173, val := Value.str (Str.ofString "/claim/cut.py") 172 }, { hash := PyData.keyHash P (Str.ofString "__cached__"), key := Value.str (Str.ofString "__cached__") 174, val := Value.none }, { hash := PyData.keyHash P (Str.ofString "_wall"), key := Value.str (Str.ofString "_wall") 193, val := Value.ref 21 }, { hash := PyData.keyHash P (Str.ofString "Tree"), key := Value.str (Str.ofString "Tree") 287, val := Value.ref 83 }] 11 } { cls := Value.none, data := Data.fields #[Value.int 1 0, Value.int 0 0, Value.ref 20, Value.int 5 0, Value.int 0 0, Value.ref 27] } { cls := Value.type "type", data := Data.cls { name := Str.ofString "Tree", bases := [Value.type "object"], mro := [Value.ref 83, Value.type "object"], ns := 82, qualname := Str.ofString "Tree" }, slots := #[none, none, some (Value.str (Str.ofString "Tree") 196), some (Value.str (Str.ofString "Tree") 204), some (Value.builtin "object.__new__"), some (Value.bool true)] } []
noncomputable def hd.l2 (P : Params) : List Obj := hd.c1 P { cls := Value.type "dict", data := Data.dict #[{ hash := PyData.keyHash P (Str.ofString "__name__"), key := Value.str (Str.ofString "__name__") 165, val := Value.str (Str.ofString "grammarmill.nodes") 194 }, { hash := PyData.keyHash P (Str.ofString "__doc__"), key := Value.str (Str.ofString "__doc__") 166, val := Value.none }, { hash := PyData.keyHash P (Str.ofString "__package__"), key := Value.str (Str.ofString "__package__") 167, val := Value.none }, { hash := PyData.keyHash P (Str.ofString "__loader__"), key := Value.str (Str.ofString "__loader__") 168, val := Value.builtin "__main__.__loader__#opaque" }, { hash := PyData.keyHash P (Str.ofString "__spec__"), key := Value.str (Str.ofString "__spec__") 169, val := Value.none }, { hash := PyData.keyHash P (Str.ofString "__annotations__"), key := Value.str (Str.ofString "__annotations__") 170, val := Value.ref 6 }, { hash := PyData.keyHash P (Str.ofString "__builtins__"), key := Value.str (Str.ofString "__builtins__") 171, val := Value.ref 4 }, { hash := PyData.keyHash P (Str.ofString "__file__"), key := Value.str (Str.ofString "__file__") 173, val := Value.str (Str.ofString "/claim/cut.py") 172 }, { hash := PyData.keyHash P (Str.ofString "__cached__"), key := Value.str (Str.ofString "__cached__") 174, val := Value.none }, { hash := PyData.keyHash P (Str.ofString "_wall"), key := Value.str (Str.ofString "_wall") 193, val := Value.ref 21 }, { hash := PyData.keyHash P (Str.ofString "Tree"), key := Value.str (Str.ofString "Tree") 287, val := Value.ref 83 }, { hash := PyData.keyHash P (Str.ofString "Leaf"), key := Value.str (Str.ofString "Leaf") 329, val := Value.ref 118 }] 12 } { cls := Value.none, data := Data.fields #[Value.int 1 0, Value.int 0 0, Value.ref 20, Value.int 5 0, Value.int 0 0, Value.ref 27, Value.int 51 0, Value.int 0 0, Value.ref 93] } (hd.tree P) (hd.c2 P [])
noncomputable def hd.l3 (P : Params) : List Obj := hd.c1 P { cls := Value.type "dict", data := Data.dict #[{ hash := PyData.keyHash P (Str.ofString "__name__"), key := Value.str (Str.ofString "__name__") 165, val := Value.str (Str.ofString "law_nn0354_01") 398 }, { hash := PyData.keyHash P (Str.ofString "__doc__"), key := Value.str (Str.ofString "__doc__") 166, val := Value.none }, { hash := PyData.keyHash P (Str.ofString "__package__"), key := Value.str (Str.ofString "__package__") 167, val := Value.none }, { hash := PyData.keyHash P (Str.ofString "__loader__"), key := Value.str (Str.ofString "__loader__") 168, val := Value.builtin "__main__.__loader__#opaque" }, { hash := PyData.keyHash P (Str.ofString "__spec__"), key := Value.str (Str.ofString "__spec__") 169, val := Value.none }, { hash := PyData.keyHash P (Str.ofString "__annotations__"), key := Value.str (Str.ofString "__annotations__") 170, val := Value.ref 6 }, { hash := PyData.keyHash P (Str.ofString "__builtins__"), key := Value.str (Str.ofString "__builtins__") 171, val := Value.ref 4 }, { hash := PyData.keyHash P (Str.ofString "__file__"), key := Value.str (Str.ofString "__file__") 173, val := Value.str (Str.ofString "/claim/cut.py") 172 }, { hash := PyData.keyHash P (Str.ofString "__cached__"), key := Value.str (Str.ofString "__cached__") 174, val := Value.none }, { hash := PyData.keyHash P (Str.ofString "_wall"), key := Value.str (Str.ofString "_wall") 193, val := Value.ref 21 }, { hash := PyData.keyHash P (Str.ofString "Tree"), key := Value.str (Str.ofString "Tree") 287, val := Value.ref 83 }, { hash := PyData.keyHash P (Str.ofString "Leaf"), key := Value.str (Str.ofString "Leaf") 329, val := Value.ref 118 }, { hash := PyData.keyHash P (Str.ofString "postorder"), key := Value.str (Str.ofString "postorder") 340, val := Value.ref 127 }, { hash := PyData.keyHash P (Str.ofString "derivation"), key := Value.str (Str.ofString "derivation") 346, val := Value.ref 132 }, { hash := PyData.keyHash P (Str.ofString "Token"), key := Value.str (Str.ofString "Token") 397, val := Value.ref 164 }] 15 } { cls := Value.none, data := Data.fields #[Value.int 1 0, Value.int 0 0, Value.ref 20, Value.int 5 0, Value.int 0 0, Value.ref 27, Value.int 51 0, Value.int 0 0, Value.ref 93, Value.int 66 0, Value.int 0 0, Value.ref 126, Value.int 75 0, Value.int 0 0, Value.ref 131, Value.int 86 0, Value.int 0 0, Value.ref 138] } (hd.tree P) (hd.c2 P (hd.c3 P []))
noncomputable def hd.objs (P : Params) : List Obj := hd.c1 P { cls := Value.type "dict", data := Data.dict #[{ hash := PyData.keyHash P (Str.ofString "__name__"), key := Value.str (Str.ofString "__name__") 165, val := Value.str (Str.ofString "law_nn0354_01") 398 }, { hash := PyData.keyHash P (Str.ofString "__doc__"), key := Value.str (Str.ofString "__doc__") 166, val := Value.none }, { hash := PyData.keyHash P (Str.ofString "__package__"), key := Value.str (Str.ofString "__package__") 167, val := Value.none }, { hash := PyData.keyHash P (Str.ofString "__loader__"), key := Value.str (Str.ofString "__loader__") 168, val := Value.builtin "__main__.__loader__#opaque" }, { hash := PyData.keyHash P (Str.ofString "__spec__"), key := Value.str (Str.ofString "__spec__") 169, val := Value.none }, { hash := PyData.keyHash P (Str.ofString "__annotations__"), key := Value.str (Str.ofString "__annotations__") 170, val := Value.ref 6 }, { hash := PyData.keyHash P (Str.ofString "__builtins__"), key := Value.str (Str.ofString "__builtins__") 171, val := Value.ref 4 }, { hash := PyData.keyHash P (Str.ofString "__file__"), key := Value.str (Str.ofString "__file__") 173, val := Value.str (Str.ofString "/claim/cut.py") 172 }, { hash := PyData.keyHash P (Str.ofString "__cached__"), key := Value.str (Str.ofString "__cached__") 174, val := Value.none }, { hash := PyData.keyHash P (Str.ofString "_wall"), key := Value.str (Str.ofString "_wall") 193, val := Value.ref 21 }, { hash := PyData.keyHash P (Str.ofString "Tree"), key := Value.str (Str.ofString "Tree") 287, val := Value.ref 83 }, { hash := PyData.keyHash P (Str.ofString "Leaf"), key := Value.str (Str.ofString "Leaf") 329, val := Value.ref 118 }, { hash := PyData.keyHash P (Str.ofString "postorder"), key := Value.str (Str.ofString "postorder") 340, val := Value.ref 127 }, { hash := PyData.keyHash P (Str.ofString "derivation"), key := Value.str (Str.ofString "derivation") 346, val := Value.ref 132 }, { hash := PyData.keyHash P (Str.ofString "Token"), key := Value.str (Str.ofString "Token") 397, val := Value.ref 164 }, { hash := PyData.keyHash P (Str.ofString "_law_draw"), key := Value.str (Str.ofString "_law_draw") 411, val := Value.ref 175 }, { hash := PyData.keyHash P (Str.ofString "_law_leaf"), key := Value.str (Str.ofString "_law_leaf") 419, val := Value.ref 182 }, { hash := PyData.keyHash P (Str.ofString "_law_node"), key := Value.str (Str.ofString "_law_node") 425, val := Value.ref 187 }, { hash := PyData.keyHash P (Str.ofString "_law_plain"), key := Value.str (Str.ofString "_law_plain") 433, val := Value.ref 194 }, { hash := PyData.keyHash P (Str.ofString "_law_made"), key := Value.str (Str.ofString "_law_made") 439, val := Value.ref 199 }, { hash := PyData.keyHash P (Str.ofString "_law_told"), key := Value.str (Str.ofString "_law_told") 445, val := Value.ref 204 }, { hash := PyData.keyHash P (Str.ofString "_law_leaves"), key := Value.str (Str.ofString "_law_leaves") 454, val := Value.ref 211 }, { hash := PyData.keyHash P (Str.ofString "_law_rules"), key := Value.str (Str.ofString "_law_rules") 463, val := Value.ref 218 }, { hash := PyData.keyHash P (Str.ofString "_law_height"), key := Value.str (Str.ofString "_law_height") 469, val := Value.ref 223 }, { hash := PyData.keyHash P (Str.ofString "_law_page"), key := Value.str (Str.ofString "_law_page") 479, val := Value.ref 230 }, { hash := PyData.keyHash P (Str.ofString "_law_forms"), key := Value.str (Str.ofString "_law_forms") 485, val := Value.ref 235 }, { hash := PyData.keyHash P (Str.ofString "_law_opened"), key := Value.str (Str.ofString "_law_opened") 494, val := Value.ref 242 }, { hash := PyData.keyHash P (Str.ofString "_law_is_ordered"), key := Value.str (Str.ofString "_law_is_ordered") 500, val := Value.ref 247 }, { hash := PyData.keyHash P (Str.ofString "law"), key := Value.str (Str.ofString "law") 506, val := Value.ref 252 }] 29 } { cls := Value.none, data := Data.fields #[Value.int 1 0, Value.int 0 0, Value.ref 20, Value.int 5 0, Value.int 0 0, Value.ref 27, Value.int 51 0, Value.int 0 0, Value.ref 93, Value.int 66 0, Value.int 0 0, Value.ref 126, Value.int 75 0, Value.int 0 0, Value.ref 131, Value.int 86 0, Value.int 0 0, Value.ref 138, Value.int 100 0, Value.int 0 0, Value.ref 174, Value.int 115 0, Value.int 0 0, Value.ref 181, Value.int 118 0, Value.int 0 0, Value.ref 186, Value.int 121 0, Value.int 0 0, Value.ref 193, Value.int 123 0, Value.int 0 0, Value.ref 198, Value.int 130 0, Value.int 0 0, Value.ref 203, Value.int 132 0, Value.int 0 0, Value.ref 210, Value.int 139 0, Value.int 0 0, Value.ref 217, Value.int 146 0, Value.int 0 0, Value.ref 222, Value.int 148 0, Value.int 0 0, Value.ref 229, Value.int 155 0, Value.int 0 0, Value.ref 234, Value.int 164 0, Value.int 0 0, Value.ref 241, Value.int 171 0, Value.int 0 0, Value.ref 246, Value.int 182 0, Value.int 0 0, Value.ref 251] } (hd.tree P) (hd.c2 P (hd.c3 P (hd.c4 P)))
noncomputable abbrev stA (w : World) (os : OsState) : Shared := ⟨{ objs := ⟨hd.pre w.params⟩, life := {} }, ⟨[]⟩, {}, 187, os⟩
noncomputable abbrev st1 (w : World) (os : OsState) : Shared := ⟨{ objs := ⟨hd.l1 w.params⟩, life := {} }, ⟨[]⟩, {}, 288, os⟩
noncomputable abbrev st2 (w : World) (os : OsState) : Shared := ⟨{ objs := ⟨hd.l2 w.params⟩, life := {} }, ⟨[]⟩, {}, 330, os⟩
noncomputable abbrev st3 (w : World) (os : OsState) : Shared := ⟨{ objs := ⟨hd.l3 w.params⟩, life := {} }, ⟨[]⟩, {}, 400, os⟩
noncomputable def hd.last (P : Params) : Heap := { objs := ⟨hd.objs P⟩, life := {} }
noncomputable abbrev hd.fin (w : World) (os : OsState) : Shared := ⟨hd.last w.params, ⟨[]⟩, {}, 507, os⟩
def pos0 : Pos := { line := 0, col := 0, endLine := 0, endCol := 0 }
noncomputable def env0 : Env := { scope := RW.prog.main.scope, locals := mainNs, globals := mainNs, cells := [], code := Value.ref 13, frame := some 14 }
noncomputable def bB : List Stmt := behindTheImports RW.prog
noncomputable def cE : Code := Code.body bB env0
noncomputable def b1 : List Stmt := [nth topBody 0, nth topBody 1, nth topBody 2]
noncomputable def b2 : List Stmt := [nth topBody 3]
noncomputable def b3 : List Stmt := [nth topBody 4, nth topBody 5, nth topBody 6, nth topBody 7, nth topBody 8]
noncomputable def b4 : List Stmt := [nth topBody 9, nth topBody 10, nth topBody 11, nth topBody 12, nth topBody 13, nth topBody 14, nth topBody 15, nth topBody 16, nth topBody 17, nth topBody 18, nth topBody 19, nth topBody 20, nth topBody 21, nth topBody 22]
theorem bB_eq : bB = b1 ++ (b2 ++ (b3 ++ (b4 ++ []))) := by kernel_rfl
theorem seg_tw : segRun treeTable = PySem.W.Fast.tw14374325043358763698 PySem.W.Fast.tw14364793385576792824 := by rw [PySem.W.Fast.te14374325043358763698, PySem.W.Fast.te14364793385576792824]
theorem op_pre (w : World) (os : OsState) : topGo treeTable RW.prog w 11 (some (Value.ref 6)) 12 ⟨boot_heap w.params, Array.mk [], boot_drawn, boot_toks, os⟩ (topStub RW.prog) = some (stA w os, ⟨denote treeTable cE, cE, pos0, [topFrame pos0]⟩) := by kernel_rfl
theorem op_block (w : World) (os : OsState) : segRun treeTable RW.prog w 11 (some (Value.ref 6)) 1 1 (stA w os) (blockOf bB env0 cE pos0 [topFrame pos0]) = some (Flow.next, stA w os, cE, pos0) := by kernel_rfl
theorem op_k1' (w : World) (os : OsState) : PySem.W.Fast.tw14374325043358763698 PySem.W.Fast.tw14364793385576792824 RW.prog w 11 (some (Value.ref 6)) 1 488 (stA w os) (piecesOf b1 env0 cE pos0 [topFrame pos0]) = some (Flow.next, st1 w os, cE, { line := 5, col := 0, endLine := 50, endCol := 30 }) := by kernel_rfl
theorem op_k1 (w : World) (os : OsState) : segRun treeTable RW.prog w 11 (some (Value.ref 6)) 1 488 (stA w os) (piecesOf b1 env0 cE pos0 [topFrame pos0]) = some (Flow.next, st1 w os, cE, { line := 5, col := 0, endLine := 50, endCol := 30 }) := by
  rw [seg_tw]
  exact op_k1' w os
theorem op_k2' (w : World) (os : OsState) : PySem.W.Fast.tw14374325043358763698 PySem.W.Fast.tw14364793385576792824 RW.prog w 11 (some (Value.ref 6)) 1 311 (st1 w os) (piecesOf b2 env0 cE { line := 5, col := 0, endLine := 50, endCol := 30 } [topFrame pos0]) = some (Flow.next, st2 w os, cE, { line := 51, col := 0, endLine := 65, endCol := 54 }) := by kernel_rfl
theorem op_k2 (w : World) (os : OsState) : segRun treeTable RW.prog w 11 (some (Value.ref 6)) 1 311 (st1 w os) (piecesOf b2 env0 cE { line := 5, col := 0, endLine := 50, endCol := 30 } [topFrame pos0]) = some (Flow.next, st2 w os, cE, { line := 51, col := 0, endLine := 65, endCol := 54 }) := by
  rw [seg_tw]
  exact op_k2' w os
theorem op_k3' (w : World) (os : OsState) : PySem.W.Fast.tw14374325043358763698 PySem.W.Fast.tw14364793385576792824 RW.prog w 11 (some (Value.ref 6)) 1 369 (st2 w os) (piecesOf b3 env0 cE { line := 51, col := 0, endLine := 65, endCol := 54 } [topFrame pos0]) = some (Flow.next, st3 w os, cE, { line := 99, col := 0, endLine := 99, endCol := 8 }) := by kernel_rfl
theorem op_k3 (w : World) (os : OsState) : segRun treeTable RW.prog w 11 (some (Value.ref 6)) 1 369 (st2 w os) (piecesOf b3 env0 cE { line := 51, col := 0, endLine := 65, endCol := 54 } [topFrame pos0]) = some (Flow.next, st3 w os, cE, { line := 99, col := 0, endLine := 99, endCol := 8 }) := by
  rw [seg_tw]
  exact op_k3' w os
theorem op_k4' (w : World) (os : OsState) : PySem.W.Fast.tw14374325043358763698 PySem.W.Fast.tw14364793385576792824 RW.prog w 11 (some (Value.ref 6)) 1 415 (st3 w os) (piecesOf b4 env0 cE { line := 99, col := 0, endLine := 99, endCol := 8 } [topFrame pos0]) = some (Flow.next, hd.fin w os, cE, { line := 182, col := 0, endLine := 197, endCol := 103 }) := by kernel_rfl
theorem op_k4 (w : World) (os : OsState) : segRun treeTable RW.prog w 11 (some (Value.ref 6)) 1 415 (st3 w os) (piecesOf b4 env0 cE { line := 99, col := 0, endLine := 99, endCol := 8 } [topFrame pos0]) = some (Flow.next, hd.fin w os, cE, { line := 182, col := 0, endLine := 197, endCol := 103 }) := by
  rw [seg_tw]
  exact op_k4' w os
theorem op_fin (w : World) (os : OsState) : topRun treeTable RW.prog w 11 (some (Value.ref 6)) 2 (hd.fin w os) ⟨doneF .next, cE, { line := 182, col := 0, endLine := 197, endCol := 103 }, [topFrame pos0]⟩ = some (hd.fin w os) := by kernel_rfl
theorem op_run (w : World) (os : OsState) : topRun treeTable RW.prog w 11 (some (Value.ref 6)) (12 + (1 + (488 + (311 + (369 + (415 + 2)))))) ⟨boot_heap w.params, Array.mk [], boot_drawn, boot_toks, os⟩ (topStub RW.prog) = some (hd.fin w os) := by
  refine go_top (op_pre w os) (piece_block (op_block w os) ?_)
  rw [bB_eq]
  exact piece_app (op_k1 w os) (piece_app (op_k2 w os) (piece_app (op_k3 w os) (piece_app (op_k4 w os) (piece_nil (op_fin w os)))))
noncomputable abbrev Xt0 (s : Shared) : Bool := xlAt Mine.hd.view_39 [] s && recOk (RowW.records RW) s
theorem op_size (w : World) : ((boot_heap w.params).isNs mainGlobals && (Array.mk [] : Array GenState).size == 0, (boot_heap w.params).objs.size, (boot_heap w.params).nsMap mainGlobals "__annotations__") = (true, 11, some (Value.ref 6)) := by kernel_rfl
theorem look_kept (w : World) (os : OsState) : (staticsOk (importedModules RW.prog.main.body) (boot_heap w.params) (hd.last w.params) && namesBound RW.prog (hd.last w.params) && gensDone (hd.fin w os) && laidKept (boot_heap w.params) (hd.last w.params)) = true := by kernel_rfl
theorem look_seen' (w : World) (os : OsState) : PySem.W.Fast.tw4187177175401517315 Mine.hd.view_39 [] (importedModules RW.prog.main.body) Xt0 true (hd.fin w os) = openGood Mine.hd.view_39 [] := by kernel_rfl
theorem look_seen (w : World) (os : OsState) : openSeen Mine.hd.view_39 [] (importedModules RW.prog.main.body) Xt0 true (hd.fin w os) = openGood Mine.hd.view_39 [] := by
  rw [PySem.W.Fast.te4187177175401517315]
  exact look_seen' w os
theorem look_obs (w : World) (os : OsState) : hk.obs (hd.fin w os) = hk.val w := by kernel_rfl
theorem op_open : opening RW.prog = plainProg RW.prog.main.scope.names := by kernel_rfl
theorem op_left : LeftO RW.prog Mine.hd.view_39 [] Xt0 (Hook.obs hk) (Hook.val hk) 3258 :=
  LeftO.of_pieces (boot_open op_open (by decide) (fun _ => rfl)) op_size op_run (by decide) fun w => funext fun os => by
    rw [look_kept w os, look_seen w os, look_obs w os]
theorem law_said' : PySem.W.Fast.tw9446332074065402090 PySem.Challenge.rw_nn0354_01 = true := by
  unfold PySem.W.Fast.tw9446332074065402090
  repeat' (with_reducible refine look_both ?_ ?_)
  all_goals (as_aux_lemma => kernel_rfl)
theorem law_said : OpenLaw.wellSaid PySem.Challenge.rw_nn0354_01 = true := by
  rw [PySem.W.Fast.te9446332074065402090]
  exact law_said'
end Mine
theorem Mine.cx_caller (env : Env) : Mine.Cx (callerA.deeper env) 60 400 := ⟨rfl, by show callerA.depth + 1 + 60 < recursionLimit; decide +kernel, by show callerA.units + 3 + 400 < cLine; decide +kernel⟩
set_option maxRecDepth 100000 in
set_option maxHeartbeats 8000000 in
theorem PySem.Challenge.cw_nn0354_01_holds : PySem.Challenge.rw_nn0354_01.Holds := by
  w_on
  refine holds_law Mine.law_said fun said => ?_
  refine holds_open (q := Mine.hd.view_39) (loose := []) (Xt := fun s => xlAt Mine.hd.view_39 [] s && recOk (RowW.records Mine.RW) s) (XP := XL Mine.hd.view_39 []) (Yf := Hook.obs Mine.hk) (Ya := Hook.val Mine.hk) (YP := Hook.says Mine.hk) (N := 3258) Mine.op_left (Hook.of Mine.hk) (Hook.keeps Mine.hk) (fun s e => xl_of s (Bool.and_eq_true_iff.mp e).1) XL.keeps (by rfl) (by rfl) (by rfl) (fun s e => recFacts_of (Bool.and_eq_true_iff.mp e).2) (by rfl) said (by decide +kernel) ⟨rfl, rfl, rfl, rfl, rfl, by decide +kernel⟩ ?hw ?hc
  case hw => w_witness2
  k_go0
  rename_i w s₀ s mg mb G Y fa o pm doc kV ho hg KX X V GL T B TE TW w1 w2 M w3 w4 hcd ns hs hlay0 hL1 hr1 hl2 w5 w6 la vs w7 hL ra w8 r0 hI hr hc1 hc2 K0 hD h₁ F N0
  have hlen : vs.length ≤ 63 := by
    have h1 := hI.length
    omega
  refine wpAny_mono (Mine.law_at w (by exact rfl) _ s fa _ la vs ns h₁ _ (Mine.cx_caller _) ⟨KX, _, _, _, T⟩ hL hI hlen (Mine.St.start F)) ?_ (fun _ _ e => e.elim)
  rintro fl s' ⟨L, h', tk', m, rfl, rfl, F'⟩
  refine goodW_bool F' hg (fun _ => rfl) ?_
  wrow_post
