import PyProof.Rows.All
import Wide.All
import OpenK.AllK
import Wide.FinOn
import Lean
import PySem.Challenge.RW_pb0166_01
set_option Elab.async false
set_option maxRecDepth 100000
set_option maxHeartbeats 8000000
set_option linter.all false
section
open PySem PySem.W PyProof.Rows
namespace Mine
noncomputable def fNamed (x : String) : List Stmt → Stmt
  | [] => .Pass default
  | s :: r => match s with
    | .FunctionDef n .. => if n == Str.ofString x then s else fNamed x r
    | .ClassDef n .. => if n == Str.ofString x then s else fNamed x r
    | _ => fNamed x r
noncomputable def cB : Stmt → List Stmt
  | .ClassDef _ _ _ b .. => b
  | _ => []
noncomputable def fnNm (x : String) : Stmt := fNamed x PySem.Challenge.pw_pb0166_01.main.body
noncomputable def mtOf (x y : String) : Stmt := fNamed y (cB (fnNm x))
noncomputable def fP : Stmt → Arguments
  | .FunctionDef _ a .. => a
  | _ => default
noncomputable def fB : Stmt → List Stmt
  | .FunctionDef _ _ b .. => b
  | _ => []
noncomputable def fS : Stmt → Scope
  | .FunctionDef _ _ _ _ _ _ s .. => s
  | _ => default
noncomputable def heapK : Params → Frag := fun P =>
  [(2, { cls := Value.none, data := Data.dict #[] }),
   (3, { cls := Value.type "dict", data := Data.dict #[{ hash := PyData.keyHash P (Str.ofString "__name__"), key := Value.str (Str.ofString "__name__") 165, val := Value.str (Str.ofString "law_pb0166_01") 391 }, { hash := PyData.keyHash P (Str.ofString "__doc__"), key := Value.str (Str.ofString "__doc__") 166, val := Value.none }, { hash := PyData.keyHash P (Str.ofString "__package__"), key := Value.str (Str.ofString "__package__") 167, val := Value.none }, { hash := PyData.keyHash P (Str.ofString "__loader__"), key := Value.str (Str.ofString "__loader__") 168, val := Value.builtin "__main__.__loader__#opaque" }, { hash := PyData.keyHash P (Str.ofString "__spec__"), key := Value.str (Str.ofString "__spec__") 169, val := Value.none }, { hash := PyData.keyHash P (Str.ofString "__annotations__"), key := Value.str (Str.ofString "__annotations__") 170, val := Value.ref 6 }, { hash := PyData.keyHash P (Str.ofString "__builtins__"), key := Value.str (Str.ofString "__builtins__") 171, val := Value.ref 4 }, { hash := PyData.keyHash P (Str.ofString "__file__"), key := Value.str (Str.ofString "__file__") 173, val := Value.str (Str.ofString "/claim/cut.py") 172 }, { hash := PyData.keyHash P (Str.ofString "__cached__"), key := Value.str (Str.ofString "__cached__") 174, val := Value.none }, { hash := PyData.keyHash P (Str.ofString "_wall"), key := Value.str (Str.ofString "_wall") 193, val := Value.ref 21 }, { hash := PyData.keyHash P (Str.ofString "ClassDef"), key := Value.str (Str.ofString "ClassDef") 254, val := Value.ref 66 }, { hash := PyData.keyHash P (Str.ofString "NONE"), key := Value.str (Str.ofString "NONE") 259, val := Value.int (-1) 258 }, { hash := PyData.keyHash P (Str.ofString "Trie"), key := Value.str (Str.ofString "Trie") 315, val := Value.ref 108 }, { hash := PyData.keyHash P (Str.ofString "least_trie"), key := Value.str (Str.ofString "least_trie") 321, val := Value.ref 117 }, { hash := PyData.keyHash P (Str.ofString "in_breadth"), key := Value.str (Str.ofString "in_breadth") 336, val := Value.ref 124 }, { hash := PyData.keyHash P (Str.ofString "StateTable"), key := Value.str (Str.ofString "StateTable") 378, val := Value.ref 148 }, { hash := PyData.keyHash P (Str.ofString "columns_of"), key := Value.str (Str.ofString "columns_of") 384, val := Value.ref 157 }, { hash := PyData.keyHash P (Str.ofString "state_table"), key := Value.str (Str.ofString "state_table") 390, val := Value.ref 162 }, { hash := PyData.keyHash P (Str.ofString "_law_draw"), key := Value.str (Str.ofString "_law_draw") 402, val := Value.ref 169 }, { hash := PyData.keyHash P (Str.ofString "_law_drawn"), key := Value.str (Str.ofString "_law_drawn") 408, val := Value.ref 174 }, { hash := PyData.keyHash P (Str.ofString "_law_trie"), key := Value.str (Str.ofString "_law_trie") 418, val := Value.ref 181 }, { hash := PyData.keyHash P (Str.ofString "_law_rest"), key := Value.str (Str.ofString "_law_rest") 424, val := Value.ref 186 }, { hash := PyData.keyHash P (Str.ofString "law"), key := Value.str (Str.ofString "law") 430, val := Value.ref 191 }] 23 }),
   (15, { cls := Value.type "tuple", data := Data.seq #[] }),
   (17, { cls := Value.type "tuple", data := Data.seq #[Value.str (Str.ofString "k") 190] }),
   (18, { cls := Value.type "tuple", data := Data.seq #[] }),
   (20, { cls := Value.type "code", data := Data.fields #[Value.str (Str.ofString "_wall") 187, Value.str (Str.ofString "_wall") 188, Value.str (Str.ofString "/claim/cut.py") 189, Value.int 1 0, Value.int 1 0, Value.int 0 0, Value.int 0 0, Value.int 3 0, Value.ref 15, Value.bool true, Value.int 181 0, Value.ref 16, Value.none, Value.ref 17, Value.ref 18, Value.ref 19, Value.int 191 0, Value.int 1 0, Value.str (Str.ofString "/claim/cut.py") 192] }),
   (21, { cls := Value.type "function", data := Data.func { name := Str.ofString "_wall", qualname := Str.ofString "_wall", params := (fP (fnNm "_wall")), body := FuncBody.stmts (fB (fnNm "_wall")), scope := (fS (fnNm "_wall")), globals := 3, closure := [], defaults := Value.none, kwdefaults := Value.none, pyModule := Value.str (Str.ofString "__main__") 164, code := Value.ref 20 } }),
   (29, { cls := Value.type "tuple", data := Data.seq #[] }),
   (31, { cls := Value.type "tuple", data := Data.seq #[Value.str (Str.ofString "self") 211, Value.str (Str.ofString "classes") 212] }),
   (32, { cls := Value.type "tuple", data := Data.seq #[] }),
   (34, { cls := Value.type "code", data := Data.fields #[Value.str (Str.ofString "__init__") 208, Value.str (Str.ofString "ClassDef.__init__") 209, Value.str (Str.ofString "/claim/cut.py") 210, Value.int 7 0, Value.int 2 0, Value.int 0 0, Value.int 0 0, Value.int 3 0, Value.ref 29, Value.bool true, Value.int 181 0, Value.ref 30, Value.none, Value.ref 31, Value.ref 32, Value.ref 33, Value.int 213 0, Value.int 7 0, Value.str (Str.ofString "/claim/cut.py") 214] }),
   (35, { cls := Value.type "function", data := Data.func { name := Str.ofString "__init__", qualname := Str.ofString "ClassDef.__init__", params := (fP (mtOf "ClassDef" "__init__")), body := FuncBody.stmts (fB (mtOf "ClassDef" "__init__")), scope := (fS (mtOf "ClassDef" "__init__")), globals := 3, closure := [], defaults := Value.none, kwdefaults := Value.none, pyModule := Value.str (Str.ofString "joinedhand.classdefs") 194, code := Value.ref 34 } }),
   (36, { cls := Value.type "tuple", data := Data.seq #[] }),
   (38, { cls := Value.type "tuple", data := Data.seq #[Value.str (Str.ofString "self") 219, Value.str (Str.ofString "glyph") 220] }),
   (39, { cls := Value.type "tuple", data := Data.seq #[] }),
   (41, { cls := Value.type "code", data := Data.fields #[Value.str (Str.ofString "class_of") 216, Value.str (Str.ofString "ClassDef.class_of") 217, Value.str (Str.ofString "/claim/cut.py") 218, Value.int 10 0, Value.int 2 0, Value.int 0 0, Value.int 0 0, Value.int 3 0, Value.ref 36, Value.bool true, Value.int 181 0, Value.ref 37, Value.none, Value.ref 38, Value.ref 39, Value.ref 40, Value.int 221 0, Value.int 10 0, Value.str (Str.ofString "/claim/cut.py") 222] }),
   (42, { cls := Value.type "function", data := Data.func { name := Str.ofString "class_of", qualname := Str.ofString "ClassDef.class_of", params := (fP (mtOf "ClassDef" "class_of")), body := FuncBody.stmts (fB (mtOf "ClassDef" "class_of")), scope := (fS (mtOf "ClassDef" "class_of")), globals := 3, closure := [], defaults := Value.none, kwdefaults := Value.none, pyModule := Value.str (Str.ofString "joinedhand.classdefs") 194, code := Value.ref 41 } }),
   (43, { cls := Value.type "tuple", data := Data.seq #[] }),
   (45, { cls := Value.type "tuple", data := Data.seq #[Value.str (Str.ofString "self") 227, Value.str (Str.ofString "number") 228] }),
   (46, { cls := Value.type "tuple", data := Data.seq #[] }),
   (48, { cls := Value.type "code", data := Data.fields #[Value.str (Str.ofString "glyphs_of") 224, Value.str (Str.ofString "ClassDef.glyphs_of") 225, Value.str (Str.ofString "/claim/cut.py") 226, Value.int 13 0, Value.int 2 0, Value.int 0 0, Value.int 0 0, Value.int 3 0, Value.ref 43, Value.bool true, Value.int 181 0, Value.ref 44, Value.none, Value.ref 45, Value.ref 46, Value.ref 47, Value.int 229 0, Value.int 13 0, Value.str (Str.ofString "/claim/cut.py") 230] }),
   (49, { cls := Value.type "function", data := Data.func { name := Str.ofString "glyphs_of", qualname := Str.ofString "ClassDef.glyphs_of", params := (fP (mtOf "ClassDef" "glyphs_of")), body := FuncBody.stmts (fB (mtOf "ClassDef" "glyphs_of")), scope := (fS (mtOf "ClassDef" "glyphs_of")), globals := 3, closure := [], defaults := Value.none, kwdefaults := Value.none, pyModule := Value.str (Str.ofString "joinedhand.classdefs") 194, code := Value.ref 48 } }),
   (50, { cls := Value.type "tuple", data := Data.seq #[] }),
   (52, { cls := Value.type "tuple", data := Data.seq #[Value.str (Str.ofString "self") 235] }),
   (53, { cls := Value.type "tuple", data := Data.seq #[] }),
   (55, { cls := Value.type "code", data := Data.fields #[Value.str (Str.ofString "count") 232, Value.str (Str.ofString "ClassDef.count") 233, Value.str (Str.ofString "/claim/cut.py") 234, Value.int 16 0, Value.int 1 0, Value.int 0 0, Value.int 0 0, Value.int 3 0, Value.ref 50, Value.bool true, Value.int 181 0, Value.ref 51, Value.none, Value.ref 52, Value.ref 53, Value.ref 54, Value.int 236 0, Value.int 16 0, Value.str (Str.ofString "/claim/cut.py") 237] }),
   (56, { cls := Value.type "function", data := Data.func { name := Str.ofString "count", qualname := Str.ofString "ClassDef.count", params := (fP (mtOf "ClassDef" "count")), body := FuncBody.stmts (fB (mtOf "ClassDef" "count")), scope := (fS (mtOf "ClassDef" "count")), globals := 3, closure := [], defaults := Value.none, kwdefaults := Value.none, pyModule := Value.str (Str.ofString "joinedhand.classdefs") 194, code := Value.ref 55 } }),
   (57, { cls := Value.type "tuple", data := Data.seq #[] }),
   (59, { cls := Value.type "tuple", data := Data.seq #[Value.str (Str.ofString "self") 242] }),
   (60, { cls := Value.type "tuple", data := Data.seq #[] }),
   (62, { cls := Value.type "code", data := Data.fields #[Value.str (Str.ofString "told") 239, Value.str (Str.ofString "ClassDef.told") 240, Value.str (Str.ofString "/claim/cut.py") 241, Value.int 19 0, Value.int 1 0, Value.int 0 0, Value.int 0 0, Value.int 3 0, Value.ref 57, Value.bool true, Value.int 181 0, Value.ref 58, Value.none, Value.ref 59, Value.ref 60, Value.ref 61, Value.int 243 0, Value.int 19 0, Value.str (Str.ofString "/claim/cut.py") 244] }),
   (63, { cls := Value.type "function", data := Data.func { name := Str.ofString "told", qualname := Str.ofString "ClassDef.told", params := (fP (mtOf "ClassDef" "told")), body := FuncBody.stmts (fB (mtOf "ClassDef" "told")), scope := (fS (mtOf "ClassDef" "told")), globals := 3, closure := [], defaults := Value.none, kwdefaults := Value.none, pyModule := Value.str (Str.ofString "joinedhand.classdefs") 194, code := Value.ref 62 } }),
   (64, { cls := Value.type "tuple", data := Data.seq #[Value.str (Str.ofString "classes") 246] }),
   (65, { cls := Value.type "dict", data := Data.dict #[{ hash := PyData.keyHash P (Str.ofString "__module__"), key := Value.str (Str.ofString "__module__") 203, val := Value.str (Str.ofString "joinedhand.classdefs") 194 }, { hash := PyData.keyHash P (Str.ofString "__firstlineno__"), key := Value.str (Str.ofString "__firstlineno__") 207, val := Value.int 5 206 }, { hash := PyData.keyHash P (Str.ofString "__init__"), key := Value.str (Str.ofString "__init__") 215, val := Value.ref 35 }, { hash := PyData.keyHash P (Str.ofString "class_of"), key := Value.str (Str.ofString "class_of") 223, val := Value.ref 42 }, { hash := PyData.keyHash P (Str.ofString "glyphs_of"), key := Value.str (Str.ofString "glyphs_of") 231, val := Value.ref 49 }, { hash := PyData.keyHash P (Str.ofString "count"), key := Value.str (Str.ofString "count") 238, val := Value.ref 56 }, { hash := PyData.keyHash P (Str.ofString "told"), key := Value.str (Str.ofString "told") 245, val := Value.ref 63 }, { hash := PyData.keyHash P (Str.ofString "__static_attributes__"), key := Value.str (Str.ofString "__static_attributes__") 247, val := Value.ref 64 }, { hash := PyData.keyHash P (Str.ofString "__dict__"), key := Value.str (Str.ofString "__dict__") 249, val := Value.ref 67 }, { hash := PyData.keyHash P (Str.ofString "__weakref__"), key := Value.str (Str.ofString "__weakref__") 251, val := Value.ref 68 }, { hash := PyData.keyHash P (Str.ofString "__doc__"), key := Value.str (Str.ofString "__doc__") 252, val := Value.none }] 4 }),
   (66, { cls := Value.type "type", data := Data.cls { name := Str.ofString "ClassDef", bases := [Value.type "object"], mro := [Value.ref 66, Value.type "object"], ns := 65, qualname := Str.ofString "ClassDef" }, slots := #[none, none, some (Value.str (Str.ofString "ClassDef") 196), some (Value.str (Str.ofString "ClassDef") 204), some (Value.builtin "object.__new__"), some (Value.bool true)] }),
   (67, { cls := Value.type "getset_descriptor", data := Data.fields #[Value.str (Str.ofString "__dict__") 248, Value.ref 66, Value.builtin "function.__dict__", Value.builtin "function.__dict__#set"] }),
   (68, { cls := Value.type "getset_descriptor", data := Data.fields #[Value.str (Str.ofString "__weakref__") 250, Value.ref 66, Value.builtin "ExceptionGroup.__weakref__", Value.none] }),
   (78, { cls := Value.type "tuple", data := Data.seq #[] }),
   (80, { cls := Value.type "tuple", data := Data.seq #[Value.str (Str.ofString "self") 275] }),
   (81, { cls := Value.type "tuple", data := Data.seq #[] }),
   (83, { cls := Value.type "code", data := Data.fields #[Value.str (Str.ofString "__init__") 272, Value.str (Str.ofString "Trie.__init__") 273, Value.str (Str.ofString "/claim/cut.py") 274, Value.int 25 0, Value.int 1 0, Value.int 0 0, Value.int 0 0, Value.int 3 0, Value.ref 78, Value.bool true, Value.int 181 0, Value.ref 79, Value.none, Value.ref 80, Value.ref 81, Value.ref 82, Value.int 276 0, Value.int 25 0, Value.str (Str.ofString "/claim/cut.py") 277] }),
   (84, { cls := Value.type "function", data := Data.func { name := Str.ofString "__init__", qualname := Str.ofString "Trie.__init__", params := (fP (mtOf "Trie" "__init__")), body := FuncBody.stmts (fB (mtOf "Trie" "__init__")), scope := (fS (mtOf "Trie" "__init__")), globals := 3, closure := [], defaults := Value.none, kwdefaults := Value.none, pyModule := Value.str (Str.ofString "joinedhand.automaton") 255, code := Value.ref 83 } }),
   (85, { cls := Value.type "tuple", data := Data.seq #[] }),
   (87, { cls := Value.type "tuple", data := Data.seq #[Value.str (Str.ofString "self") 282, Value.str (Str.ofString "glyphs") 283, Value.str (Str.ofString "ligature") 284, Value.str (Str.ofString "node") 285, Value.str (Str.ofString "glyph") 286] }),
   (88, { cls := Value.type "tuple", data := Data.seq #[] }),
   (90, { cls := Value.type "code", data := Data.fields #[Value.str (Str.ofString "add") 279, Value.str (Str.ofString "Trie.add") 280, Value.str (Str.ofString "/claim/cut.py") 281, Value.int 29 0, Value.int 3 0, Value.int 0 0, Value.int 0 0, Value.int 3 0, Value.ref 85, Value.bool true, Value.int 181 0, Value.ref 86, Value.none, Value.ref 87, Value.ref 88, Value.ref 89, Value.int 287 0, Value.int 29 0, Value.str (Str.ofString "/claim/cut.py") 288] }),
   (91, { cls := Value.type "function", data := Data.func { name := Str.ofString "add", qualname := Str.ofString "Trie.add", params := (fP (mtOf "Trie" "add")), body := FuncBody.stmts (fB (mtOf "Trie" "add")), scope := (fS (mtOf "Trie" "add")), globals := 3, closure := [], defaults := Value.none, kwdefaults := Value.none, pyModule := Value.str (Str.ofString "joinedhand.automaton") 255, code := Value.ref 90 } }),
   (92, { cls := Value.type "tuple", data := Data.seq #[] }),
   (94, { cls := Value.type "tuple", data := Data.seq #[Value.str (Str.ofString "self") 293] }),
   (95, { cls := Value.type "tuple", data := Data.seq #[] }),
   (97, { cls := Value.type "code", data := Data.fields #[Value.str (Str.ofString "state_count") 290, Value.str (Str.ofString "Trie.state_count") 291, Value.str (Str.ofString "/claim/cut.py") 292, Value.int 39 0, Value.int 1 0, Value.int 0 0, Value.int 0 0, Value.int 3 0, Value.ref 92, Value.bool true, Value.int 181 0, Value.ref 93, Value.none, Value.ref 94, Value.ref 95, Value.ref 96, Value.int 294 0, Value.int 39 0, Value.str (Str.ofString "/claim/cut.py") 295] }),
   (98, { cls := Value.type "function", data := Data.func { name := Str.ofString "state_count", qualname := Str.ofString "Trie.state_count", params := (fP (mtOf "Trie" "state_count")), body := FuncBody.stmts (fB (mtOf "Trie" "state_count")), scope := (fS (mtOf "Trie" "state_count")), globals := 3, closure := [], defaults := Value.none, kwdefaults := Value.none, pyModule := Value.str (Str.ofString "joinedhand.automaton") 255, code := Value.ref 97 } }),
   (99, { cls := Value.type "tuple", data := Data.seq #[] }),
   (101, { cls := Value.type "tuple", data := Data.seq #[Value.str (Str.ofString "self") 300, Value.str (Str.ofString "node") 301, Value.str (Str.ofString "glyph") 302] }),
   (102, { cls := Value.type "tuple", data := Data.seq #[] }),
   (104, { cls := Value.type "code", data := Data.fields #[Value.str (Str.ofString "step") 297, Value.str (Str.ofString "Trie.step") 298, Value.str (Str.ofString "/claim/cut.py") 299, Value.int 42 0, Value.int 3 0, Value.int 0 0, Value.int 0 0, Value.int 3 0, Value.ref 99, Value.bool true, Value.int 181 0, Value.ref 100, Value.none, Value.ref 101, Value.ref 102, Value.ref 103, Value.int 303 0, Value.int 42 0, Value.str (Str.ofString "/claim/cut.py") 304] }),
   (105, { cls := Value.type "function", data := Data.func { name := Str.ofString "step", qualname := Str.ofString "Trie.step", params := (fP (mtOf "Trie" "step")), body := FuncBody.stmts (fB (mtOf "Trie" "step")), scope := (fS (mtOf "Trie" "step")), globals := 3, closure := [], defaults := Value.none, kwdefaults := Value.none, pyModule := Value.str (Str.ofString "joinedhand.automaton") 255, code := Value.ref 104 } }),
   (106, { cls := Value.type "tuple", data := Data.seq #[Value.str (Str.ofString "ends") 306, Value.str (Str.ofString "steps") 307] }),
   (107, { cls := Value.type "dict", data := Data.dict #[{ hash := PyData.keyHash P (Str.ofString "__module__"), key := Value.str (Str.ofString "__module__") 267, val := Value.str (Str.ofString "joinedhand.automaton") 255 }, { hash := PyData.keyHash P (Str.ofString "__firstlineno__"), key := Value.str (Str.ofString "__firstlineno__") 271, val := Value.int 23 270 }, { hash := PyData.keyHash P (Str.ofString "__init__"), key := Value.str (Str.ofString "__init__") 278, val := Value.ref 84 }, { hash := PyData.keyHash P (Str.ofString "add"), key := Value.str (Str.ofString "add") 289, val := Value.ref 91 }, { hash := PyData.keyHash P (Str.ofString "state_count"), key := Value.str (Str.ofString "state_count") 296, val := Value.ref 98 }, { hash := PyData.keyHash P (Str.ofString "step"), key := Value.str (Str.ofString "step") 305, val := Value.ref 105 }, { hash := PyData.keyHash P (Str.ofString "__static_attributes__"), key := Value.str (Str.ofString "__static_attributes__") 308, val := Value.ref 106 }, { hash := PyData.keyHash P (Str.ofString "__dict__"), key := Value.str (Str.ofString "__dict__") 310, val := Value.ref 109 }, { hash := PyData.keyHash P (Str.ofString "__weakref__"), key := Value.str (Str.ofString "__weakref__") 312, val := Value.ref 110 }, { hash := PyData.keyHash P (Str.ofString "__doc__"), key := Value.str (Str.ofString "__doc__") 313, val := Value.none }] 4 }),
   (108, { cls := Value.type "type", data := Data.cls { name := Str.ofString "Trie", bases := [Value.type "object"], mro := [Value.ref 108, Value.type "object"], ns := 107, qualname := Str.ofString "Trie" }, slots := #[none, none, some (Value.str (Str.ofString "Trie") 260), some (Value.str (Str.ofString "Trie") 268), some (Value.builtin "object.__new__"), some (Value.bool true)] }),
   (109, { cls := Value.type "getset_descriptor", data := Data.fields #[Value.str (Str.ofString "__dict__") 309, Value.ref 108, Value.builtin "function.__dict__", Value.builtin "function.__dict__#set"] }),
   (110, { cls := Value.type "getset_descriptor", data := Data.fields #[Value.str (Str.ofString "__weakref__") 311, Value.ref 108, Value.builtin "ExceptionGroup.__weakref__", Value.none] }),
   (113, { cls := Value.type "tuple", data := Data.seq #[] }),
   (116, { cls := Value.type "code", data := Data.fields #[Value.str (Str.ofString "least_trie") 316, Value.str (Str.ofString "least_trie") 317, Value.str (Str.ofString "/claim/cut.py") 318, Value.int 44 0, Value.int 1 0, Value.int 0 0, Value.int 0 0, Value.int 3 0, Value.ref 113, Value.bool true, Value.int 181 0, Value.ref 114, Value.none, Value.none, Value.none, Value.ref 115, Value.int 319 0, Value.int 44 0, Value.str (Str.ofString "/claim/cut.py") 320] }),
   (117, { cls := Value.type "function", data := Data.func { name := Str.ofString "least_trie", qualname := Str.ofString "least_trie", params := (fP (fnNm "least_trie")), body := FuncBody.stmts (fB (fnNm "least_trie")), scope := (fS (fnNm "least_trie")), globals := 3, closure := [], defaults := Value.none, kwdefaults := Value.none, pyModule := Value.str (Str.ofString "joinedhand.automaton") 255, code := Value.ref 116 } }),
   (118, { cls := Value.type "tuple", data := Data.seq #[] }),
   (120, { cls := Value.type "tuple", data := Data.seq #[Value.str (Str.ofString "trie") 325, Value.str (Str.ofString "homes") 326, Value.str (Str.ofString "order") 327, Value.str (Str.ofString "places") 328, Value.str (Str.ofString "made") 329, Value.str (Str.ofString "node") 330, Value.str (Str.ofString "steps") 331, Value.str (Str.ofString "glyph") 332, Value.str (Str.ofString "goal") 333] }),
   (121, { cls := Value.type "tuple", data := Data.seq #[] }),
   (123, { cls := Value.type "code", data := Data.fields #[Value.str (Str.ofString "in_breadth") 322, Value.str (Str.ofString "in_breadth") 323, Value.str (Str.ofString "/claim/cut.py") 324, Value.int 54 0, Value.int 2 0, Value.int 0 0, Value.int 0 0, Value.int 3 0, Value.ref 118, Value.bool true, Value.int 181 0, Value.ref 119, Value.none, Value.ref 120, Value.ref 121, Value.ref 122, Value.int 334 0, Value.int 54 0, Value.str (Str.ofString "/claim/cut.py") 335] }),
   (124, { cls := Value.type "function", data := Data.func { name := Str.ofString "in_breadth", qualname := Str.ofString "in_breadth", params := (fP (fnNm "in_breadth")), body := FuncBody.stmts (fB (fnNm "in_breadth")), scope := (fS (fnNm "in_breadth")), globals := 3, closure := [], defaults := Value.none, kwdefaults := Value.none, pyModule := Value.str (Str.ofString "joinedhand.automaton") 255, code := Value.ref 123 } }),
   (132, { cls := Value.type "tuple", data := Data.seq #[] }),
   (134, { cls := Value.type "tuple", data := Data.seq #[Value.str (Str.ofString "self") 352, Value.str (Str.ofString "classes") 353, Value.str (Str.ofString "rows") 354, Value.str (Str.ofString "ends") 355] }),
   (135, { cls := Value.type "tuple", data := Data.seq #[] }),
   (137, { cls := Value.type "code", data := Data.fields #[Value.str (Str.ofString "__init__") 349, Value.str (Str.ofString "StateTable.__init__") 350, Value.str (Str.ofString "/claim/cut.py") 351, Value.int 73 0, Value.int 4 0, Value.int 0 0, Value.int 0 0, Value.int 3 0, Value.ref 132, Value.bool true, Value.int 181 0, Value.ref 133, Value.none, Value.ref 134, Value.ref 135, Value.ref 136, Value.int 356 0, Value.int 73 0, Value.str (Str.ofString "/claim/cut.py") 357] }),
   (138, { cls := Value.type "function", data := Data.func { name := Str.ofString "__init__", qualname := Str.ofString "StateTable.__init__", params := (fP (mtOf "StateTable" "__init__")), body := FuncBody.stmts (fB (mtOf "StateTable" "__init__")), scope := (fS (mtOf "StateTable" "__init__")), globals := 3, closure := [], defaults := Value.none, kwdefaults := Value.none, pyModule := Value.str (Str.ofString "joinedhand.automaton") 255, code := Value.ref 137 } }),
   (139, { cls := Value.type "tuple", data := Data.seq #[] }),
   (141, { cls := Value.type "tuple", data := Data.seq #[Value.str (Str.ofString "self") 362, Value.str (Str.ofString "state") 363, Value.str (Str.ofString "glyph") 364] }),
   (142, { cls := Value.type "tuple", data := Data.seq #[] }),
   (144, { cls := Value.type "code", data := Data.fields #[Value.str (Str.ofString "step") 359, Value.str (Str.ofString "StateTable.step") 360, Value.str (Str.ofString "/claim/cut.py") 361, Value.int 78 0, Value.int 3 0, Value.int 0 0, Value.int 0 0, Value.int 3 0, Value.ref 139, Value.bool true, Value.int 181 0, Value.ref 140, Value.none, Value.ref 141, Value.ref 142, Value.ref 143, Value.int 365 0, Value.int 78 0, Value.str (Str.ofString "/claim/cut.py") 366] }),
   (145, { cls := Value.type "function", data := Data.func { name := Str.ofString "step", qualname := Str.ofString "StateTable.step", params := (fP (mtOf "StateTable" "step")), body := FuncBody.stmts (fB (mtOf "StateTable" "step")), scope := (fS (mtOf "StateTable" "step")), globals := 3, closure := [], defaults := Value.none, kwdefaults := Value.none, pyModule := Value.str (Str.ofString "joinedhand.automaton") 255, code := Value.ref 144 } }),
   (146, { cls := Value.type "tuple", data := Data.seq #[Value.str (Str.ofString "classes") 368, Value.str (Str.ofString "ends") 369, Value.str (Str.ofString "rows") 370] }),
   (147, { cls := Value.type "dict", data := Data.dict #[{ hash := PyData.keyHash P (Str.ofString "__module__"), key := Value.str (Str.ofString "__module__") 344, val := Value.str (Str.ofString "joinedhand.automaton") 255 }, { hash := PyData.keyHash P (Str.ofString "__firstlineno__"), key := Value.str (Str.ofString "__firstlineno__") 348, val := Value.int 71 347 }, { hash := PyData.keyHash P (Str.ofString "__init__"), key := Value.str (Str.ofString "__init__") 358, val := Value.ref 138 }, { hash := PyData.keyHash P (Str.ofString "step"), key := Value.str (Str.ofString "step") 367, val := Value.ref 145 }, { hash := PyData.keyHash P (Str.ofString "__static_attributes__"), key := Value.str (Str.ofString "__static_attributes__") 371, val := Value.ref 146 }, { hash := PyData.keyHash P (Str.ofString "__dict__"), key := Value.str (Str.ofString "__dict__") 373, val := Value.ref 149 }, { hash := PyData.keyHash P (Str.ofString "__weakref__"), key := Value.str (Str.ofString "__weakref__") 375, val := Value.ref 150 }, { hash := PyData.keyHash P (Str.ofString "__doc__"), key := Value.str (Str.ofString "__doc__") 376, val := Value.none }] 4 }),
   (148, { cls := Value.type "type", data := Data.cls { name := Str.ofString "StateTable", bases := [Value.type "object"], mro := [Value.ref 148, Value.type "object"], ns := 147, qualname := Str.ofString "StateTable" }, slots := #[none, none, some (Value.str (Str.ofString "StateTable") 337), some (Value.str (Str.ofString "StateTable") 345), some (Value.builtin "object.__new__"), some (Value.bool true)] }),
   (149, { cls := Value.type "getset_descriptor", data := Data.fields #[Value.str (Str.ofString "__dict__") 372, Value.ref 148, Value.builtin "function.__dict__", Value.builtin "function.__dict__#set"] }),
   (150, { cls := Value.type "getset_descriptor", data := Data.fields #[Value.str (Str.ofString "__weakref__") 374, Value.ref 148, Value.builtin "ExceptionGroup.__weakref__", Value.none] }),
   (153, { cls := Value.type "tuple", data := Data.seq #[] }),
   (156, { cls := Value.type "code", data := Data.fields #[Value.str (Str.ofString "columns_of") 379, Value.str (Str.ofString "columns_of") 380, Value.str (Str.ofString "/claim/cut.py") 381, Value.int 80 0, Value.int 1 0, Value.int 0 0, Value.int 0 0, Value.int 3 0, Value.ref 153, Value.bool true, Value.int 181 0, Value.ref 154, Value.none, Value.none, Value.none, Value.ref 155, Value.int 382 0, Value.int 80 0, Value.str (Str.ofString "/claim/cut.py") 383] }),
   (157, { cls := Value.type "function", data := Data.func { name := Str.ofString "columns_of", qualname := Str.ofString "columns_of", params := (fP (fnNm "columns_of")), body := FuncBody.stmts (fB (fnNm "columns_of")), scope := (fS (fnNm "columns_of")), globals := 3, closure := [], defaults := Value.none, kwdefaults := Value.none, pyModule := Value.str (Str.ofString "joinedhand.automaton") 255, code := Value.ref 156 } }),
   (158, { cls := Value.type "tuple", data := Data.seq #[] }),
   (161, { cls := Value.type "code", data := Data.fields #[Value.str (Str.ofString "state_table") 385, Value.str (Str.ofString "state_table") 386, Value.str (Str.ofString "/claim/cut.py") 387, Value.int 86 0, Value.int 1 0, Value.int 0 0, Value.int 0 0, Value.int 3 0, Value.ref 158, Value.bool true, Value.int 181 0, Value.ref 159, Value.none, Value.none, Value.none, Value.ref 160, Value.int 388 0, Value.int 86 0, Value.str (Str.ofString "/claim/cut.py") 389] }),
   (162, { cls := Value.type "function", data := Data.func { name := Str.ofString "state_table", qualname := Str.ofString "state_table", params := (fP (fnNm "state_table")), body := FuncBody.stmts (fB (fnNm "state_table")), scope := (fS (fnNm "state_table")), globals := 3, closure := [], defaults := Value.none, kwdefaults := Value.none, pyModule := Value.str (Str.ofString "joinedhand.automaton") 255, code := Value.ref 161 } }),
   (163, { cls := Value.type "tuple", data := Data.seq #[] }),
   (165, { cls := Value.type "tuple", data := Data.seq #[Value.str (Str.ofString "pen") 396, Value.str (Str.ofString "many") 397, Value.str (Str.ofString "cell") 398, Value.str (Str.ofString "digit") 399] }),
   (166, { cls := Value.type "tuple", data := Data.seq #[] }),
   (168, { cls := Value.type "code", data := Data.fields #[Value.str (Str.ofString "_law_draw") 393, Value.str (Str.ofString "_law_draw") 394, Value.str (Str.ofString "/claim/cut.py") 395, Value.int 100 0, Value.int 2 0, Value.int 0 0, Value.int 0 0, Value.int 3 0, Value.ref 163, Value.bool true, Value.int 181 0, Value.ref 164, Value.none, Value.ref 165, Value.ref 166, Value.ref 167, Value.int 400 0, Value.int 100 0, Value.str (Str.ofString "/claim/cut.py") 401] }),
   (169, { cls := Value.type "function", data := Data.func { name := Str.ofString "_law_draw", qualname := Str.ofString "_law_draw", params := (fP (fnNm "_law_draw")), body := FuncBody.stmts (fB (fnNm "_law_draw")), scope := (fS (fnNm "_law_draw")), globals := 3, closure := [], defaults := Value.none, kwdefaults := Value.none, pyModule := Value.str (Str.ofString "law_pb0166_01") 391, code := Value.ref 168 } }),
   (170, { cls := Value.type "tuple", data := Data.seq #[] }),
   (173, { cls := Value.type "code", data := Data.fields #[Value.str (Str.ofString "_law_drawn") 403, Value.str (Str.ofString "_law_drawn") 404, Value.str (Str.ofString "/claim/cut.py") 405, Value.int 108 0, Value.int 1 0, Value.int 0 0, Value.int 0 0, Value.int 3 0, Value.ref 170, Value.bool true, Value.int 181 0, Value.ref 171, Value.none, Value.none, Value.none, Value.ref 172, Value.int 406 0, Value.int 108 0, Value.str (Str.ofString "/claim/cut.py") 407] }),
   (174, { cls := Value.type "function", data := Data.func { name := Str.ofString "_law_drawn", qualname := Str.ofString "_law_drawn", params := (fP (fnNm "_law_drawn")), body := FuncBody.stmts (fB (fnNm "_law_drawn")), scope := (fS (fnNm "_law_drawn")), globals := 3, closure := [], defaults := Value.none, kwdefaults := Value.none, pyModule := Value.str (Str.ofString "law_pb0166_01") 391, code := Value.ref 173 } }),
   (175, { cls := Value.type "tuple", data := Data.seq #[] }),
   (177, { cls := Value.type "tuple", data := Data.seq #[Value.str (Str.ofString "words") 412, Value.str (Str.ofString "trie") 413, Value.str (Str.ofString "word") 414, Value.str (Str.ofString "ligature") 415] }),
   (178, { cls := Value.type "tuple", data := Data.seq #[] }),
   (180, { cls := Value.type "code", data := Data.fields #[Value.str (Str.ofString "_law_trie") 409, Value.str (Str.ofString "_law_trie") 410, Value.str (Str.ofString "/claim/cut.py") 411, Value.int 115 0, Value.int 1 0, Value.int 0 0, Value.int 0 0, Value.int 3 0, Value.ref 175, Value.bool true, Value.int 181 0, Value.ref 176, Value.none, Value.ref 177, Value.ref 178, Value.ref 179, Value.int 416 0, Value.int 115 0, Value.str (Str.ofString "/claim/cut.py") 417] }),
   (181, { cls := Value.type "function", data := Data.func { name := Str.ofString "_law_trie", qualname := Str.ofString "_law_trie", params := (fP (fnNm "_law_trie")), body := FuncBody.stmts (fB (fnNm "_law_trie")), scope := (fS (fnNm "_law_trie")), globals := 3, closure := [], defaults := Value.none, kwdefaults := Value.none, pyModule := Value.str (Str.ofString "law_pb0166_01") 391, code := Value.ref 180 } }),
   (182, { cls := Value.type "tuple", data := Data.seq #[] }),
   (185, { cls := Value.type "code", data := Data.fields #[Value.str (Str.ofString "_law_rest") 419, Value.str (Str.ofString "_law_rest") 420, Value.str (Str.ofString "/claim/cut.py") 421, Value.int 120 0, Value.int 2 0, Value.int 0 0, Value.int 0 0, Value.int 3 0, Value.ref 182, Value.bool true, Value.int 181 0, Value.ref 183, Value.none, Value.none, Value.none, Value.ref 184, Value.int 422 0, Value.int 120 0, Value.str (Str.ofString "/claim/cut.py") 423] }),
   (186, { cls := Value.type "function", data := Data.func { name := Str.ofString "_law_rest", qualname := Str.ofString "_law_rest", params := (fP (fnNm "_law_rest")), body := FuncBody.stmts (fB (fnNm "_law_rest")), scope := (fS (fnNm "_law_rest")), globals := 3, closure := [], defaults := Value.none, kwdefaults := Value.none, pyModule := Value.str (Str.ofString "law_pb0166_01") 391, code := Value.ref 185 } }),
   (187, { cls := Value.type "tuple", data := Data.seq #[] }),
   (190, { cls := Value.type "code", data := Data.fields #[Value.str (Str.ofString "law") 425, Value.str (Str.ofString "law") 426, Value.str (Str.ofString "/claim/cut.py") 427, Value.int 122 0, Value.int 1 0, Value.int 0 0, Value.int 0 0, Value.int 3 0, Value.ref 187, Value.bool true, Value.int 181 0, Value.ref 188, Value.none, Value.none, Value.none, Value.ref 189, Value.int 428 0, Value.int 122 0, Value.str (Str.ofString "/claim/cut.py") 429] }),
   (191, { cls := Value.type "function", data := Data.func { name := Str.ofString "law", qualname := Str.ofString "law", params := (fP (fnNm "law")), body := FuncBody.stmts (fB (fnNm "law")), scope := (fS (fnNm "law")), globals := 3, closure := [], defaults := Value.none, kwdefaults := Value.none, pyModule := Value.str (Str.ofString "law_pb0166_01") 391, code := Value.ref 190 } })]
noncomputable def heapA : List Addr := [2, 3, 15, 17, 18, 20, 21, 29, 31, 32, 34, 35, 36, 38, 39, 41, 42, 43, 45, 46, 48, 49, 50, 52, 53, 55, 56, 57, 59, 60, 62, 63, 64, 65, 66, 67, 68, 78, 80, 81, 83, 84, 85, 87, 88, 90, 91, 92, 94, 95, 97, 98, 99, 101, 102, 104, 105, 106, 107, 108, 109, 110, 113, 116, 117, 118, 120, 121, 123, 124, 132, 134, 135, 137, 138, 139, 141, 142, 144, 145, 146, 147, 148, 149, 150, 153, 156, 157, 158, 161, 162, 163, 165, 166, 168, 169, 170, 173, 174, 175, 177, 178, 180, 181, 182, 185, 186, 187, 190, 191]
noncomputable def keptP : Stmt → Bool
  | .Assign (.Name n _ :: _) _ _ => !(n == Str.ofString "__name__")
  | _ => true
noncomputable def viewP : Program := { PySem.Challenge.rw_pb0166_01.row.toRowW.prog with main := { PySem.Challenge.rw_pb0166_01.row.toRowW.prog.main with body := PySem.Challenge.rw_pb0166_01.row.toRowW.prog.main.body.filter keptP } }
noncomputable def hookP : Hook := kHook heapK heapA (fun _ => by kernel_rfl)
theorem top_run : LeftO PySem.Challenge.rw_pb0166_01.row.toRowW.prog viewP [] (fun s => xlAt viewP [] s && recOk (RowW.records PySem.Challenge.rw_pb0166_01.row.toRowW) s) (Hook.obs hookP) (Hook.val hookP) 2636 := fun w => by kernel_rfl
end Mine
namespace Mine
noncomputable def fPos : Stmt → Pos
  | .FunctionDef _ _ _ _ _ _ _ _ _ p => p
  | _ => default
noncomputable def lawD : DefRec := { name := Str.ofString "law", params := fP (fnNm "law"), body := fB (fnNm "law"), scope := fS (fnNm "law"), pos := fPos (fnNm "law") }
theorem headP (hc : WalkO viewP [] (XL viewP []) (Hook.says hookP) PySem.Challenge.rw_pb0166_01.row.toRowW lawD [] fun f vs => PySem.call f vs) : PySem.Challenge.rw_pb0166_01.Holds := by
  w_on
  refine holds_law (by kernel_rfl) fun _ => ?_
  refine PySem.W.holds_open (q := viewP) (loose := []) (Xt := fun s => xlAt viewP [] s && recOk (RowW.records PySem.Challenge.rw_pb0166_01.row.toRowW) s) (XP := XL viewP []) (Yf := Hook.obs hookP) (Ya := Hook.val hookP) (YP := Hook.says hookP) (N := 2636) top_run (Hook.of hookP) (Hook.keeps hookP) (fun s e => xl_of s (Bool.and_eq_true_iff.mp e).1) XL.keeps ?h1 ?h2 ?h3 (fun s e => recFacts_of (Bool.and_eq_true_iff.mp e).2) ?h4 ?h5 ?h6 ?h7 ?hw hc
  case h1 => kernel_rfl
  case h2 => kernel_rfl
  case h3 => kernel_rfl
  case h4 => kernel_rfl
  case h5 => first | assumption | decide +kernel
  case h6 => decide +kernel
  case h7 => exact ⟨rfl, rfl, rfl, rfl, rfl, by decide +kernel⟩
  case hw => w_witness2
end Mine
end
section
open PySem PySem.W PySem.Calls PyProof.Rows
namespace Mine
theorem el0_3 {p0 p1 p2 : Prop} {G : Prop} (h : p0 ∧ p1 ∧ p2) (k : p0 → p1 → p2 → G) : G := k h.1 h.2.1 h.2.2
theorem el0_4 {p0 p1 p2 p3 : Prop} {G : Prop} (h : p0 ∧ p1 ∧ p2 ∧ p3) (k : p0 → p1 → p2 → p3 → G) : G := k h.1 h.2.1 h.2.2.1 h.2.2.2
theorem el0_5 {p0 p1 p2 p3 p4 : Prop} {G : Prop} (h : p0 ∧ p1 ∧ p2 ∧ p3 ∧ p4) (k : p0 → p1 → p2 → p3 → p4 → G) : G := k h.1 h.2.1 h.2.2.1 h.2.2.2.1 h.2.2.2.2
theorem el0_6 {p0 p1 p2 p3 p4 p5 : Prop} {G : Prop} (h : p0 ∧ p1 ∧ p2 ∧ p3 ∧ p4 ∧ p5) (k : p0 → p1 → p2 → p3 → p4 → p5 → G) : G := k h.1 h.2.1 h.2.2.1 h.2.2.2.1 h.2.2.2.2.1 h.2.2.2.2.2
theorem el1_2 {α0 : Sort _} {p0 p1 : α0 → Prop} {G : Prop} (h : ∃ a0, p0 a0 ∧ p1 a0) (k : ∀ a0, p0 a0 → p1 a0 → G) : G := h.elim fun a0 h => k a0 h.1 h.2
theorem el1_3 {α0 : Sort _} {p0 p1 p2 : α0 → Prop} {G : Prop} (h : ∃ a0, p0 a0 ∧ p1 a0 ∧ p2 a0) (k : ∀ a0, p0 a0 → p1 a0 → p2 a0 → G) : G := h.elim fun a0 h => k a0 h.1 h.2.1 h.2.2
theorem el1_4 {α0 : Sort _} {p0 p1 p2 p3 : α0 → Prop} {G : Prop} (h : ∃ a0, p0 a0 ∧ p1 a0 ∧ p2 a0 ∧ p3 a0) (k : ∀ a0, p0 a0 → p1 a0 → p2 a0 → p3 a0 → G) : G := h.elim fun a0 h => k a0 h.1 h.2.1 h.2.2.1 h.2.2.2
theorem el1_5 {α0 : Sort _} {p0 p1 p2 p3 p4 : α0 → Prop} {G : Prop} (h : ∃ a0, p0 a0 ∧ p1 a0 ∧ p2 a0 ∧ p3 a0 ∧ p4 a0) (k : ∀ a0, p0 a0 → p1 a0 → p2 a0 → p3 a0 → p4 a0 → G) : G := h.elim fun a0 h => k a0 h.1 h.2.1 h.2.2.1 h.2.2.2.1 h.2.2.2.2
theorem el1_6 {α0 : Sort _} {p0 p1 p2 p3 p4 p5 : α0 → Prop} {G : Prop} (h : ∃ a0, p0 a0 ∧ p1 a0 ∧ p2 a0 ∧ p3 a0 ∧ p4 a0 ∧ p5 a0) (k : ∀ a0, p0 a0 → p1 a0 → p2 a0 → p3 a0 → p4 a0 → p5 a0 → G) : G := h.elim fun a0 h => k a0 h.1 h.2.1 h.2.2.1 h.2.2.2.1 h.2.2.2.2.1 h.2.2.2.2.2
theorem el2_1 {α0 α1 : Sort _} {p0 : α0 → α1 → Prop} {G : Prop} (h : ∃ a0 a1, p0 a0 a1) (k : ∀ a0 a1, p0 a0 a1 → G) : G := h.elim fun a0 h => h.elim fun a1 h => k a0 a1 h
theorem el2_2 {α0 α1 : Sort _} {p0 p1 : α0 → α1 → Prop} {G : Prop} (h : ∃ a0 a1, p0 a0 a1 ∧ p1 a0 a1) (k : ∀ a0 a1, p0 a0 a1 → p1 a0 a1 → G) : G := h.elim fun a0 h => h.elim fun a1 h => k a0 a1 h.1 h.2
theorem el2_3 {α0 α1 : Sort _} {p0 p1 p2 : α0 → α1 → Prop} {G : Prop} (h : ∃ a0 a1, p0 a0 a1 ∧ p1 a0 a1 ∧ p2 a0 a1) (k : ∀ a0 a1, p0 a0 a1 → p1 a0 a1 → p2 a0 a1 → G) : G := h.elim fun a0 h => h.elim fun a1 h => k a0 a1 h.1 h.2.1 h.2.2
theorem el2_4 {α0 α1 : Sort _} {p0 p1 p2 p3 : α0 → α1 → Prop} {G : Prop} (h : ∃ a0 a1, p0 a0 a1 ∧ p1 a0 a1 ∧ p2 a0 a1 ∧ p3 a0 a1) (k : ∀ a0 a1, p0 a0 a1 → p1 a0 a1 → p2 a0 a1 → p3 a0 a1 → G) : G := h.elim fun a0 h => h.elim fun a1 h => k a0 a1 h.1 h.2.1 h.2.2.1 h.2.2.2
theorem el2_5 {α0 α1 : Sort _} {p0 p1 p2 p3 p4 : α0 → α1 → Prop} {G : Prop} (h : ∃ a0 a1, p0 a0 a1 ∧ p1 a0 a1 ∧ p2 a0 a1 ∧ p3 a0 a1 ∧ p4 a0 a1) (k : ∀ a0 a1, p0 a0 a1 → p1 a0 a1 → p2 a0 a1 → p3 a0 a1 → p4 a0 a1 → G) : G := h.elim fun a0 h => h.elim fun a1 h => k a0 a1 h.1 h.2.1 h.2.2.1 h.2.2.2.1 h.2.2.2.2
theorem el3_1 {α0 α1 α2 : Sort _} {p0 : α0 → α1 → α2 → Prop} {G : Prop} (h : ∃ a0 a1 a2, p0 a0 a1 a2) (k : ∀ a0 a1 a2, p0 a0 a1 a2 → G) : G := h.elim fun a0 h => h.elim fun a1 h => h.elim fun a2 h => k a0 a1 a2 h
theorem el3_2 {α0 α1 α2 : Sort _} {p0 p1 : α0 → α1 → α2 → Prop} {G : Prop} (h : ∃ a0 a1 a2, p0 a0 a1 a2 ∧ p1 a0 a1 a2) (k : ∀ a0 a1 a2, p0 a0 a1 a2 → p1 a0 a1 a2 → G) : G := h.elim fun a0 h => h.elim fun a1 h => h.elim fun a2 h => k a0 a1 a2 h.1 h.2
theorem el3_3 {α0 α1 α2 : Sort _} {p0 p1 p2 : α0 → α1 → α2 → Prop} {G : Prop} (h : ∃ a0 a1 a2, p0 a0 a1 a2 ∧ p1 a0 a1 a2 ∧ p2 a0 a1 a2) (k : ∀ a0 a1 a2, p0 a0 a1 a2 → p1 a0 a1 a2 → p2 a0 a1 a2 → G) : G := h.elim fun a0 h => h.elim fun a1 h => h.elim fun a2 h => k a0 a1 a2 h.1 h.2.1 h.2.2
theorem el3_4 {α0 α1 α2 : Sort _} {p0 p1 p2 p3 : α0 → α1 → α2 → Prop} {G : Prop} (h : ∃ a0 a1 a2, p0 a0 a1 a2 ∧ p1 a0 a1 a2 ∧ p2 a0 a1 a2 ∧ p3 a0 a1 a2) (k : ∀ a0 a1 a2, p0 a0 a1 a2 → p1 a0 a1 a2 → p2 a0 a1 a2 → p3 a0 a1 a2 → G) : G := h.elim fun a0 h => h.elim fun a1 h => h.elim fun a2 h => k a0 a1 a2 h.1 h.2.1 h.2.2.1 h.2.2.2
theorem el3_5 {α0 α1 α2 : Sort _} {p0 p1 p2 p3 p4 : α0 → α1 → α2 → Prop} {G : Prop} (h : ∃ a0 a1 a2, p0 a0 a1 a2 ∧ p1 a0 a1 a2 ∧ p2 a0 a1 a2 ∧ p3 a0 a1 a2 ∧ p4 a0 a1 a2) (k : ∀ a0 a1 a2, p0 a0 a1 a2 → p1 a0 a1 a2 → p2 a0 a1 a2 → p3 a0 a1 a2 → p4 a0 a1 a2 → G) : G := h.elim fun a0 h => h.elim fun a1 h => h.elim fun a2 h => k a0 a1 a2 h.1 h.2.1 h.2.2.1 h.2.2.2.1 h.2.2.2.2
theorem el3_6 {α0 α1 α2 : Sort _} {p0 p1 p2 p3 p4 p5 : α0 → α1 → α2 → Prop} {G : Prop} (h : ∃ a0 a1 a2, p0 a0 a1 a2 ∧ p1 a0 a1 a2 ∧ p2 a0 a1 a2 ∧ p3 a0 a1 a2 ∧ p4 a0 a1 a2 ∧ p5 a0 a1 a2) (k : ∀ a0 a1 a2, p0 a0 a1 a2 → p1 a0 a1 a2 → p2 a0 a1 a2 → p3 a0 a1 a2 → p4 a0 a1 a2 → p5 a0 a1 a2 → G) : G := h.elim fun a0 h => h.elim fun a1 h => h.elim fun a2 h => k a0 a1 a2 h.1 h.2.1 h.2.2.1 h.2.2.2.1 h.2.2.2.2.1 h.2.2.2.2.2
theorem el3_7 {α0 α1 α2 : Sort _} {p0 p1 p2 p3 p4 p5 p6 : α0 → α1 → α2 → Prop} {G : Prop} (h : ∃ a0 a1 a2, p0 a0 a1 a2 ∧ p1 a0 a1 a2 ∧ p2 a0 a1 a2 ∧ p3 a0 a1 a2 ∧ p4 a0 a1 a2 ∧ p5 a0 a1 a2 ∧ p6 a0 a1 a2) (k : ∀ a0 a1 a2, p0 a0 a1 a2 → p1 a0 a1 a2 → p2 a0 a1 a2 → p3 a0 a1 a2 → p4 a0 a1 a2 → p5 a0 a1 a2 → p6 a0 a1 a2 → G) : G := h.elim fun a0 h => h.elim fun a1 h => h.elim fun a2 h => k a0 a1 a2 h.1 h.2.1 h.2.2.1 h.2.2.2.1 h.2.2.2.2.1 h.2.2.2.2.2.1 h.2.2.2.2.2.2
theorem el4_1 {α0 α1 α2 α3 : Sort _} {p0 : α0 → α1 → α2 → α3 → Prop} {G : Prop} (h : ∃ a0 a1 a2 a3, p0 a0 a1 a2 a3) (k : ∀ a0 a1 a2 a3, p0 a0 a1 a2 a3 → G) : G := h.elim fun a0 h => h.elim fun a1 h => h.elim fun a2 h => h.elim fun a3 h => k a0 a1 a2 a3 h
theorem el4_2 {α0 α1 α2 α3 : Sort _} {p0 p1 : α0 → α1 → α2 → α3 → Prop} {G : Prop} (h : ∃ a0 a1 a2 a3, p0 a0 a1 a2 a3 ∧ p1 a0 a1 a2 a3) (k : ∀ a0 a1 a2 a3, p0 a0 a1 a2 a3 → p1 a0 a1 a2 a3 → G) : G := h.elim fun a0 h => h.elim fun a1 h => h.elim fun a2 h => h.elim fun a3 h => k a0 a1 a2 a3 h.1 h.2
theorem el4_4 {α0 α1 α2 α3 : Sort _} {p0 p1 p2 p3 : α0 → α1 → α2 → α3 → Prop} {G : Prop} (h : ∃ a0 a1 a2 a3, p0 a0 a1 a2 a3 ∧ p1 a0 a1 a2 a3 ∧ p2 a0 a1 a2 a3 ∧ p3 a0 a1 a2 a3) (k : ∀ a0 a1 a2 a3, p0 a0 a1 a2 a3 → p1 a0 a1 a2 a3 → p2 a0 a1 a2 a3 → p3 a0 a1 a2 a3 → G) : G := h.elim fun a0 h => h.elim fun a1 h => h.elim fun a2 h => h.elim fun a3 h => k a0 a1 a2 a3 h.1 h.2.1 h.2.2.1 h.2.2.2
theorem el4_5 {α0 α1 α2 α3 : Sort _} {p0 p1 p2 p3 p4 : α0 → α1 → α2 → α3 → Prop} {G : Prop} (h : ∃ a0 a1 a2 a3, p0 a0 a1 a2 a3 ∧ p1 a0 a1 a2 a3 ∧ p2 a0 a1 a2 a3 ∧ p3 a0 a1 a2 a3 ∧ p4 a0 a1 a2 a3) (k : ∀ a0 a1 a2 a3, p0 a0 a1 a2 a3 → p1 a0 a1 a2 a3 → p2 a0 a1 a2 a3 → p3 a0 a1 a2 a3 → p4 a0 a1 a2 a3 → G) : G := h.elim fun a0 h => h.elim fun a1 h => h.elim fun a2 h => h.elim fun a3 h => k a0 a1 a2 a3 h.1 h.2.1 h.2.2.1 h.2.2.2.1 h.2.2.2.2
theorem el4_6 {α0 α1 α2 α3 : Sort _} {p0 p1 p2 p3 p4 p5 : α0 → α1 → α2 → α3 → Prop} {G : Prop} (h : ∃ a0 a1 a2 a3, p0 a0 a1 a2 a3 ∧ p1 a0 a1 a2 a3 ∧ p2 a0 a1 a2 a3 ∧ p3 a0 a1 a2 a3 ∧ p4 a0 a1 a2 a3 ∧ p5 a0 a1 a2 a3) (k : ∀ a0 a1 a2 a3, p0 a0 a1 a2 a3 → p1 a0 a1 a2 a3 → p2 a0 a1 a2 a3 → p3 a0 a1 a2 a3 → p4 a0 a1 a2 a3 → p5 a0 a1 a2 a3 → G) : G := h.elim fun a0 h => h.elim fun a1 h => h.elim fun a2 h => h.elim fun a3 h => k a0 a1 a2 a3 h.1 h.2.1 h.2.2.1 h.2.2.2.1 h.2.2.2.2.1 h.2.2.2.2.2
theorem el4_7 {α0 α1 α2 α3 : Sort _} {p0 p1 p2 p3 p4 p5 p6 : α0 → α1 → α2 → α3 → Prop} {G : Prop} (h : ∃ a0 a1 a2 a3, p0 a0 a1 a2 a3 ∧ p1 a0 a1 a2 a3 ∧ p2 a0 a1 a2 a3 ∧ p3 a0 a1 a2 a3 ∧ p4 a0 a1 a2 a3 ∧ p5 a0 a1 a2 a3 ∧ p6 a0 a1 a2 a3) (k : ∀ a0 a1 a2 a3, p0 a0 a1 a2 a3 → p1 a0 a1 a2 a3 → p2 a0 a1 a2 a3 → p3 a0 a1 a2 a3 → p4 a0 a1 a2 a3 → p5 a0 a1 a2 a3 → p6 a0 a1 a2 a3 → G) : G := h.elim fun a0 h => h.elim fun a1 h => h.elim fun a2 h => h.elim fun a3 h => k a0 a1 a2 a3 h.1 h.2.1 h.2.2.1 h.2.2.2.1 h.2.2.2.2.1 h.2.2.2.2.2.1 h.2.2.2.2.2.2
theorem el4_9 {α0 α1 α2 α3 : Sort _} {p0 p1 p2 p3 p4 p5 p6 p7 p8 : α0 → α1 → α2 → α3 → Prop} {G : Prop} (h : ∃ a0 a1 a2 a3, p0 a0 a1 a2 a3 ∧ p1 a0 a1 a2 a3 ∧ p2 a0 a1 a2 a3 ∧ p3 a0 a1 a2 a3 ∧ p4 a0 a1 a2 a3 ∧ p5 a0 a1 a2 a3 ∧ p6 a0 a1 a2 a3 ∧ p7 a0 a1 a2 a3 ∧ p8 a0 a1 a2 a3) (k : ∀ a0 a1 a2 a3, p0 a0 a1 a2 a3 → p1 a0 a1 a2 a3 → p2 a0 a1 a2 a3 → p3 a0 a1 a2 a3 → p4 a0 a1 a2 a3 → p5 a0 a1 a2 a3 → p6 a0 a1 a2 a3 → p7 a0 a1 a2 a3 → p8 a0 a1 a2 a3 → G) : G := h.elim fun a0 h => h.elim fun a1 h => h.elim fun a2 h => h.elim fun a3 h => k a0 a1 a2 a3 h.1 h.2.1 h.2.2.1 h.2.2.2.1 h.2.2.2.2.1 h.2.2.2.2.2.1 h.2.2.2.2.2.2.1 h.2.2.2.2.2.2.2.1 h.2.2.2.2.2.2.2.2
theorem el5_3 {α0 α1 α2 α3 α4 : Sort _} {p0 p1 p2 : α0 → α1 → α2 → α3 → α4 → Prop} {G : Prop} (h : ∃ a0 a1 a2 a3 a4, p0 a0 a1 a2 a3 a4 ∧ p1 a0 a1 a2 a3 a4 ∧ p2 a0 a1 a2 a3 a4) (k : ∀ a0 a1 a2 a3 a4, p0 a0 a1 a2 a3 a4 → p1 a0 a1 a2 a3 a4 → p2 a0 a1 a2 a3 a4 → G) : G := h.elim fun a0 h => h.elim fun a1 h => h.elim fun a2 h => h.elim fun a3 h => h.elim fun a4 h => k a0 a1 a2 a3 a4 h.1 h.2.1 h.2.2
theorem el5_4 {α0 α1 α2 α3 α4 : Sort _} {p0 p1 p2 p3 : α0 → α1 → α2 → α3 → α4 → Prop} {G : Prop} (h : ∃ a0 a1 a2 a3 a4, p0 a0 a1 a2 a3 a4 ∧ p1 a0 a1 a2 a3 a4 ∧ p2 a0 a1 a2 a3 a4 ∧ p3 a0 a1 a2 a3 a4) (k : ∀ a0 a1 a2 a3 a4, p0 a0 a1 a2 a3 a4 → p1 a0 a1 a2 a3 a4 → p2 a0 a1 a2 a3 a4 → p3 a0 a1 a2 a3 a4 → G) : G := h.elim fun a0 h => h.elim fun a1 h => h.elim fun a2 h => h.elim fun a3 h => h.elim fun a4 h => k a0 a1 a2 a3 a4 h.1 h.2.1 h.2.2.1 h.2.2.2
theorem el5_6 {α0 α1 α2 α3 α4 : Sort _} {p0 p1 p2 p3 p4 p5 : α0 → α1 → α2 → α3 → α4 → Prop} {G : Prop} (h : ∃ a0 a1 a2 a3 a4, p0 a0 a1 a2 a3 a4 ∧ p1 a0 a1 a2 a3 a4 ∧ p2 a0 a1 a2 a3 a4 ∧ p3 a0 a1 a2 a3 a4 ∧ p4 a0 a1 a2 a3 a4 ∧ p5 a0 a1 a2 a3 a4) (k : ∀ a0 a1 a2 a3 a4, p0 a0 a1 a2 a3 a4 → p1 a0 a1 a2 a3 a4 → p2 a0 a1 a2 a3 a4 → p3 a0 a1 a2 a3 a4 → p4 a0 a1 a2 a3 a4 → p5 a0 a1 a2 a3 a4 → G) : G := h.elim fun a0 h => h.elim fun a1 h => h.elim fun a2 h => h.elim fun a3 h => h.elim fun a4 h => k a0 a1 a2 a3 a4 h.1 h.2.1 h.2.2.1 h.2.2.2.1 h.2.2.2.2.1 h.2.2.2.2.2
theorem el6_3 {α0 α1 α2 α3 α4 α5 : Sort _} {p0 p1 p2 : α0 → α1 → α2 → α3 → α4 → α5 → Prop} {G : Prop} (h : ∃ a0 a1 a2 a3 a4 a5, p0 a0 a1 a2 a3 a4 a5 ∧ p1 a0 a1 a2 a3 a4 a5 ∧ p2 a0 a1 a2 a3 a4 a5) (k : ∀ a0 a1 a2 a3 a4 a5, p0 a0 a1 a2 a3 a4 a5 → p1 a0 a1 a2 a3 a4 a5 → p2 a0 a1 a2 a3 a4 a5 → G) : G := h.elim fun a0 h => h.elim fun a1 h => h.elim fun a2 h => h.elim fun a3 h => h.elim fun a4 h => h.elim fun a5 h => k a0 a1 a2 a3 a4 a5 h.1 h.2.1 h.2.2
theorem el6_4 {α0 α1 α2 α3 α4 α5 : Sort _} {p0 p1 p2 p3 : α0 → α1 → α2 → α3 → α4 → α5 → Prop} {G : Prop} (h : ∃ a0 a1 a2 a3 a4 a5, p0 a0 a1 a2 a3 a4 a5 ∧ p1 a0 a1 a2 a3 a4 a5 ∧ p2 a0 a1 a2 a3 a4 a5 ∧ p3 a0 a1 a2 a3 a4 a5) (k : ∀ a0 a1 a2 a3 a4 a5, p0 a0 a1 a2 a3 a4 a5 → p1 a0 a1 a2 a3 a4 a5 → p2 a0 a1 a2 a3 a4 a5 → p3 a0 a1 a2 a3 a4 a5 → G) : G := h.elim fun a0 h => h.elim fun a1 h => h.elim fun a2 h => h.elim fun a3 h => h.elim fun a4 h => h.elim fun a5 h => k a0 a1 a2 a3 a4 a5 h.1 h.2.1 h.2.2.1 h.2.2.2
theorem el6_5 {α0 α1 α2 α3 α4 α5 : Sort _} {p0 p1 p2 p3 p4 : α0 → α1 → α2 → α3 → α4 → α5 → Prop} {G : Prop} (h : ∃ a0 a1 a2 a3 a4 a5, p0 a0 a1 a2 a3 a4 a5 ∧ p1 a0 a1 a2 a3 a4 a5 ∧ p2 a0 a1 a2 a3 a4 a5 ∧ p3 a0 a1 a2 a3 a4 a5 ∧ p4 a0 a1 a2 a3 a4 a5) (k : ∀ a0 a1 a2 a3 a4 a5, p0 a0 a1 a2 a3 a4 a5 → p1 a0 a1 a2 a3 a4 a5 → p2 a0 a1 a2 a3 a4 a5 → p3 a0 a1 a2 a3 a4 a5 → p4 a0 a1 a2 a3 a4 a5 → G) : G := h.elim fun a0 h => h.elim fun a1 h => h.elim fun a2 h => h.elim fun a3 h => h.elim fun a4 h => h.elim fun a5 h => k a0 a1 a2 a3 a4 a5 h.1 h.2.1 h.2.2.1 h.2.2.2.1 h.2.2.2.2
theorem el6_6 {α0 α1 α2 α3 α4 α5 : Sort _} {p0 p1 p2 p3 p4 p5 : α0 → α1 → α2 → α3 → α4 → α5 → Prop} {G : Prop} (h : ∃ a0 a1 a2 a3 a4 a5, p0 a0 a1 a2 a3 a4 a5 ∧ p1 a0 a1 a2 a3 a4 a5 ∧ p2 a0 a1 a2 a3 a4 a5 ∧ p3 a0 a1 a2 a3 a4 a5 ∧ p4 a0 a1 a2 a3 a4 a5 ∧ p5 a0 a1 a2 a3 a4 a5) (k : ∀ a0 a1 a2 a3 a4 a5, p0 a0 a1 a2 a3 a4 a5 → p1 a0 a1 a2 a3 a4 a5 → p2 a0 a1 a2 a3 a4 a5 → p3 a0 a1 a2 a3 a4 a5 → p4 a0 a1 a2 a3 a4 a5 → p5 a0 a1 a2 a3 a4 a5 → G) : G := h.elim fun a0 h => h.elim fun a1 h => h.elim fun a2 h => h.elim fun a3 h => h.elim fun a4 h => h.elim fun a5 h => k a0 a1 a2 a3 a4 a5 h.1 h.2.1 h.2.2.1 h.2.2.2.1 h.2.2.2.2.1 h.2.2.2.2.2
theorem el7_6 {α0 α1 α2 α3 α4 α5 α6 : Sort _} {p0 p1 p2 p3 p4 p5 : α0 → α1 → α2 → α3 → α4 → α5 → α6 → Prop} {G : Prop} (h : ∃ a0 a1 a2 a3 a4 a5 a6, p0 a0 a1 a2 a3 a4 a5 a6 ∧ p1 a0 a1 a2 a3 a4 a5 a6 ∧ p2 a0 a1 a2 a3 a4 a5 a6 ∧ p3 a0 a1 a2 a3 a4 a5 a6 ∧ p4 a0 a1 a2 a3 a4 a5 a6 ∧ p5 a0 a1 a2 a3 a4 a5 a6) (k : ∀ a0 a1 a2 a3 a4 a5 a6, p0 a0 a1 a2 a3 a4 a5 a6 → p1 a0 a1 a2 a3 a4 a5 a6 → p2 a0 a1 a2 a3 a4 a5 a6 → p3 a0 a1 a2 a3 a4 a5 a6 → p4 a0 a1 a2 a3 a4 a5 a6 → p5 a0 a1 a2 a3 a4 a5 a6 → G) : G := h.elim fun a0 h => h.elim fun a1 h => h.elim fun a2 h => h.elim fun a3 h => h.elim fun a4 h => h.elim fun a5 h => h.elim fun a6 h => k a0 a1 a2 a3 a4 a5 a6 h.1 h.2.1 h.2.2.1 h.2.2.2.1 h.2.2.2.2.1 h.2.2.2.2.2
theorem el8_5 {α0 α1 α2 α3 α4 α5 α6 α7 : Sort _} {p0 p1 p2 p3 p4 : α0 → α1 → α2 → α3 → α4 → α5 → α6 → α7 → Prop} {G : Prop} (h : ∃ a0 a1 a2 a3 a4 a5 a6 a7, p0 a0 a1 a2 a3 a4 a5 a6 a7 ∧ p1 a0 a1 a2 a3 a4 a5 a6 a7 ∧ p2 a0 a1 a2 a3 a4 a5 a6 a7 ∧ p3 a0 a1 a2 a3 a4 a5 a6 a7 ∧ p4 a0 a1 a2 a3 a4 a5 a6 a7) (k : ∀ a0 a1 a2 a3 a4 a5 a6 a7, p0 a0 a1 a2 a3 a4 a5 a6 a7 → p1 a0 a1 a2 a3 a4 a5 a6 a7 → p2 a0 a1 a2 a3 a4 a5 a6 a7 → p3 a0 a1 a2 a3 a4 a5 a6 a7 → p4 a0 a1 a2 a3 a4 a5 a6 a7 → G) : G := h.elim fun a0 h => h.elim fun a1 h => h.elim fun a2 h => h.elim fun a3 h => h.elim fun a4 h => h.elim fun a5 h => h.elim fun a6 h => h.elim fun a7 h => k a0 a1 a2 a3 a4 a5 a6 a7 h.1 h.2.1 h.2.2.1 h.2.2.2.1 h.2.2.2.2
theorem el8_7 {α0 α1 α2 α3 α4 α5 α6 α7 : Sort _} {p0 p1 p2 p3 p4 p5 p6 : α0 → α1 → α2 → α3 → α4 → α5 → α6 → α7 → Prop} {G : Prop} (h : ∃ a0 a1 a2 a3 a4 a5 a6 a7, p0 a0 a1 a2 a3 a4 a5 a6 a7 ∧ p1 a0 a1 a2 a3 a4 a5 a6 a7 ∧ p2 a0 a1 a2 a3 a4 a5 a6 a7 ∧ p3 a0 a1 a2 a3 a4 a5 a6 a7 ∧ p4 a0 a1 a2 a3 a4 a5 a6 a7 ∧ p5 a0 a1 a2 a3 a4 a5 a6 a7 ∧ p6 a0 a1 a2 a3 a4 a5 a6 a7) (k : ∀ a0 a1 a2 a3 a4 a5 a6 a7, p0 a0 a1 a2 a3 a4 a5 a6 a7 → p1 a0 a1 a2 a3 a4 a5 a6 a7 → p2 a0 a1 a2 a3 a4 a5 a6 a7 → p3 a0 a1 a2 a3 a4 a5 a6 a7 → p4 a0 a1 a2 a3 a4 a5 a6 a7 → p5 a0 a1 a2 a3 a4 a5 a6 a7 → p6 a0 a1 a2 a3 a4 a5 a6 a7 → G) : G := h.elim fun a0 h => h.elim fun a1 h => h.elim fun a2 h => h.elim fun a3 h => h.elim fun a4 h => h.elim fun a5 h => h.elim fun a6 h => h.elim fun a7 h => k a0 a1 a2 a3 a4 a5 a6 a7 h.1 h.2.1 h.2.2.1 h.2.2.2.1 h.2.2.2.2.1 h.2.2.2.2.2.1 h.2.2.2.2.2.2
theorem el11_7 {α0 α1 α2 α3 α4 α5 α6 α7 α8 α9 α10 : Sort _} {p0 p1 p2 p3 p4 p5 p6 : α0 → α1 → α2 → α3 → α4 → α5 → α6 → α7 → α8 → α9 → α10 → Prop} {G : Prop} (h : ∃ a0 a1 a2 a3 a4 a5 a6 a7 a8 a9 a10, p0 a0 a1 a2 a3 a4 a5 a6 a7 a8 a9 a10 ∧ p1 a0 a1 a2 a3 a4 a5 a6 a7 a8 a9 a10 ∧ p2 a0 a1 a2 a3 a4 a5 a6 a7 a8 a9 a10 ∧ p3 a0 a1 a2 a3 a4 a5 a6 a7 a8 a9 a10 ∧ p4 a0 a1 a2 a3 a4 a5 a6 a7 a8 a9 a10 ∧ p5 a0 a1 a2 a3 a4 a5 a6 a7 a8 a9 a10 ∧ p6 a0 a1 a2 a3 a4 a5 a6 a7 a8 a9 a10) (k : ∀ a0 a1 a2 a3 a4 a5 a6 a7 a8 a9 a10, p0 a0 a1 a2 a3 a4 a5 a6 a7 a8 a9 a10 → p1 a0 a1 a2 a3 a4 a5 a6 a7 a8 a9 a10 → p2 a0 a1 a2 a3 a4 a5 a6 a7 a8 a9 a10 → p3 a0 a1 a2 a3 a4 a5 a6 a7 a8 a9 a10 → p4 a0 a1 a2 a3 a4 a5 a6 a7 a8 a9 a10 → p5 a0 a1 a2 a3 a4 a5 a6 a7 a8 a9 a10 → p6 a0 a1 a2 a3 a4 a5 a6 a7 a8 a9 a10 → G) : G := h.elim fun a0 h => h.elim fun a1 h => h.elim fun a2 h => h.elim fun a3 h => h.elim fun a4 h => h.elim fun a5 h => h.elim fun a6 h => h.elim fun a7 h => h.elim fun a8 h => h.elim fun a9 h => h.elim fun a10 h => k a0 a1 a2 a3 a4 a5 a6 a7 a8 a9 a10 h.1 h.2.1 h.2.2.1 h.2.2.2.1 h.2.2.2.2.1 h.2.2.2.2.2.1 h.2.2.2.2.2.2
theorem el5_10 {α0 α1 α2 α3 α4 : Sort _} {p0 p1 p2 p3 p4 p5 p6 p7 p8 p9 : α0 → α1 → α2 → α3 → α4 → Prop} {G : Prop} (h : ∃ a0 a1 a2 a3 a4, p0 a0 a1 a2 a3 a4 ∧ p1 a0 a1 a2 a3 a4 ∧ p2 a0 a1 a2 a3 a4 ∧ p3 a0 a1 a2 a3 a4 ∧ p4 a0 a1 a2 a3 a4 ∧ p5 a0 a1 a2 a3 a4 ∧ p6 a0 a1 a2 a3 a4 ∧ p7 a0 a1 a2 a3 a4 ∧ p8 a0 a1 a2 a3 a4 ∧ p9 a0 a1 a2 a3 a4) (k : ∀ a0 a1 a2 a3 a4, p0 a0 a1 a2 a3 a4 → p1 a0 a1 a2 a3 a4 → p2 a0 a1 a2 a3 a4 → p3 a0 a1 a2 a3 a4 → p4 a0 a1 a2 a3 a4 → p5 a0 a1 a2 a3 a4 → p6 a0 a1 a2 a3 a4 → p7 a0 a1 a2 a3 a4 → p8 a0 a1 a2 a3 a4 → p9 a0 a1 a2 a3 a4 → G) : G := h.elim fun a0 h => h.elim fun a1 h => h.elim fun a2 h => h.elim fun a3 h => h.elim fun a4 h => k a0 a1 a2 a3 a4 h.1 h.2.1 h.2.2.1 h.2.2.2.1 h.2.2.2.2.1 h.2.2.2.2.2.1 h.2.2.2.2.2.2.1 h.2.2.2.2.2.2.2.1 h.2.2.2.2.2.2.2.2.1 h.2.2.2.2.2.2.2.2.2
theorem drop_at {α : Type} {l r : List α} {i : Nat} {x : α} (h : l.drop i = x :: r) : i < l.length ∧ l[i]? = some x ∧ l.drop (i + 1) = r := by
  have h1 : l[i]? = some x := by rw [← List.head?_drop, h]; rfl
  refine ⟨(List.getElem?_eq_some_iff.mp h1).1, h1, ?_⟩
  rw [← List.tail_drop, h]; rfl
end Mine
namespace Mine
inductive MV where
  | none
  | bool (b : Bool)
  | int (i : Int)
  | tup (l : List MV)
  | flist (l : List MV)
  | ref (a : Addr)
inductive MObj where
  | list (vs : List MV)
  | idict (es : List (Int × MV))
  | tdict (es : List (List MV × MV))
  | pin (its : List Value) (vs : List MV)
  | ipin (kvs : List (Int × Value)) (ep : Nat) (es : List (Int × MV))
  | inst (C : Addr) (d : Addr)
  | attrs (es : List (Str × MV))
noncomputable abbrev MHeap := Addr → Option MObj
structure St where
  vars : Str → Option MV
  mu : MHeap
noncomputable def upd (μ : MHeap) (a : Addr) (o : MObj) : MHeap := fun x => if x = a then some o else μ x
theorem upd_self (μ : MHeap) (a : Addr) (o : MObj) : upd μ a o a = some o := if_pos rfl
theorem upd_ne (μ : MHeap) {a b : Addr} (o : MObj) (h : b ≠ a) : upd μ a o b = μ b := if_neg h
theorem upd_upd (μ : MHeap) (a : Addr) (o o' : MObj) : upd (upd μ a o) a o' = upd μ a o' := by
  funext x; unfold upd; split <;> rfl
theorem upd_comm (μ : MHeap) {a b : Addr} (o o' : MObj) (h : a ≠ b) : upd (upd μ a o) b o' = upd (upd μ b o') a o := by
  funext x; unfold upd; by_cases h1 : x = a <;> by_cases h2 : x = b <;> simp [h1, h2]
  · exact absurd (h1.symm.trans h2) h
  all_goals (subst_vars; simp_all)
noncomputable abbrev tupObj (vs : List Value) : Obj := { cls := .type "tuple", data := .seq vs.toArray }
mutual
inductive Rep (h : Heap) (μ : MHeap) : Value → MV → Prop
  | none : Rep h μ .none .none
  | bool (b : Bool) : Rep h μ (.bool b) (.bool b)
  | int (i : Int) (t : Tok) : Rep h μ (.int i t) (.int i)
  | ref (a : Addr) : Rep h μ (.ref a) (.ref a)
  | tup {a : Addr} {vs : List Value} {ds : List MV} : μ a = Option.none → h.get? a = some (tupObj vs) → RepAll h μ vs ds → Rep h μ (.ref a) (.tup ds)
  | flist {a : Addr} {vs : List Value} {n : Nat} {ds : List MV} : μ a = Option.none → h.get? a = some (seqObj "list" vs.toArray n) → RepAll h μ vs ds → Rep h μ (.ref a) (.flist ds)
inductive RepAll (h : Heap) (μ : MHeap) : List Value → List MV → Prop
  | nil : RepAll h μ [] []
  | cons {v : Value} {d : MV} {vs : List Value} {ds : List MV} : Rep h μ v d → RepAll h μ vs ds → RepAll h μ (v :: vs) (d :: ds)
end
noncomputable def fixed : Option MObj → Prop
  | none => True
  | some (.pin _ _) => True
  | some (.ipin _ _ _) => True
  | some _ => False
structure Keep (h : Heap) (μ : MHeap) (h' : Heap) (μ' : MHeap) : Prop where
  seq : ∀ a o vs n, μ a = none → h.get? a = some o → o.data = .seq vs n → h'.get? a = some o ∧ μ' a = none
  pin : ∀ a kvs ep es o, μ a = some (.ipin kvs ep es) → h.get? a = some o → h'.get? a = some o ∧ μ' a = some (.ipin kvs ep es)
noncomputable def KeepS (h : Heap) (μ : MHeap) (h' : Heap) (μ' : MHeap) : Prop := ∀ a o vs n, μ a = none → h.get? a = some o → o.data = .seq vs n → h'.get? a = some o ∧ μ' a = none
theorem Rep.both {h : Heap} {μ : MHeap} {P : Value → MV → Prop} {R : List Value → List MV → Prop} (h1 : P .none .none) (h2 : ∀ b, P (.bool b) (.bool b)) (h3 : ∀ i t, P (.int i t) (.int i)) (h4 : ∀ a, P (.ref a) (.ref a))
    (h5 : ∀ {a vs ds}, μ a = Option.none → h.get? a = some (tupObj vs) → RepAll h μ vs ds → R vs ds → P (.ref a) (.tup ds)) (h6 : ∀ {a vs n ds}, μ a = Option.none → h.get? a = some (seqObj "list" vs.toArray n) → RepAll h μ vs ds → R vs ds → P (.ref a) (.flist ds))
    (h7 : R [] []) (h8 : ∀ {v d vs ds}, Rep h μ v d → RepAll h μ vs ds → P v d → R vs ds → R (v :: vs) (d :: ds)) : (∀ {v d}, Rep h μ v d → P v d) ∧ ∀ {vs ds}, RepAll h μ vs ds → R vs ds :=
  ⟨fun x => Rep.rec (motive_1 := fun v d _ => P v d) (motive_2 := fun vs ds _ => R vs ds) h1 h2 h3 h4 h5 h6 h7 h8 x, fun x => RepAll.rec (motive_1 := fun v d _ => P v d) (motive_2 := fun vs ds _ => R vs ds) h1 h2 h3 h4 h5 h6 h7 h8 x⟩
theorem RepAll.ind {h : Heap} {μ : MHeap} {P : List Value → List MV → Prop} (hn : P [] []) (hc : ∀ {v d vs ds}, Rep h μ v d → RepAll h μ vs ds → P vs ds → P (v :: vs) (d :: ds)) {vs : List Value} {ds : List MV} (x : RepAll h μ vs ds) : P vs ds :=
  (Rep.both (P := fun _ _ => True) (R := P) trivial (fun _ => trivial) (fun _ _ => trivial) (fun _ => trivial) (fun _ _ _ _ => trivial) (fun _ _ _ _ => trivial) hn (fun x r _ ih => hc x r ih)).2 x
theorem Rep.monoB {h h' : Heap} {μ μ' : MHeap} (k : KeepS h μ h' μ') : (∀ {v d}, Rep h μ v d → Rep h' μ' v d) ∧ ∀ {vs ds}, RepAll h μ vs ds → RepAll h' μ' vs ds :=
  Rep.both .none .bool .int .ref (fun m t _ r => have z := k _ _ _ _ m t rfl; .tup z.2 z.1 r) (fun m t _ r => have z := k _ _ _ _ m t rfl; .flist z.2 z.1 r) .nil (fun _ _ x r => .cons x r)
theorem Rep.monoS {h h' : Heap} {μ μ' : MHeap} (k : KeepS h μ h' μ') {v : Value} {d : MV} (x : Rep h μ v d) : Rep h' μ' v d := (Rep.monoB k).1 x
theorem RepAll.monoS {h h' : Heap} {μ μ' : MHeap} (k : KeepS h μ h' μ') {vs : List Value} {ds : List MV} (x : RepAll h μ vs ds) : RepAll h' μ' vs ds := (Rep.monoB k).2 x
theorem Rep.mono {h h' : Heap} {μ μ' : MHeap} (k : Keep h μ h' μ') {v : Value} {d : MV} (x : Rep h μ v d) : Rep h' μ' v d := x.monoS k.seq
theorem RepAll.mono {h h' : Heap} {μ μ' : MHeap} (k : Keep h μ h' μ') {vs : List Value} {ds : List MV} (x : RepAll h μ vs ds) : RepAll h' μ' vs ds := x.monoS k.seq
theorem RepAll.length {h : Heap} {μ : MHeap} {vs : List Value} {ds : List MV} (x : RepAll h μ vs ds) : vs.length = ds.length := x.ind (P := fun vs ds => vs.length = ds.length) rfl fun _ _ ih => congrArg Nat.succ ih
theorem RepAll.append {h : Heap} {μ : MHeap} {vs vs' : List Value} {ds ds' : List MV} (x : RepAll h μ vs ds) (y : RepAll h μ vs' ds') : RepAll h μ (vs ++ vs') (ds ++ ds') := x.ind (P := fun vs ds => RepAll h μ (vs ++ vs') (ds ++ ds')) y fun a _ ih => .cons a ih
theorem RepAll.get {h : Heap} {μ : MHeap} {vs : List Value} {ds : List MV} (x : RepAll h μ vs ds) : ∀ {i : Nat} {d : MV}, ds[i]? = some d → ∃ v, vs[i]? = some v ∧ Rep h μ v d := x.ind (P := fun vs ds => ∀ {i : Nat} {d : MV}, ds[i]? = some d → ∃ v, vs[i]? = some v ∧ Rep h μ v d) (fun e => nomatch (List.getElem?_nil.symm.trans e)) fun a _ ih i d e => by
  cases i with
  | zero => exact ⟨_, rfl, Option.some.inj e ▸ a⟩
  | succ i => exact ih e
theorem RepAll.get' {h : Heap} {μ : MHeap} {vs : List Value} {ds : List MV} (x : RepAll h μ vs ds) : ∀ {i : Nat} {v : Value}, vs[i]? = some v → ∃ d, ds[i]? = some d ∧ Rep h μ v d := x.ind (P := fun vs ds => ∀ {i : Nat} {v : Value}, vs[i]? = some v → ∃ d, ds[i]? = some d ∧ Rep h μ v d) (fun e => nomatch (List.getElem?_nil.symm.trans e)) fun a _ ih i d e => by
  cases i with
  | zero => exact ⟨_, rfl, Option.some.inj e ▸ a⟩
  | succ i => exact ih e
theorem RepAll.take {h : Heap} {μ : MHeap} {vs : List Value} {ds : List MV} (x : RepAll h μ vs ds) : ∀ n, RepAll h μ (vs.take n) (ds.take n) := x.ind (P := fun vs ds => ∀ n, RepAll h μ (vs.take n) (ds.take n)) (fun n => by rw [List.take_nil, List.take_nil]; exact .nil) fun a _ ih n => by
  cases n with
  | zero => exact .nil
  | succ n => exact .cons a (ih n)
theorem RepAll.drop {h : Heap} {μ : MHeap} {vs : List Value} {ds : List MV} (x : RepAll h μ vs ds) : ∀ n, RepAll h μ (vs.drop n) (ds.drop n) := x.ind (P := fun vs ds => ∀ n, RepAll h μ (vs.drop n) (ds.drop n)) (fun n => by rw [List.drop_nil, List.drop_nil]; exact .nil) fun a r ih n => by
  cases n with
  | zero => exact .cons a r
  | succ n => exact ih n
theorem RepAll.set {h : Heap} {μ : MHeap} {v : Value} {d : MV} (q : Rep h μ v d) {vs : List Value} {ds : List MV} (x : RepAll h μ vs ds) : ∀ n, RepAll h μ (vs.set n v) (ds.set n d) := x.ind (P := fun vs ds => ∀ n, RepAll h μ (vs.set n v) (ds.set n d)) (fun n => .nil) fun a r ih n => by
  cases n with
  | zero => exact .cons q r
  | succ n => exact .cons a (ih n)
inductive PairsRep {K : Type} (h : Heap) (μ : MHeap) : List (K × Value) → List (K × MV) → Prop
  | nil : PairsRep h μ [] []
  | cons {k : K} {v : Value} {d : MV} {kvs : List (K × Value)} {es : List (K × MV)} : Rep h μ v d → PairsRep h μ kvs es → PairsRep h μ ((k, v) :: kvs) ((k, d) :: es)
theorem PairsRep.monoS {K : Type} {h h' : Heap} {μ μ' : MHeap} (k : KeepS h μ h' μ') {kvs : List (K × Value)} {es : List (K × MV)} (x : PairsRep h μ kvs es) : PairsRep h' μ' kvs es := by
  induction x with
  | nil => exact .nil
  | cons r _ ih => exact .cons (r.monoS k) ih
theorem PairsRep.mono {K : Type} {h h' : Heap} {μ μ' : MHeap} (k : Keep h μ h' μ') {kvs : List (K × Value)} {es : List (K × MV)} (x : PairsRep h μ kvs es) : PairsRep h' μ' kvs es := x.monoS k.seq
inductive KeysRep (h : Heap) (μ : MHeap) : List (List MV × Addr × Value) → List (List MV × MV) → Prop
  | nil : KeysRep h μ [] []
  | cons {k : List MV} {a : Addr} {v : Value} {d : MV} {xs : List (List MV × Addr × Value)} {es : List (List MV × MV)} :
      Rep h μ (.ref a) (.tup k) → Rep h μ v d → KeysRep h μ xs es → KeysRep h μ ((k, a, v) :: xs) ((k, d) :: es)
theorem KeysRep.monoS {h h' : Heap} {μ μ' : MHeap} (k : KeepS h μ h' μ') {xs : List (List MV × Addr × Value)} {es : List (List MV × MV)} (x : KeysRep h μ xs es) : KeysRep h' μ' xs es := by
  induction x with
  | nil => exact .nil
  | cons a r _ ih => exact .cons (a.monoS k) (r.monoS k) ih
theorem KeysRep.mono {h h' : Heap} {μ μ' : MHeap} (k : Keep h μ h' μ') {xs : List (List MV × Addr × Value)} {es : List (List MV × MV)} (x : KeysRep h μ xs es) : KeysRep h' μ' xs es := x.monoS k.seq
inductive AttrRep (w : World) (h : Heap) (μ : MHeap) : List DictEntry → List (Str × MV) → Prop
  | nil : AttrRep w h μ [] []
  | cons {e : DictEntry} {x : Str} {t : Tok} {d : MV} {les : List DictEntry} {es : List (Str × MV)} : e.key = .str x t → Rep h μ e.val d → AttrRep w h μ les es → AttrRep w h μ (e :: les) ((x, d) :: es)
theorem AttrRep.monoS {w : World} {h h' : Heap} {μ μ' : MHeap} (k : KeepS h μ h' μ') {les : List DictEntry} {es : List (Str × MV)} (x : AttrRep w h μ les es) : AttrRep w h' μ' les es := by
  induction x with
  | nil => exact .nil
  | cons e r _ ih => exact .cons e (r.monoS k) ih
theorem AttrRep.mono {w : World} {h h' : Heap} {μ μ' : MHeap} (k : Keep h μ h' μ') {les : List DictEntry} {es : List (Str × MV)} (x : AttrRep w h μ les es) : AttrRep w h' μ' les es := x.monoS k.seq
end Mine
namespace Mine
mutual
noncomputable def MV.py : MV → PyData
  | .none => .none
  | .bool b => .bool b
  | .int i => .int i
  | .tup l => .tuple (pys l)
  | .flist l => .list (pys l)
  | .ref _ => .none
noncomputable def pys : List MV → List PyData
  | [] => []
  | d :: r => d.py :: pys r
end
mutual
noncomputable def MV.plain : MV → Bool
  | .int _ => true
  | .tup l => plains l
  | .flist l => plains l
  | _ => false
noncomputable def plains : List MV → Bool
  | [] => true
  | d :: r => d.plain && plains r
end
mutual
noncomputable def MV.dep : MV → Nat
  | .tup l => deps l + 1
  | .flist l => deps l + 1
  | _ => 0
noncomputable def deps : List MV → Nat
  | [] => 0
  | d :: r => max d.dep (deps r)
end
theorem plains_all : ∀ {l : List MV}, plains l = true ↔ ∀ d ∈ l, d.plain = true
  | [] => by simp [plains]
  | d :: r => by simp [plains, plains_all (l := r)]
theorem Rep.readsB {h : Heap} {μ : MHeap} : (∀ {v d}, Rep h μ v d → d.plain = true → ∃ as, Reads h v d.py as) ∧ ∀ {vs ds}, RepAll h μ vs ds → plains ds = true → ∃ as, ReadsAll h vs (pys ds) as := by
  refine Rep.both (P := fun v d => d.plain = true → ∃ as, Reads h v d.py as) (R := fun vs ds => plains ds = true → ∃ as, ReadsAll h vs (pys ds) as) ?_ ?_ (fun i t _ => ⟨_, .int i t⟩) ?_ (fun {a vs ds} m t _ ih e => ?_) (fun {a vs n ds} m t _ ih e => ?_) (fun _ => ⟨_, .nil⟩) fun _ _ i1 i2 e => ?_
  · intro e; simp [MV.plain] at e
  · intro b e; simp [MV.plain] at e
  · intro b e; simp [MV.plain] at e
  · obtain ⟨as, x⟩ := ih (by rw [MV.plain] at e; exact e)
    exact ⟨_, by rw [MV.py]; exact .tuple t rfl rfl x⟩
  · obtain ⟨as, x⟩ := ih (by rw [MV.plain] at e; exact e)
    exact ⟨_, by rw [MV.py]; exact .list t rfl rfl x⟩
  · rw [plains, Bool.and_eq_true] at e
    obtain ⟨as, p⟩ := i1 e.1
    obtain ⟨bs, q⟩ := i2 e.2
    exact ⟨_, .cons p q⟩
theorem Rep.reads {h : Heap} {μ : MHeap} {v : Value} {d : MV} (x : Rep h μ v d) (e : d.plain = true) : ∃ as, Reads h v d.py as := Rep.readsB.1 x e
theorem RepAll.reads {h : Heap} {μ : MHeap} {vs : List Value} {ds : List MV} (x : RepAll h μ vs ds) (e : plains ds = true) : ∃ as, ReadsAll h vs (pys ds) as := Rep.readsB.2 x e
mutual
theorem py_eqv : ∀ {a b : MV}, a.plain = true → b.plain = true → (PyData.eqv a.py b.py = true ↔ a = b)
  | .int i, .int j, _, _ => by simp [MV.py, PyData.eqv]
  | .int _, .tup _, _, _ => by simp [MV.py, PyData.eqv]
  | .int _, .flist _, _, _ => by simp [MV.py, PyData.eqv]
  | .tup _, .int _, _, _ => by simp [MV.py, PyData.eqv]
  | .flist _, .int _, _, _ => by simp [MV.py, PyData.eqv]
  | .tup _, .flist _, _, _ => by simp [MV.py, PyData.eqv]
  | .flist _, .tup _, _, _ => by simp [MV.py, PyData.eqv]
  | .tup l, .tup m, p, q => by
    have := py_eqvAll (a := l) (b := m) (by simpa [MV.plain] using p) (by simpa [MV.plain] using q)
    simpa [MV.py, PyData.eqv] using this
  | .flist l, .flist m, p, q => by
    have := py_eqvAll (a := l) (b := m) (by simpa [MV.plain] using p) (by simpa [MV.plain] using q)
    simpa [MV.py, PyData.eqv] using this
theorem py_eqvAll : ∀ {a b : List MV}, plains a = true → plains b = true → (PyData.eqvAll (pys a) (pys b) = true ↔ a = b)
  | [], [], _, _ => by simp [pys, PyData.eqvAll]
  | [], _ :: _, _, _ => by simp [pys, PyData.eqvAll]
  | _ :: _, [], _, _ => by simp [pys, PyData.eqvAll]
  | x :: l, y :: m, p, q => by
    simp only [plains, Bool.and_eq_true] at p q
    simp only [pys, PyData.eqvAll, Bool.and_eq_true, py_eqv p.1 q.1, py_eqvAll p.2 q.2, List.cons.injEq]
end
open Classical in
theorem py_eqv_decide {a b : MV} (p : a.plain = true) (q : b.plain = true) : PyData.eqv a.py b.py = decide (a = b) := by
  rw [Bool.eq_iff_iff, py_eqv p q, decide_eq_true_eq]
mutual
theorem py_lay : ∀ {a : MV}, a.plain = true → a.py.canLay0 = true
  | .int _, _ => rfl
  | .tup l, p => by simpa [MV.py, PyData.canLay0] using pys_lay (l := l) (by simpa [MV.plain] using p)
  | .flist l, p => by simpa [MV.py, PyData.canLay0] using pys_lay (l := l) (by simpa [MV.plain] using p)
theorem pys_lay : ∀ {l : List MV}, plains l = true → PyData.canLayAll0 (pys l) = true
  | [], _ => rfl
  | x :: l, p => by
    simp only [plains, Bool.and_eq_true] at p
    simp only [pys, PyData.canLayAll0, py_lay p.1, pys_lay p.2, Bool.and_self]
end
mutual
theorem py_depth : ∀ a : MV, a.py.depth = a.dep
  | .none | .bool _ | .int _ | .ref _ => rfl
  | .tup l => by simp [MV.py, PyData.depth, MV.dep, pys_depth l]
  | .flist l => by simp [MV.py, PyData.depth, MV.dep, pys_depth l]
theorem pys_depth : ∀ l : List MV, PyData.depthAll (pys l) = deps l
  | [] => rfl
  | x :: l => by simp [pys, PyData.depthAll, deps, py_depth x, pys_depth l]
end
mutual
inductive TRep (h : Heap) : Nat → Value → MV → Prop
  | int (n : Nat) (i : Int) (t : Tok) : TRep h n (.int i t) (.int i)
  | tup {n : Nat} {a : Addr} {vs : List Value} {ds : List MV} : h.get? a = some (tupObj vs) → TRepAll h n vs ds → TRep h (n + 1) (.ref a) (.tup ds)
inductive TRepAll (h : Heap) : Nat → List Value → List MV → Prop
  | nil (n : Nat) : TRepAll h n [] []
  | cons {n : Nat} {v : Value} {d : MV} {vs : List Value} {ds : List MV} : TRep h n v d → TRepAll h n vs ds → TRepAll h n (v :: vs) (d :: ds)
end
theorem TRep.both {h : Heap} {P : Nat → Value → MV → Prop} {R : Nat → List Value → List MV → Prop} (h1 : ∀ n i t, P n (.int i t) (.int i)) (h2 : ∀ {n a vs ds}, h.get? a = some (tupObj vs) → TRepAll h n vs ds → R n vs ds → P (n + 1) (.ref a) (.tup ds))
    (h3 : ∀ n, R n [] []) (h4 : ∀ {n v d vs ds}, TRep h n v d → TRepAll h n vs ds → P n v d → R n vs ds → R n (v :: vs) (d :: ds)) : (∀ {n v d}, TRep h n v d → P n v d) ∧ ∀ {n vs ds}, TRepAll h n vs ds → R n vs ds :=
  ⟨fun x => TRep.rec (motive_1 := fun n v d _ => P n v d) (motive_2 := fun n vs ds _ => R n vs ds) h1 h2 h3 h4 x, fun x => TRepAll.rec (motive_1 := fun n v d _ => P n v d) (motive_2 := fun n vs ds _ => R n vs ds) h1 h2 h3 h4 x⟩
theorem TRep.injB {h : Heap} : (∀ {n v d}, TRep h n v d → ∀ m d', TRep h m v d' → d = d') ∧ ∀ {n vs ds}, TRepAll h n vs ds → ∀ m ds', TRepAll h m vs ds' → ds = ds' := by
  refine TRep.both (P := fun n v d => ∀ m d', TRep h m v d' → d = d') (R := fun n vs ds => ∀ m ds', TRepAll h m vs ds' → ds = ds') (fun n i t m d' y => ?_) (fun {n a vs ds} e r ih m d' y => ?_) (fun n m d' y => ?_) fun _ _ i1 i2 m d' y => ?_
  · cases y; rfl
  · cases y with
    | tup e' r' =>
      rw [e] at e'
      have q := Option.some.inj e'
      simp only [Obj.mk.injEq, true_and, and_true, Data.seq.injEq, Array.mk.injEq] at q
      subst q
      exact congrArg MV.tup (ih _ _ r')
  · cases y; rfl
  · cases y with
    | cons x' r' => rw [i1 _ _ x', i2 _ _ r']
theorem TRep.inj {h : Heap} {n m : Nat} {v : Value} {d d' : MV} (x : TRep h n v d) (y : TRep h m v d') : d = d' := TRep.injB.1 x _ _ y
theorem TRep.keepsB {h h' : Heap} (k : ∀ a vs, h.get? a = some (tupObj vs) → h'.get? a = some (tupObj vs)) : (∀ {n v d}, TRep h n v d → TRep h' n v d) ∧ ∀ {n vs ds}, TRepAll h n vs ds → TRepAll h' n vs ds :=
  TRep.both .int (fun e _ r => .tup (k _ _ e) r) .nil fun _ _ x r => .cons x r
theorem TRep.keeps {h h' : Heap} (k : ∀ a vs, h.get? a = some (tupObj vs) → h'.get? a = some (tupObj vs)) {n : Nat} {v : Value} {d : MV} (x : TRep h n v d) : TRep h' n v d := (TRep.keepsB k).1 x
mutual
/-- made of ints and tuples alone, at most n deep -/
noncomputable def MV.key : Nat → MV → Bool
  | _, .int _ => true
  | n + 1, .tup l => keys n l
  | _, _ => false
noncomputable def keys : Nat → List MV → Bool
  | _, [] => true
  | n, d :: r => d.key n && keys n r
end
theorem Rep.keyB {h : Heap} {μ : MHeap} : (∀ {v d}, Rep h μ v d → ∀ n, d.key n = true → TRep h n v d) ∧ ∀ {vs ds}, RepAll h μ vs ds → ∀ n, keys n ds = true → TRepAll h n vs ds := by
  refine Rep.both (P := fun v d => ∀ n, d.key n = true → TRep h n v d) (R := fun vs ds => ∀ n, keys n ds = true → TRepAll h n vs ds) ?_ ?_ (fun i t n _ => .int n i t) ?_ (fun _ t _ ih n e => ?_) (fun _ _ _ _ n e => ?_) (fun n _ => .nil n) fun _ _ i1 i2 n e => ?_
  · intro n e; cases n <;> simp [MV.key] at e
  · intro b n e; cases n <;> simp [MV.key] at e
  · intro a n e; cases n <;> simp [MV.key] at e
  · cases n with
    | zero => simp [MV.key] at e
    | succ n => exact .tup t (ih n (by rw [MV.key] at e; exact e))
  · cases n <;> simp [MV.key] at e
  · simp only [keys, Bool.and_eq_true] at e
    exact .cons (i1 n e.1) (i2 n e.2)
theorem Rep.key {h : Heap} {μ : MHeap} {n : Nat} {v : Value} {d : MV} (x : Rep h μ v d) (e : d.key n = true) : TRep h n v d := Rep.keyB.1 x n e
mutual
theorem key_plain : ∀ {n : Nat} {d : MV}, d.key n = true → d.plain = true
  | n, .int _, _ => rfl
  | n + 1, .tup l, e => by simpa [MV.plain] using keys_plain (n := n) (l := l) (by simpa [MV.key] using e)
  | 0, .tup l, e => by simp [MV.key] at e
  | n, .none, e => by cases n <;> simp [MV.key] at e
  | n, .bool _, e => by cases n <;> simp [MV.key] at e
  | n, .ref _, e => by cases n <;> simp [MV.key] at e
  | n, .flist _, e => by cases n <;> simp [MV.key] at e
theorem keys_plain : ∀ {n : Nat} {l : List MV}, keys n l = true → plains l = true
  | n, [], _ => rfl
  | n, x :: l, e => by
    simp only [keys, Bool.and_eq_true] at e
    simp only [plains, key_plain e.1, keys_plain e.2, Bool.and_self]
end
theorem TRep.keyB {h : Heap} : (∀ {n v d}, TRep h n v d → d.key n = true) ∧ ∀ {n vs ds}, TRepAll h n vs ds → keys n ds = true :=
  TRep.both (P := fun n v d => d.key n = true) (R := fun n vs ds => keys n ds = true) (fun n i t => by cases n <;> rfl) (fun _ _ ih => by rw [MV.key]; exact ih) (fun _ => rfl) fun _ _ i1 i2 => by rw [keys, i1, i2]; rfl
theorem TRep.key {h : Heap} {n : Nat} {v : Value} {d : MV} (x : TRep h n v d) : d.key n = true := TRep.keyB.1 x
theorem TRep.readsB {h : Heap} : (∀ {n v d}, TRep h n v d → ∃ as, Reads h v d.py as) ∧ ∀ {n vs ds}, TRepAll h n vs ds → ∃ as, ReadsAll h vs (pys ds) as :=
  TRep.both (P := fun n v d => ∃ as, Reads h v d.py as) (R := fun n vs ds => ∃ as, ReadsAll h vs (pys ds) as) (fun _ i t => ⟨_, .int i t⟩) (fun t _ ih => ih.elim fun as x => ⟨as, by rw [MV.py]; exact .tuple t rfl rfl x⟩) (fun _ => ⟨_, .nil⟩) fun _ _ i1 i2 => i1.elim fun _ p => i2.elim fun _ q => ⟨_, .cons p q⟩
theorem TRep.reads {h : Heap} {n : Nat} {v : Value} {d : MV} (x : TRep h n v d) : ∃ as, Reads h v d.py as := TRep.readsB.1 x
theorem TRep.depB {h : Heap} : (∀ {n v d}, TRep h n v d → d.dep ≤ n) ∧ ∀ {n vs ds}, TRepAll h n vs ds → deps ds ≤ n :=
  TRep.both (P := fun n v d => d.dep ≤ n) (R := fun n vs ds => deps ds ≤ n) (fun _ _ _ => Nat.zero_le _) (fun _ _ ih => Nat.succ_le_succ ih) (fun _ => Nat.zero_le _) fun _ _ i1 i2 => Nat.max_le.mpr ⟨i1, i2⟩
theorem TRep.dep {h : Heap} {n : Nat} {v : Value} {d : MV} (x : TRep h n v d) : d.dep ≤ n := TRep.depB.1 x
mutual
noncomputable def MV.hash : MV → Int
  | .int i => hashInt i
  | .tup l => reduceHash (Builtin.Tuple.tupleHashOf (hashes l))
  | _ => 0
noncomputable def hashes : List MV → List Int
  | [] => []
  | d :: r => d.hash :: hashes r
end
mutual
noncomputable def MV.toks : MV → Nat
  | .int _ => 1
  | .tup l => toksAll l + 1
  | _ => 0
noncomputable def toksAll : List MV → Nat
  | [] => 0
  | d :: r => d.toks + toksAll r
end
section
variable {prog : Program} {w : World} {E : Value → Shared → Prop}
theorem pyHash_B {h0 : Heap} : (∀ {n v d}, TRep h0 n v d → ∀ (A : Around) (s : Shared) (Q : Int → Shared → Prop), s.heap = h0 → A.units + n < cLine → Q d.hash { s with toks := s.toks + d.toks } → wpAny (model prog w) A (pyHash v) Q E s) ∧
    ∀ {n vs ds}, TRepAll h0 n vs ds → ∀ (A : Around) (s : Shared) (b : Array Int) (Q : Array Int → Shared → Prop), s.heap = h0 → A.units + n < cLine → (∀ b', b'.toList = b.toList ++ hashes ds → Q b' { s with toks := s.toks + toksAll ds }) →
      wpAny (model prog w) A (forIn vs b fun x r => do let h ← pyHash x; pure PUnit.unit; pure (ForInStep.yield (r.push h))) Q E s := by
  refine TRep.both (P := fun n v d => ∀ (A : Around) (s : Shared) (Q : Int → Shared → Prop), s.heap = h0 → A.units + n < cLine → Q d.hash { s with toks := s.toks + d.toks } → wpAny (model prog w) A (pyHash v) Q E s)
    (R := fun n vs ds => ∀ (A : Around) (s : Shared) (b : Array Int) (Q : Array Int → Shared → Prop), s.heap = h0 → A.units + n < cLine → (∀ b', b'.toList = b.toList ++ hashes ds → Q b' { s with toks := s.toks + toksAll ds }) →
      wpAny (model prog w) A (forIn vs b fun x r => do let h ← pyHash x; pure PUnit.unit; pure (ForInStep.yield (r.push h))) Q E s)
    (fun n i t A s Q _ _ h => wpAny_pyHash_int (by rw [MV.hash, MV.toks] at h; exact h)) (fun {n a vs ds} t _ ih A s Q hs hu h => ?_) (fun n A s b Q _ _ h => wpAny_pure (h b (List.append_nil _).symm)) fun {n v d vs ds} _ _ i1 i2 A s b Q hs hu h => ?_
  · subst hs
    have hT : s.TypeIs (.ref a) "tuple" := ⟨_, t, rfl⟩
    refine pyHash_slot (T := "tuple") hT F.slot_tuple_hash F.entry_tuple_hash (F.args_tuple_hash_1 _) (beq_builtin_none _) (.inr (by lia)) ?_
    show wpAny _ _ (Builtin.Tuple.tupleItemsOf (.ref a) >>= _) _ _ s
    refine wpAny_bind (wpAny_tupleItemsOf t rfl (wpAny_bind ?_))
    rw [← Array.forIn_toList]
    refine ih A.in1 _ #[] _ rfl (by simp only [Around.in1_units]; lia) fun b hb => ?_
    show wpAny _ _ (retInt (Builtin.Tuple.tupleHashOf b.toList)) _ _ _
    rw [hb]
    refine wpAny_bind (wpAny_mkInt (wpAny_pure ⟨_, _, rfl, ?_⟩))
    simpa [MV.hash, MV.toks, Nat.add_assoc] using h
  · rw [List.forIn_cons]
    refine wpAny_bind (wpAny_bind (i1 A s _ hs hu ?_))
    refine wpAny_bind (wpAny_pure (wpAny_pure ?_))
    refine i2 A _ (b.push _) _ hs hu fun b' hb => ?_
    have := h b' (by simp [hb, hashes])
    simpa [toksAll, Nat.add_assoc] using this
theorem pyHash_T {n : Nat} {v : Value} {d : MV} {A : Around} {s : Shared} {Q : Int → Shared → Prop} (x : TRep s.heap n v d) (hu : A.units + n < cLine) (h : Q d.hash { s with toks := s.toks + d.toks }) : wpAny (model prog w) A (pyHash v) Q E s := pyHash_B.1 x A s Q rfl hu h
theorem quiet_B {h0 : Heap} : (∀ {n v d}, TRep h0 n v d → ∀ (m : Nat) (A : Around) (s : Shared) (Q : Bool → Shared → Prop), s.heap = h0 → n ≤ m → Q true s → wpAny (model prog w) A (eqIsQuiet m v) Q E s) ∧
    ∀ {n vs ds}, TRepAll h0 n vs ds → ∀ (m : Nat) (A : Around) (s : Shared) (Q : Option Bool × PUnit → Shared → Prop), s.heap = h0 → n ≤ m → Q (none, ⟨⟩) s →
      wpAny (model prog w) A (forIn vs (none, PUnit.unit) fun y _ => do
        let __do_lift ← eqIsQuiet m y
        if (!__do_lift) = true then pure (ForInStep.done (some false, PUnit.unit)) else do pure PUnit.unit; pure (ForInStep.yield (none, PUnit.unit))) Q E s := by
  refine TRep.both (P := fun n v d => ∀ (m : Nat) (A : Around) (s : Shared) (Q : Bool → Shared → Prop), s.heap = h0 → n ≤ m → Q true s → wpAny (model prog w) A (eqIsQuiet m v) Q E s)
    (R := fun n vs ds => ∀ (m : Nat) (A : Around) (s : Shared) (Q : Option Bool × PUnit → Shared → Prop), s.heap = h0 → n ≤ m → Q (none, ⟨⟩) s →
      wpAny (model prog w) A (forIn vs (none, PUnit.unit) fun y _ => do
        let __do_lift ← eqIsQuiet m y
        if (!__do_lift) = true then pure (ForInStep.done (some false, PUnit.unit)) else do pure PUnit.unit; pure (ForInStep.yield (none, PUnit.unit))) Q E s)
    (fun n i t m A s Q _ _ h => by rw [eqIsQuiet_byValue m rfl]; exact wpAny_pure h) (fun {n a vs ds} t _ ih m A s Q hs hm h => ?_) (fun n m A s Q _ _ h => wpAny_pure h) fun {n v d vs ds} _ _ i1 i2 m A s Q hs hm h => ?_
  · subst hs
    cases m with
    | zero => exact absurd hm (Nat.not_succ_le_zero _)
    | succ m =>
    have hT : s.TypeIs (.ref a) "tuple" := ⟨_, t, rfl⟩
    unfold eqIsQuiet
    refine wpAny_bind (wpAny_specialOf hT F.slot_tuple_eq.lookup ?_)
    show wpAny _ _ (isInstance (.ref a) (.type "tuple") >>= _) _ _ s
    refine wpAny_bind (wpAny_isInstance hT isSubtype_tuple_tuple ?_)
    simp only [Bool.not_true, Bool.false_eq_true, if_false]
    refine wpAny_bind (wpAny_seqItems t rfl ?_)
    refine wpAny_bind ?_
    show wpAny _ _ (forIn (vs.toArray : Array Value) _ _) _ _ s
    rw [← Array.forIn_toList]
    exact ih m _ _ _ rfl (Nat.le_of_succ_le_succ hm) (wpAny_pure h)
  · rw [List.forIn_cons]
    refine wpAny_bind (wpAny_bind (i1 m A s _ hs hm ?_))
    simp only [Bool.not_true, Bool.false_eq_true, if_false]
    refine wpAny_bind (wpAny_pure (wpAny_pure ?_))
    exact i2 m A s Q hs hm h
theorem eqIsQuiet_T {n : Nat} {v : Value} {d : MV} {A : Around} {s : Shared} {m : Nat} {Q : Bool → Shared → Prop} (x : TRep s.heap n v d) (hm : n ≤ m) (h : Q true s) : wpAny (model prog w) A (eqIsQuiet m v) Q E s := quiet_B.1 x m A s Q rfl hm h
theorem eqBool_T {n m : Nat} {v u : Value} {d e : MV} {A : Around} {s : Shared} {Q : Bool → Shared → Prop} (x : TRep s.heap n v d) (y : TRep s.heap m u e) (hu : A.units + n < cLine)
    (h : Q (PyData.eqv d.py e.py) s) : wpAny (model prog w) A (eqBool v u) Q E s := by
  obtain ⟨as, p⟩ := x.reads
  obtain ⟨bs, q⟩ := y.reads
  refine SeqAt.eqBoolOverData prog w A E s v u d.py e.py as bs Q p q (py_lay (key_plain x.key)) (py_lay (key_plain y.key)) ?_ h
  rw [py_depth, py_depth]
  have := x.dep
  lia
end
theorem sameBut_tup {d : Addr} {o : Obj} {es ep} {h h' : Heap} (ho : h.get? d = some o) (hd : o.data = .dict es ep) (hs : Heap.SameBut d h h') :
    ∀ a vs, h.get? a = some (tupObj vs) → h'.get? a = some (tupObj vs) := fun a vs e => by
  refine (hs.2 a fun q => ?_).trans e
  subst q
  rw [e] at ho
  cases ho
  cases hd
open Classical in
noncomputable def mvKind (prog : Program) (w : World) : HeapKind prog w (List MV) where
  is := fun h ks a => TRep h 6 (.ref a) (.tup ks)
  hash := fun ks => (MV.tup ks).hash
  draws := fun ks => (MV.tup ks).toks
  room := fun A => A.units + 10 < cLine
  inj := fun hx hy => by have := hx.inj hy; simpa using this
  keeps := fun x ho hd hs => x.keeps (sameBut_tup ho hd hs)
  pyHash := fun hu hk h => pyHash_T hk (by lia) h
  eqBool := fun {A E s x y a b Q} hu hx hy h => eqBool_T hx hy (by lia) (by
    rw [py_eqv_decide (key_plain hx.key) (key_plain hy.key)]
    simpa using h)
  quiet := fun hk h => eqIsQuiet_T hk (by lia) h
end Mine
namespace Mine
structure Cx (prog : Program) (w : World) where
  B : Heap
  K : Frag
  p : Program
  loose : List Str
  mg : Str → Option Value
  mb : Str → Option Value
  g0 : Array GenState
  os0 : OsState
  X : K.In B
  T : TopRead p loose mg mb B
  low : ∃ b o, B.get? b = some o ∧ sysModules < b
open Classical in
noncomputable def MuRep (prog : Program) (w : World) (h : Heap) (μ : MHeap) (a : Addr) : MObj → Prop
  | .list vs => ∃ its n, h.get? a = some (seqObj "list" (List.toArray its) n) ∧ RepAll h μ its vs
  | .idict es => ∃ kvs, h.DictOf (intKind prog w) a kvs ∧ PairsRep h μ kvs es
  | .tdict es => ∃ o tes ep xs, h.get? a = some o ∧ o.ExactDict ∧ o.data = .dict tes ep ∧ tes.toList = xs.map (entryOfKey (mvKind prog w)) ∧ (xs.map (·.1)).Nodup ∧ KeysRep h μ xs es ∧ ∀ x ∈ xs, keys 5 x.1 = true
  | .pin its vs => ∃ n, h.get? a = some (seqObj "list" (List.toArray its) n) ∧ RepAll h μ its vs
  | .ipin kvs ep es => h.DictAt (intKind prog w) a kvs ep ∧ PairsRep h μ kvs es
  | .inst C d => h.get? a = some (instObj C d)
  | .attrs es => ∃ les n, h.get? a = some (dictOf les n) ∧ AttrRep w h μ les es
theorem MuRep.monoS {prog : Program} {w : World} {h h' : Heap} {μ μ' : MHeap} {a : Addr} {mo : MObj} (k : KeepS h μ h' μ') (ha : ∀ o, h.get? a = some o → h'.get? a = some o) (x : MuRep prog w h μ a mo) : MuRep prog w h' μ' a mo := by
  cases mo with
  | list vs => obtain ⟨its, n, e, r⟩ := x; exact ⟨its, n, ha _ e, r.monoS k⟩
  | idict es => obtain ⟨kvs, ⟨o, es', ep, e, r⟩, q⟩ := x; exact ⟨kvs, ⟨o, es', ep, ha _ e, r⟩, q.monoS k⟩
  | tdict es => obtain ⟨o, tes, ep, xs, e, r1, r2, r3, r4, q, r5⟩ := x; exact ⟨o, tes, ep, xs, ha _ e, r1, r2, r3, r4, q.monoS k, r5⟩
  | pin its vs => obtain ⟨n, e, r⟩ := x; exact ⟨n, ha _ e, r.monoS k⟩
  | ipin kvs ep es => obtain ⟨⟨o, es', e, r⟩, q⟩ := x; exact ⟨⟨o, es', ha _ e, r⟩, q.monoS k⟩
  | inst C d => exact ha _ x
  | attrs es => obtain ⟨les, n, e, r⟩ := x; exact ⟨les, n, ha _ e, r.monoS k⟩
theorem MuRep.mono {prog : Program} {w : World} {h h' : Heap} {μ μ' : MHeap} {a : Addr} {mo : MObj} (k : Keep h μ h' μ') (ha : ∀ o, h.get? a = some o → h'.get? a = some o) (x : MuRep prog w h μ a mo) : MuRep prog w h' μ' a mo := x.monoS k.seq ha
theorem MuRep.there {prog : Program} {w : World} {h : Heap} {μ : MHeap} {a : Addr} {mo : MObj} (x : MuRep prog w h μ a mo) : ∃ o, h.get? a = some o := by
  cases mo with
  | list vs => obtain ⟨its, n, e, r⟩ := x; exact ⟨_, e⟩
  | idict es => obtain ⟨kvs, ⟨o, es', ep, e, r⟩, q⟩ := x; exact ⟨_, e⟩
  | tdict es => obtain ⟨o, tes, ep, xs, e, r1, r2, r3, r4, q, r5⟩ := x; exact ⟨_, e⟩
  | pin its vs => obtain ⟨n, e, r⟩ := x; exact ⟨_, e⟩
  | ipin kvs ep es => obtain ⟨⟨o, es', e, r⟩, q⟩ := x; exact ⟨_, e⟩
  | inst C d => exact ⟨_, x⟩
  | attrs es => obtain ⟨les, n, e, r⟩ := x; exact ⟨_, e⟩
noncomputable def Evo0 (h : Heap) (μ : MHeap) (h' : Heap) (μ' : MHeap) : Prop := ∀ b o, h.get? b = some o → fixed (μ b) → h'.get? b = some o ∧ μ' b = μ b
theorem fixed_none {μ : MHeap} {b : Addr} (h : μ b = none) : fixed (μ b) := by rw [h]; trivial
theorem Evo0.refl (h : Heap) (μ : MHeap) : Evo0 h μ h μ := fun _ _ e _ => ⟨e, rfl⟩
theorem Evo0.trans {h h' h'' : Heap} {μ μ' μ'' : MHeap} (x : Evo0 h μ h' μ') (y : Evo0 h' μ' h'' μ'') : Evo0 h μ h'' μ'' :=
  fun b o e m => let ⟨p, q⟩ := x b o e m; let ⟨p', q'⟩ := y b o p (q ▸ m); ⟨p', q'.trans q⟩
theorem Evo0.out {h h' : Heap} {μ μ' : MHeap} (x : Evo0 h μ h' μ') {b : Addr} {o : Obj} (e : h.get? b = some o) (m : μ b = none) : h'.get? b = some o ∧ μ' b = none :=
  let ⟨p, q⟩ := x b o e (fixed_none m); ⟨p, q.trans m⟩
theorem Evo0.keep {h h' : Heap} {μ μ' : MHeap} (x : Evo0 h μ h' μ') : Keep h μ h' μ' :=
  ⟨fun a o _ _ m e _ => x.out e m, fun a kvs ep es o m e => let ⟨p, q⟩ := x a o e (m.symm ▸ trivial); ⟨p, q.trans m⟩⟩
theorem Evo0.of_keeps {h h' : Heap} {μ : MHeap} (k : ∀ b o, h.get? b = some o → h'.get? b = some o) : Evo0 h μ h' μ := fun b o e m => ⟨k b o e, rfl⟩
section
variable {prog : Program} {w : World}
structure S0 (c : Cx prog w) (μ : MHeap) (s : Shared) : Prop where
  base : ∀ b o, c.B.get? b = some o → s.heap.get? b = some o
  gens : s.gens = c.g0
  os : s.os = c.os0
  mu : ∀ a mo, μ a = some mo → MuRep prog w s.heap μ a mo
  muB : ∀ a o, c.B.get? a = some o → μ a = none
  sys : μ sysModules = none
theorem S0.notSys {c : Cx prog w} {μ : MHeap} {s : Shared} (x : S0 c μ s) {a : Addr} {mo : MObj} (m : μ a = some mo) : (a == sysModules) = false := by
  have h1 := x.sys
  simp only [beq_eq_false_iff_ne, ne_eq]
  rintro rfl
  rw [m] at h1; cases h1
theorem S0.lt {c : Cx prog w} {μ : MHeap} {s : Shared} (x : S0 c μ s) {a : Addr} {mo : MObj} (m : μ a = some mo) : a < s.heap.objs.size :=
  let ⟨_, e⟩ := (x.mu a mo m).there; Heap.lt_size e
theorem S0.fresh {c : Cx prog w} {μ : MHeap} {s : Shared} (x : S0 c μ s) {a : Addr} (h : s.heap.objs.size ≤ a) : μ a = none := by
  cases m : μ a with
  | none => rfl
  | some mo => exact absurd (x.lt m) (Nat.not_lt.mpr h)
theorem S0.newB {c : Cx prog w} {μ : MHeap} {s : Shared} (x : S0 c μ s) {a : Addr} (h : s.heap.objs.size ≤ a) : c.B.get? a = none := by
  cases m : c.B.get? a with
  | none => rfl
  | some o => exact absurd (Heap.lt_size (x.base a o m)) (Nat.not_lt.mpr h)
theorem S0.newSys {c : Cx prog w} {μ : MHeap} {s : Shared} (x : S0 c μ s) {a : Addr} (h : s.heap.objs.size ≤ a) : sysModules ≠ a := by
  refine el2_2 (c.low) fun b o e l => ?_
  have := Heap.lt_size (x.base b o e)
  exact Nat.ne_of_lt (Nat.lt_of_lt_of_le (Nat.lt_trans l this) h)
theorem S0.keeps {c : Cx prog w} {μ : MHeap} {s : Shared} (x : S0 c μ s) {h' : Heap} {t : Nat} (k : ∀ b o, s.heap.get? b = some o → h'.get? b = some o) : S0 c μ { s with heap := h', toks := t } where
  base := fun b o e => k b o (x.base b o e)
  gens := x.gens
  os := x.os
  mu := fun a mo m => (x.mu a mo m).mono (Evo0.of_keeps k).keep fun o e => k a o e
  muB := x.muB
  sys := x.sys
theorem S0.tok {c : Cx prog w} {μ : MHeap} {s : Shared} (x : S0 c μ s) (t : Nat) : S0 c μ { s with toks := t } := ⟨x.base, x.gens, x.os, x.mu, x.muB, x.sys⟩
theorem keep_new {h h' : Heap} {μ : MHeap} {a : Addr} (mo : MObj) (ha : h.get? a = none) (k : ∀ b o, h.get? b = some o → h'.get? b = some o) : Evo0 h μ h' (upd μ a mo) := fun b o e m =>
  ⟨k b o e, by rw [upd_ne]; rintro rfl; rw [ha] at e; cases e⟩
theorem S0.new {c : Cx prog w} {μ : MHeap} {s : Shared} (x : S0 c μ s) {h' : Heap} {t : Nat} {a : Addr} {mo : MObj} (ha : s.heap.objs.size ≤ a) (k : ∀ b o, s.heap.get? b = some o → h'.get? b = some o)
    (hm : MuRep prog w h' (upd μ a mo) a mo) : S0 c (upd μ a mo) { s with heap := h', toks := t } where
  base := fun b o e => k b o (x.base b o e)
  gens := x.gens
  os := x.os
  mu := fun b mb m => by
    by_cases q : b = a
    · subst q; rw [upd_self] at m; cases m; exact hm
    · rw [upd_ne _ _ q] at m
      exact (x.mu b mb m).mono (keep_new mo (Heap.get?_none_of_le ha) k).keep fun o e => k b o e
  muB := fun b o e => by
    rw [upd_ne]
    · exact x.muB b o e
    · rintro rfl; rw [x.newB ha] at e; cases e
  sys := by rw [upd_ne _ _ (x.newSys ha)]; exact x.sys
theorem evo_set {h h' : Heap} {μ : MHeap} {a : Addr} {mo : MObj} (mo' : MObj) (ha : μ a = some mo) (hf : ¬ fixed (some mo)) (k : ∀ b o, b ≠ a → h.get? b = some o → h'.get? b = some o) : Evo0 h μ h' (upd μ a mo') := fun b o e m => by
  have q : b ≠ a := by rintro rfl; rw [ha] at m; exact hf m
  exact ⟨k b o q e, by rw [upd_ne _ _ q]⟩
theorem S0.set {c : Cx prog w} {μ : MHeap} {s : Shared} (x : S0 c μ s) {h' : Heap} {t : Nat} {a : Addr} {mo mo' : MObj} (ha : μ a = some mo) (hf : ¬ fixed (some mo)) (k : ∀ b o, b ≠ a → s.heap.get? b = some o → h'.get? b = some o)
    (hm : MuRep prog w h' (upd μ a mo') a mo') : S0 c (upd μ a mo') { s with heap := h', toks := t } where
  base := fun b o e => k b o (fun q => by subst q; rw [x.muB b o e] at ha; cases ha) (x.base b o e)
  gens := x.gens
  os := x.os
  mu := fun b mb m => by
    by_cases q : b = a
    · subst q; rw [upd_self] at m; cases m; exact hm
    · rw [upd_ne _ _ q] at m
      exact (x.mu b mb m).mono (evo_set mo' ha hf k).keep fun o e => k b o q e
  muB := fun b o e => by
    rw [upd_ne]
    · exact x.muB b o e
    · rintro rfl; rw [x.muB b o e] at ha; cases ha
  sys := by
    rw [upd_ne]
    · exact x.sys
    · rintro rfl; rw [x.sys] at ha; cases ha
structure Fm where
  env : Env
  sc : List (Str × NameKind)
noncomputable def Fm.Priv (f : Fm) (b : Addr) : Prop := b = f.env.locals ∨ ∃ x, f.sc.lookup x = some .cell ∧ f.env.cells.lookup x = some b
structure FmOk (c : Cx prog w) (f : Fm) : Prop where
  kind : f.env.scope.kind = .function
  look : ∀ x k, f.sc.lookup x = some k → f.env.kindOf x = some k ∨ (k = .free ∧ f.env.kindOf x = some .cell)
  glob : f.env.globals = mainGlobals
  blt : f.env.builtins = builtinsNs
  inj : ∀ x y a, f.env.cells.lookup x = some a → f.env.cells.lookup y = some a → x = y
  has : ∀ x, f.sc.lookup x = some .cell ∨ f.sc.lookup x = some .free → ∃ a, f.env.cells.lookup x = some a
  low : c.B.get? f.env.locals = none
  lowC : ∀ x a, f.sc.lookup x = some .cell → f.env.cells.lookup x = some a → c.B.get? a = none
structure FrS (f : Fm) (σ : St) (s : Shared) : Prop where
  ns : ∃ m, s.heap.Ns f.env.locals m ∧ ∀ x d, f.sc.lookup x = some .local → σ.vars x = some d → ∃ v, m x = some v ∧ Rep s.heap σ.mu v d
  cell : ∀ x a, f.sc.lookup x = some .cell ∨ f.sc.lookup x = some .free → f.env.cells.lookup x = some a → ∃ ov, s.heap.IsCell a ov ∧ ∀ d, σ.vars x = some d → ∃ v, ov = some v ∧ Rep s.heap σ.mu v d
  dom : ∀ x d, σ.vars x = some d → f.sc.lookup x = some .local ∨ f.sc.lookup x = some .cell ∨ f.sc.lookup x = some .free
  muL : σ.mu f.env.locals = none
  muC : ∀ x a, f.sc.lookup x = some .cell ∨ f.sc.lookup x = some .free → f.env.cells.lookup x = some a → σ.mu a = none
structure S (c : Cx prog w) (f : Fm) (σ : St) (s : Shared) : Prop where
  s0 : S0 c σ.mu s
  fr : FrS f σ s
noncomputable def EvoP (P : Addr → Prop) (h : Heap) (μ : MHeap) (h' : Heap) (μ' : MHeap) : Prop := ∀ b o, h.get? b = some o → fixed (μ b) → ¬ P b → h'.get? b = some o ∧ μ' b = μ b
noncomputable abbrev EvoF (f : Fm) (h : Heap) (μ : MHeap) (h' : Heap) (μ' : MHeap) : Prop := EvoP f.Priv h μ h' μ'
theorem EvoF.refl (f : Fm) (h : Heap) (μ : MHeap) : EvoF f h μ h μ := fun _ _ e m _ => ⟨e, rfl⟩
theorem EvoF.trans {f : Fm} {h h' h'' : Heap} {μ μ' μ'' : MHeap} (x : EvoF f h μ h' μ') (y : EvoF f h' μ' h'' μ'') : EvoF f h μ h'' μ'' :=
  fun b o e m n => let ⟨p, q⟩ := x b o e m n; let ⟨p', q'⟩ := y b o p (q ▸ m) n; ⟨p', q'.trans q⟩
theorem EvoF.out {f : Fm} {h h' : Heap} {μ μ' : MHeap} (x : EvoF f h μ h' μ') {b : Addr} {o : Obj} (e : h.get? b = some o) (m : μ b = none) (n : ¬ f.Priv b) : h'.get? b = some o ∧ μ' b = none :=
  let ⟨p, q⟩ := x b o e (fixed_none m) n; ⟨p, q.trans m⟩
theorem Evo0.toF {f : Fm} {h h' : Heap} {μ μ' : MHeap} (x : Evo0 h μ h' μ') : EvoF f h μ h' μ' := fun b o e m _ => x b o e m
theorem FrS.notSeq {f : Fm} {σ : St} {s : Shared} (x : FrS f σ s) {b : Addr} {o : Obj} {vs : Array Value} {n : Nat} (e : s.heap.get? b = some o) (d : o.data = .seq vs n) : ¬ f.Priv b := by
  rintro (rfl | ⟨y, l, q⟩)
  · refine el1_2 (x.ns) fun m inz1 _ => ?_
    refine el3_3 inz1 fun o' es ep e' d' _ => ?_
    rw [e] at e'; cases e'; rw [d] at d'; cases d'
  · refine el1_2 (x.cell y b (.inl l) q) fun ov inz2 _ => ?_
    refine el1_2 inz2 fun o' e' d' => ?_
    rw [e] at e'; cases e'; rw [d] at d'; cases d'
theorem FrS.notMu {f : Fm} {σ : St} {s : Shared} (x : FrS f σ s) {b : Addr} {mo : MObj} (e : σ.mu b = some mo) : ¬ f.Priv b := by
  rintro (rfl | ⟨y, l, q⟩)
  · rw [x.muL] at e; cases e
  · rw [x.muC y b (.inl l) q] at e; cases e
theorem EvoF.keep {f : Fm} {σ : St} {s : Shared} {h' : Heap} {μ' : MHeap} (F : FrS f σ s) (x : EvoF f s.heap σ.mu h' μ') : Keep s.heap σ.mu h' μ' :=
  ⟨fun a o _ _ m e d => x.out e m (F.notSeq e d), fun a kvs ep es o m e => let ⟨p, q⟩ := x a o e (m.symm ▸ trivial) (F.notMu m); ⟨p, q.trans m⟩⟩
theorem FrS.evo {f : Fm} {σ : St} {s s' : Shared} {μ' : MHeap} (F : FrS f σ s) (x : Evo0 s.heap σ.mu s'.heap μ') : FrS f { σ with mu := μ' } s' where
  ns := by
    refine el1_2 (F.ns) fun m inz3 q => ?_
    refine el3_2 inz3 fun o es ep e r => ?_
    exact ⟨m, ⟨o, es, ep, (x.out e F.muL).1, r⟩, fun y d l v => let ⟨u, a, b⟩ := q y d l v; ⟨u, a, b.mono x.keep⟩⟩
  cell := fun y a l q => by
    refine el1_2 (F.cell y a l q) fun ov inz4 z => ?_
    refine el1_2 inz4 fun o e d => ?_
    exact ⟨ov, ⟨o, (x.out e (F.muC y a l q)).1, d⟩, fun d' v => let ⟨u, a, b⟩ := z d' v; ⟨u, a, b.mono x.keep⟩⟩
  dom := F.dom
  muL := by
    refine el1_2 (F.ns) fun m inz5 q => ?_
    refine el3_2 inz5 fun o es ep e r => ?_
    exact (x.out e F.muL).2
  muC := fun y a l q => by
    refine el1_2 (F.cell y a l q) fun ov inz6 z => ?_
    refine el1_2 inz6 fun o e d => ?_
    exact (x.out e (F.muC y a l q)).2
theorem EvoP.next {P P' : Addr → Prop} {h₀ h h' : Heap} {μ₀ μ μ' : MHeap} (x : EvoP P h₀ μ₀ h μ) (y : EvoP P' h μ h' μ') (hp : ∀ b o, h₀.get? b = some o → fixed (μ₀ b) → ¬ P b → ¬ P' b) : EvoP P h₀ μ₀ h' μ' :=
  fun b o e m n => let ⟨p, q⟩ := x b o e m n; let ⟨p', q'⟩ := y b o p (q ▸ m) (hp b o e m n); ⟨p', q'.trans q⟩
theorem EvoP.skip {P : Addr → Prop} {h₀ h h' : Heap} {μ₀ μ : MHeap} {I : Addr} (x : EvoP P h₀ μ₀ h μ) (hk : ∀ b o, b ≠ I → h.get? b = some o → h'.get? b = some o) (hI : ∀ b o, h₀.get? b = some o → fixed (μ₀ b) → ¬ P b → b ≠ I) : EvoP P h₀ μ₀ h' μ :=
  fun b o e m n => let ⟨p, q⟩ := x b o e m n; ⟨hk b o (hI b o e m n) p, q⟩
structure Room (A : Around) (k : Nat) : Prop where
  hand : A.handled = none
  depth : A.depth + 4 * k ≤ 900
  units : A.units + 100 * k ≤ 9000
theorem Room.le {A : Around} {k j : Nat} (r : Room A k) (h : j ≤ k) : Room A j := ⟨r.hand, by have := r.depth; lia, by have := r.units; lia⟩
noncomputable abbrev W0 := MHeap → (MV → MHeap → Prop) → Prop
noncomputable abbrev WE := St → (MV → St → Prop) → Prop
noncomputable def P0 (c : Cx prog w) (s : Shared) (μ : MHeap) (Q : MV → MHeap → Prop) (v : Value) (s' : Shared) : Prop :=
  ∃ d μ', Rep s'.heap μ' v d ∧ S0 c μ' s' ∧ Evo0 s.heap μ s'.heap μ' ∧ Q d μ'
noncomputable def PF (c : Cx prog w) (f : Fm) (s : Shared) (σ : St) (Q : MV → St → Prop) (v : Value) (s' : Shared) : Prop :=
  ∃ d σ', Rep s'.heap σ'.mu v d ∧ S c f σ' s' ∧ EvoF f s.heap σ.mu s'.heap σ'.mu ∧ Q d σ'
noncomputable def no : Value → Shared → Prop := fun _ _ => False
noncomputable def OK0 (c : Cx prog w) (A : Around) (t : Sem Value) (μ : MHeap) (s : Shared) (Q : MV → MHeap → Prop) : Prop :=
  wpAny (model prog w) A t (P0 c s μ Q) no s
noncomputable def OKF (c : Cx prog w) (f : Fm) (A : Around) (t : Sem Value) (σ : St) (s : Shared) (Q : MV → St → Prop) : Prop :=
  wpAny (model prog w) A t (PF c f s σ Q) no s
noncomputable def JE (c : Cx prog w) (k : Nat) (sc : List (Str × NameKind)) (e : Expr) (W : WE) : Prop :=
  ∀ (f : Fm) (A : Around) (σ : St) (Q : MV → St → Prop) (s : Shared), f.sc = sc → FmOk c f → Room A k → S c f σ s → W σ Q → OKF c f A (eval e f.env) σ s Q
theorem lift0 {c : Cx prog w} {f : Fm} {A : Around} {t : Sem Value} {σ : St} {s : Shared} {Q : MV → St → Prop} (x : S c f σ s) (h : OK0 c A t σ.mu s fun d μ' => Q d { σ with mu := μ' }) : OKF c f A t σ s Q := by
  refine wpAny_mono h ?_ fun _ _ e => e
  intro v s' hz7
  refine el2_4 hz7 fun d μ' r s0 ev q => ?_
  exact ⟨d, { σ with mu := μ' }, r, ⟨s0, x.fr.evo ev⟩, ev.toF, q⟩
theorem OKF.from {c : Cx prog w} {f : Fm} {A : Around} {t : Sem Value} {σ σ₁ : St} {s s₁ : Shared} {Q : MV → St → Prop} (ev : EvoF f s.heap σ.mu s₁.heap σ₁.mu) (h : OKF c f A t σ₁ s₁ Q) :
    wpAny (model prog w) A t (PF c f s σ Q) no s₁ := by
  refine wpAny_mono h ?_ fun _ _ e => e
  intro v s' hz8
  refine el2_4 hz8 fun d σ' r x ev' q => ?_
  exact ⟨d, σ', r, x, ev.trans ev', q⟩
theorem P0.here {c : Cx prog w} {μ : MHeap} {s : Shared} {Q : MV → MHeap → Prop} {v : Value} {d : MV} (x : S0 c μ s) (r : Rep s.heap μ v d) (q : Q d μ) : P0 c s μ Q v s := ⟨d, μ, r, x, Evo0.refl _ _, q⟩
theorem PF.here {c : Cx prog w} {f : Fm} {σ : St} {s : Shared} {Q : MV → St → Prop} {v : Value} {d : MV} (x : S c f σ s) (r : Rep s.heap σ.mu v d) (q : Q d σ) : PF c f s σ Q v s := ⟨d, σ, r, x, EvoF.refl _ _ _, q⟩
end
end Mine
namespace Mine
section
variable {prog : Program} {w : World} {c : Cx prog w} {k : Nat} {sc : List (Str × NameKind)}
noncomputable def wLit (d : MV) : WE := fun σ Q => Q d σ
theorem JE.int (i : Int) (u : Nat) (pos : Pos) : JE c k sc (.Constant (.int i) u pos) (wLit (.int i)) := fun f A σ Q s _ _ _ x h =>
  wpAny_Constant_int ⟨.int i, σ, .int _ _, ⟨x.s0.tok _, ⟨x.fr.ns, x.fr.cell, x.fr.dom, x.fr.muL, x.fr.muC⟩⟩, fun _ _ e m _ => ⟨e, rfl⟩, h⟩
theorem JE.bool (b : Bool) (u : Nat) (pos : Pos) : JE c k sc (.Constant (.bool b) u pos) (wLit (.bool b)) := fun f A σ Q s _ _ _ x h =>
  show wpAny _ _ (pure (Value.bool b)) _ _ _ from wpAny_pure (PF.here x (.bool b) h)
noncomputable def wVar (x : String) : WE := fun σ Q => ∃ d, σ.vars (Str.ofString x) = some d ∧ Q d σ
theorem JE.name (x : String) (pos : Pos) (hd : (Str.ofString x == ("__debug__" : Str)) = false) (hcd : (Str.ofString x == ("__classdict__" : Str)) = false) :
    JE c k sc (.Name (Str.ofString x) pos) (wVar x) := fun f A σ Q s _ ok _ X ⟨d, hv, h⟩ => by
  refine wpAny_Name ?_ hd
  rcases X.fr.dom _ d hv with l | l | l
  · refine el1_2 (X.fr.ns) fun m hn hm => ?_
    refine el1_2 (hm _ d l hv) fun v e r => ?_
    have hk := (ok.look _ _ l).resolve_right (fun q => nomatch q.1)
    exact wpAny_loadName_local ok.kind hk hn e (PF.here X r h)
  · obtain ⟨a, ha⟩ := ok.has _ (.inl l)
    refine el1_2 (X.fr.cell _ a (.inl l) ha) fun ov hc hv' => ?_
    refine el1_2 (hv' d hv) fun v eqz1 r => ?_
    subst eqz1
    have hk := (ok.look _ _ l).resolve_right (fun q => nomatch q.1)
    exact wpAny_loadName_cell ok.kind hk ha hc (PF.here X r h)
  · obtain ⟨a, ha⟩ := ok.has _ (.inr l)
    refine el1_2 (X.fr.cell _ a (.inr l) ha) fun ov hc hv' => ?_
    refine el1_2 (hv' d hv) fun v eqz2 r => ?_
    subst eqz2
    rcases ok.look _ _ l with hk | ⟨_, hk⟩
    · exact wpAny_loadName_free ok.kind hk ha hc (PF.here X r h) hcd
    · exact wpAny_loadName_cell ok.kind hk ha hc (PF.here X r h)
noncomputable def Op2 (c : Cx prog w) (t : Value → Value → Sem Value) (P : MV → MV → W0) : Prop :=
  ∀ (A : Around) (s : Shared) (μ : MHeap) (a b : Value) (d e : MV) (Q : MV → MHeap → Prop), Room A 0 → S0 c μ s → Rep s.heap μ a d → Rep s.heap μ b e → P d e μ Q → OK0 c A (t a b) μ s Q
noncomputable def w2 (P : MV → MV → W0) (W1 W2 : WE) : WE := fun σ Q => W1 σ fun a σ1 => W2 σ1 fun b σ2 => P a b σ2.mu fun d μ' => Q d { σ2 with mu := μ' }
theorem two {f : Fm} {A : Around} {σ : St} {s : Shared} {l r : Expr} {W1 W2 : WE} {t : Value → Value → Sem Value} {P : MV → MV → W0} {Q : MV → St → Prop}
    (hl : JE c k sc l W1) (hr : JE c k sc r W2) (hop : Op2 c t P) (e1 : f.sc = sc) (ok : FmOk c f) (rm : Room A k) (x : S c f σ s) (h : w2 P W1 W2 σ Q) :
    wpAny (model prog w) A (eval l f.env) (fun a s₁ => wpAny (model prog w) A (eval r f.env) (fun b s₂ => wpAny (model prog w) A (t a b) (PF c f s σ Q) no s₂) no s₁) no s := by
  refine wpAny_mono (hl f A σ _ s e1 ok rm x h) ?_ fun _ _ e => e
  intro a s₁ hz3
  refine el2_4 hz3 fun d σ1 r1 x1 ev1 h1 => ?_
  refine wpAny_mono (hr f A σ1 _ s₁ e1 ok rm x1 h1) ?_ fun _ _ e => e
  rintro b s₂ ⟨e, σ2, r2, x2, ev2, h2⟩
  exact OKF.from (ev1.trans ev2) (lift0 x2 (hop A s₂ σ2.mu a b d e _ (rm.le (Nat.zero_le _)) x2.s0 (r1.mono (ev2.keep x1.fr)) r2 h2))
theorem JE.binop {l r : Expr} {op : Operator} {pos : Pos} {W1 W2 : WE} {P : MV → MV → W0} (hop : Op2 c (binaryOp op) P) (hl : JE c k sc l W1) (hr : JE c k sc r W2) : JE c k sc (.BinOp l op r pos) (w2 P W1 W2) :=
  fun _ _ _ _ _ e1 ok rm x h => wpAny_BinOp (two hl hr hop e1 ok rm x h)
theorem JE.cmp {l r : Expr} {op : CmpOp} {pos : Pos} {W1 W2 : WE} {P : MV → MV → W0} (hop : Op2 c (compareOp op) P) (hl : JE c k sc l W1) (hr : JE c k sc r W2) (hm : behindInMarks op r = false) : JE c k sc (.Compare l [op] [r] pos) (w2 P W1 W2) :=
  fun _ _ _ _ _ e1 ok rm x h => wpAny_Compare1 (two hl hr hop e1 ok rm x h) hm
noncomputable abbrev WT := St → (Bool → St → Prop) → Prop
noncomputable def PT (c : Cx prog w) (f : Fm) (s : Shared) (σ : St) (Q : Bool → St → Prop) (b : Bool) (s' : Shared) : Prop :=
  ∃ σ', S c f σ' s' ∧ EvoF f s.heap σ.mu s'.heap σ'.mu ∧ Q b σ'
noncomputable def JT (c : Cx prog w) (k : Nat) (sc : List (Str × NameKind)) (e : Expr) (W : WT) : Prop :=
  ∀ (f : Fm) (A : Around) (σ : St) (Q : Bool → St → Prop) (s : Shared), f.sc = sc → FmOk c f → Room A k → S c f σ s → W σ Q → wpAny (model prog w) A (isTrue e f.env (eval e f.env)) (PT c f s σ Q) no s
noncomputable def asBool (P : MV → MV → W0) (W1 W2 : WE) : WT := fun σ Q => w2 P W1 W2 σ fun d σ' => ∃ b, d = .bool b ∧ Q b σ'
theorem JT.cmp {l r : Expr} {op : CmpOp} {pos : Pos} {W1 W2 : WE} {P : MV → MV → W0} (hop : Op2 c (compareOp op) P) (hl : JE c k sc l W1) (hr : JE c k sc r W2) (hm : behindInMarks op r = false) : JT c k sc (.Compare l [op] [r] pos) (asBool P W1 W2) :=
  fun f A σ Q s e1 ok rm x h => by
    refine wpAny_isTrue_Compare1 (wpAny_mono (two hl hr hop e1 ok rm x h) (fun a s₁ h1 => wpAny_mono h1 (fun b s₂ h2 => wpAny_mono h2 ?_ fun _ _ e => e) fun _ _ e => e) fun _ _ e => e) hm
    rintro v s' ⟨d, σ', r, x', ev, b, rfl, q⟩
    cases r
    exact wpAny_truthy_bool ⟨σ', x', ev, q⟩
noncomputable def wOr : List WT → WT
  | [], σ, Q => Q false σ
  | W :: r, σ, Q => W σ fun b σ' => (b = true → Q true σ') ∧ (b = false → wOr r σ' Q)
inductive JTs (c : Cx prog w) (k : Nat) (sc : List (Str × NameKind)) : List Expr → List WT → Prop
  | nil : JTs c k sc [] []
  | cons {e : Expr} {W : WT} {es : List Expr} {Ws : List WT} : JT c k sc e W → JTs c k sc es Ws → JTs c k sc (e :: es) (W :: Ws)
theorem PT.from {f : Fm} {A : Around} {σ σ₁ : St} {s s₁ : Shared} {t : Sem Bool} {Q : Bool → St → Prop} (ev : EvoF f s.heap σ.mu s₁.heap σ₁.mu) (h : wpAny (model prog w) A t (PT c f s₁ σ₁ Q) no s₁) : wpAny (model prog w) A t (PT c f s σ Q) no s₁ := by
  refine wpAny_mono h ?_ fun _ _ e => e
  intro b s' hz7
  refine el1_3 hz7 fun σ' x ev' q => ?_
  exact ⟨σ', x, ev.trans ev', q⟩
theorem JTs.run {es : List Expr} {Ws : List WT} (h : JTs c k sc es Ws) : ∀ (f : Fm) (A : Around) (σ : St) (Q : Bool → St → Prop) (s : Shared), f.sc = sc → FmOk c f → Room A k → S c f σ s → wOr Ws σ Q → wpAny (model prog w) A (allTrue .Or es f.env) (PT c f s σ Q) no s := by
  induction h with
  | nil => exact fun f A σ Q s _ _ _ x h => show wpAny _ _ (pure _) _ _ _ from wpAny_pure ⟨σ, x, EvoF.refl _ _ _, h⟩
  | @cons e W es Ws he _ ih =>
    intro f A σ Q s e1 ok rm x h
    show wpAny _ _ (isTrue e f.env (eval e f.env) >>= _) _ _ _
    refine wpAny_bind (wpAny_mono (he f A σ _ s e1 ok rm x h) ?_ fun _ _ e => e)
    intro b s₁ hz8
    refine el1_3 hz8 fun σ1 x1 ev1 h1 => ?_
    cases b with
    | true => exact wpAny_pure ⟨σ1, x1, ev1, h1.1 rfl⟩
    | false => exact PT.from ev1 (ih f A σ1 Q s₁ e1 ok rm x1 (h1.2 rfl))
theorem JT.or {es : List Expr} {pos : Pos} {Ws : List WT} (h : JTs c k sc es Ws) : JT c k sc (.BoolOp .Or es pos) (wOr Ws) :=
  fun f A σ Q s e1 ok rm x h' => h.run f A σ Q s e1 ok rm x h'
noncomputable def wIf (T : WT) (W1 W2 : WE) : WE := fun σ Q => T σ fun b σ1 => (b = true → W1 σ1 Q) ∧ (b = false → W2 σ1 Q)
theorem JE.ifexp {t b o : Expr} {pos : Pos} {T : WT} {W1 W2 : WE} (ht : JT c k sc t T) (h1 : JE c k sc b W1) (h2 : JE c k sc o W2) : JE c k sc (.IfExp t b o pos) (wIf T W1 W2) := fun f A σ Q s e1 ok rm x h => by
  show wpAny _ _ (isTrue t f.env (eval t f.env) >>= _) _ _ _
  refine wpAny_bind (wpAny_mono (ht f A σ _ s e1 ok rm x h) ?_ fun _ _ e => e)
  intro q s₁ hz9
  refine el1_3 hz9 fun σ1 x1 ev1 h' => ?_
  cases q with
  | true => exact OKF.from ev1 (h1 f A σ1 Q s₁ e1 ok rm x1 (h'.1 rfl))
  | false => exact OKF.from ev1 (h2 f A σ1 Q s₁ e1 ok rm x1 (h'.2 rfl))
noncomputable def pInt2 (F : Int → Int → Int) (G : Int → Int → Prop) : MV → MV → W0 := fun a b μ Q => ∃ i j, a = .int i ∧ b = .int j ∧ G i j ∧ Q (.int (F i j)) μ
theorem ok0_int {μ : MHeap} {s : Shared} {Q : MV → MHeap → Prop} {i : Int} (x : S0 c μ s) (h : Q (.int i) μ) (t u : Tok) : P0 c s μ Q (.int i t) { s with toks := u } :=
  ⟨.int i, μ, .int _ _, x.tok _, fun _ _ e m => ⟨e, rfl⟩, h⟩
theorem Rep.isInt {h : Heap} {μ : MHeap} {v : Value} {i : Int} (r : Rep h μ v (.int i)) : ∃ t, v = .int i t := by cases r; exact ⟨_, rfl⟩
theorem Rep.isRef {h : Heap} {μ : MHeap} {v : Value} {a : Addr} (r : Rep h μ v (.ref a)) : v = .ref a := by cases r; rfl
theorem Rep.isBool {h : Heap} {μ : MHeap} {v : Value} {b : Bool} (r : Rep h μ v (.bool b)) : v = .bool b := by cases r; rfl
theorem Rep.isTup {h : Heap} {μ : MHeap} {v : Value} {ds : List MV} (r : Rep h μ v (.tup ds)) : ∃ a vs, v = .ref a ∧ μ a = Option.none ∧ h.get? a = some (tupObj vs) ∧ RepAll h μ vs ds := by cases r; exact ⟨_, _, rfl, by assumption, by assumption, by assumption⟩
theorem Rep.isList {h : Heap} {μ : MHeap} {v : Value} {ds : List MV} (r : Rep h μ v (.flist ds)) : ∃ a vs n, v = .ref a ∧ μ a = Option.none ∧ h.get? a = some (seqObj "list" vs.toArray n) ∧ RepAll h μ vs ds := by cases r; exact ⟨_, _, _, rfl, by assumption, by assumption, by assumption⟩
theorem op_add : Op2 c (binaryOp .Add) (pInt2 (· + ·) fun _ _ => True) := by
  intro A s μ _ _ _ _ Q rm x r1 r2 hz10
  refine el2_4 hz10 fun i j eqz11 eqz12 _ h => ?_
  subst eqz11
  subst eqz12
  obtain ⟨_, rfl⟩ := r1.isInt
  obtain ⟨_, rfl⟩ := r2.isInt
  exact P.add_int (ok0_int x h _ _)
theorem op_mul : Op2 c (binaryOp .Mult) (pInt2 (· * ·) fun i j => i.natAbs < 2 ^ 40 ∨ j.natAbs < 2 ^ 40) := by
  intro A s μ _ _ _ _ Q rm x r1 r2 hz13
  refine el2_4 hz13 fun i j eqz14 eqz15 g h => ?_
  subst eqz14
  subst eqz15
  obtain ⟨_, rfl⟩ := r1.isInt
  obtain ⟨_, rfl⟩ := r2.isInt
  refine P.mul_int (ok0_int x h _ _) ?_
  rcases g with g | g
  · exact IntMulOk.of_left (intBits_le_64 (by lia) (by lia))
  · exact IntMulOk.of_right (intBits_le_64 (by lia) (by lia))
theorem op_mod : Op2 c (binaryOp .Mod) (pInt2 Int.fmod fun _ j => 0 < j) := by
  intro A s μ _ _ _ _ Q rm x r1 r2 hz16
  refine el2_4 hz16 fun i j eqz17 eqz18 g h => ?_
  subst eqz17
  subst eqz18
  obtain ⟨_, rfl⟩ := r1.isInt
  obtain ⟨_, rfl⟩ := r2.isInt
  exact PyProof.Rows.mod_int' (by lia) (ok0_int x h _ _)
theorem op_fdiv : Op2 c (binaryOp .FloorDiv) (pInt2 Int.fdiv fun _ j => 0 < j ∧ j < 100) := by
  intro A s μ _ _ _ _ Q rm x r1 r2 hz19
  refine el2_4 hz19 fun i j eqz20 eqz21 g h => ?_
  subst eqz20
  subst eqz21
  obtain ⟨_, rfl⟩ := r1.isInt
  obtain ⟨_, rfl⟩ := r2.isInt
  exact PyProof.Rows.floordiv_int (by lia) (ok0_int x h _ _) (.inl (PyProof.noPylong_small (by lia)))
noncomputable def pCmp2 (F : Int → Int → Bool) : MV → MV → W0 := fun a b μ Q => ∃ i j, a = .int i ∧ b = .int j ∧ Q (.bool (F i j)) μ
theorem op_lt : Op2 c (compareOp .Lt) (pCmp2 fun i j => decide (i < j)) := by
  intro A s μ _ _ _ _ Q rm x r1 r2 hz22
  refine el2_3 hz22 fun i j eqz23 eqz24 h => ?_
  subst eqz23
  subst eqz24
  obtain ⟨_, rfl⟩ := r1.isInt
  obtain ⟨_, rfl⟩ := r2.isInt
  exact P.lt_int (P0.here x (.bool _) h)
theorem op_ge : Op2 c (compareOp .GtE) (pCmp2 fun i j => decide (i ≥ j)) := by
  rintro A s μ _ _ _ _ Q rm x r1 r2 ⟨i, j, rfl, rfl, h⟩
  obtain ⟨_, rfl⟩ := r1.isInt
  obtain ⟨_, rfl⟩ := r2.isInt
  exact P.ge_int (P0.here x (.bool _) h)
noncomputable def wNeg (W : WE) : WE := fun σ Q => W σ fun a σ1 => ∃ i, a = .int i ∧ Q (.int (-i)) σ1
theorem JE.neg {e : Expr} {pos : Pos} {W : WE} (h : JE c k sc e W) : JE c k sc (.UnaryOp .USub e pos) (wNeg W) := fun f A σ Q s e1 ok rm x h' => by
  show wpAny _ _ (eval e f.env >>= _) _ _ _
  refine wpAny_bind (wpAny_mono (h f A σ _ s e1 ok rm x h') ?_ fun _ _ e => e)
  rintro v s₁ ⟨d, σ1, r, x1, ev1, i, rfl, q⟩
  cases r
  refine wpAny_bind (wpAny_standAt (wpAny_holding (P.neg_int ?_)))
  exact ⟨.int (-i), σ1, .int _ _, ⟨x1.s0.tok _, ⟨x1.fr.ns, x1.fr.cell, x1.fr.dom, x1.fr.muL, x1.fr.muC⟩⟩, ev1, q⟩
end
end Mine
namespace Mine
section
variable {prog : Program} {w : World} {c : Cx prog w} {k : Nat} {sc : List (Str × NameKind)}
noncomputable abbrev WEs := St → (List MV → St → Prop) → Prop
noncomputable def wArgs : List WE → WEs
  | [], σ, Q => Q [] σ
  | W :: r, σ, Q => W σ fun d σ1 => wArgs r σ1 fun ds σ2 => Q (d :: ds) σ2
noncomputable def unstarred (e : Expr) : Prop := ∀ rest env, starEach (e :: rest) env = (false, eval e env) :: starEach rest env
inductive JEs (c : Cx prog w) (k : Nat) (sc : List (Str × NameKind)) : List Expr → List WE → Prop
  | nil : JEs c k sc [] []
  | cons {e : Expr} {W : WE} {es : List Expr} {Ws : List WE} : unstarred e → JE c k sc e W → JEs c k sc es Ws → JEs c k sc (e :: es) (W :: Ws)
noncomputable def PFs (c : Cx prog w) (f : Fm) (s : Shared) (σ : St) (Q : List MV → St → Prop) (vs : List Value) (s' : Shared) : Prop :=
  ∃ ds σ', RepAll s'.heap σ'.mu vs ds ∧ S c f σ' s' ∧ EvoF f s.heap σ.mu s'.heap σ'.mu ∧ Q ds σ'
theorem JEs.run {es : List Expr} {Ws : List WE} (h : JEs c k sc es Ws) (pos : Pos) : ∀ (f : Fm) (A : Around) (σ : St) (Q : List MV → St → Prop) (s : Shared), f.sc = sc → FmOk c f → Room A k → S c f σ s → wArgs Ws σ Q →
    wpAny (model prog w) A (spliced (backTo pos (starEach es f.env))) (PFs c f s σ Q) no s := by
  induction h with
  | nil => exact fun f A σ Q s _ _ _ x h => Calls.spliced_nil ⟨[], σ, .nil, x, EvoF.refl _ _ _, h⟩
  | @cons e W es Ws hu he _ ih =>
    intro f A σ Q s e1 ok rm x h
    rw [hu]
    show wpAny _ _ (spliced ((false, eval e f.env) :: backTo pos (starEach es f.env))) _ _ _
    refine Calls.spliced_cons (wpAny_mono (he f A σ _ s e1 ok rm x h) ?_ fun _ _ e => e)
    intro v s₁ hz1
    refine el2_4 hz1 fun d σ1 r1 x1 ev1 h1 => ?_
    refine wpAny_mono (ih f A σ1 _ s₁ e1 ok rm x1 h1) ?_ fun _ _ e => e
    intro vs s₂ hz2
    refine el2_4 hz2 fun ds σ2 r2 x2 ev2 h2 => ?_
    exact ⟨d :: ds, σ2, .cons (r1.mono (ev2.keep x1.fr)) r2, x2, ev1.trans ev2, h2⟩
theorem JEs.plain {es : List Expr} {Ws : List WE} (h : JEs c k sc es Ws) (pos : Pos) (env : Env) : (backTo pos (starEach es env)).any (·.1) = false := by
  induction h with
  | nil => rfl
  | cons hu _ _ ih => rw [hu]; exact ih
theorem JEs.args {es : List Expr} {Ws : List WE} (h : JEs c k sc es Ws) (pos : Pos) (fv : Value) (f : Fm) (A : Around) (σ : St) (Q : List MV → St → Prop) (s : Shared) (e1 : f.sc = sc) (ok : FmOk c f) (rm : Room A k) (x : S c f σ s) (hq : wArgs Ws σ Q) :
    wpAny (model prog w) A (evalArgs fv true (backTo pos (starEach es f.env)) []) (fun a s' => PFs c f s σ Q a.pos s' ∧ a.kw = []) no s := by
  cases h with
  | nil => exact evalArgs_nil3 ⟨⟨[], σ, .nil, x, EvoF.refl _ _ _, hq⟩, rfl⟩
  | cons hu he hr =>
    have := (JEs.cons hu he hr).run pos f A σ Q s e1 ok rm x hq
    rw [hu] at this ⊢
    exact Calls.evalArgs_plain (wpAny_mono this (fun vs s' h' => ⟨h', rfl⟩) fun _ _ e => e)
noncomputable def OpN (c : Cx prog w) (j : Nat) (t : List Value → Sem Value) (P : List MV → W0) : Prop :=
  ∀ (A : Around) (s : Shared) (μ : MHeap) (vs : List Value) (ds : List MV) (Q : MV → MHeap → Prop), Room A j → S0 c μ s → RepAll s.heap μ vs ds → P ds μ Q → OK0 c A (t vs) μ s Q
noncomputable def wN (P : List MV → W0) (Ws : List WE) : WE := fun σ Q => wArgs Ws σ fun ds σ' => P ds σ'.mu fun d μ' => Q d { σ' with mu := μ' }
structure Callee (c : Cx prog w) (x : Str) (fv : Value) : Prop where
  name : ∀ (f : Fm) (A : Around) (s : Shared) (Q : Value → Shared → Prop) (σ : St) (pos : Pos), FmOk c f → f.env.kindOf x = some .globalImplicit → S c f σ s → Q fv s → wpAny (model prog w) A (eval (.Name x pos) f.env) Q no s
  keep : ∀ h, (∀ b o, c.B.get? b = some o → h.get? b = some o) → ∃ k, (k = Keeper.frame ∨ k = Keeper.machine ∨ k = Keeper.boundFrame) ∧ Looks (model prog w) h (keeperOf fv) k
theorem JE.call {x : Str} {fv : Value} {np pos : Pos} {es : List Expr} {Ws : List WE} {P : List MV → W0} (hf : Callee c x fv) (hg : sc.lookup x = some .globalImplicit) (hop : OpN c k (fun vs => call fv vs) P) (ha : JEs c k sc es Ws) :
    JE c k sc (.Call (.Name x np) es [] pos) (wN P Ws) := fun f A σ Q s e1 ok rm X h => by
  show wpAny _ _ (eval (.Name x np) f.env >>= fun fv => callWith pos fv [] (backTo pos (starEach es f.env)) []) _ _ _
  have hk := (ok.look x .globalImplicit (e1 ▸ hg)).resolve_right (fun q => nomatch q.1)
  refine wpAny_bind (hf.name f A s _ σ np ok hk X ?_)
  refine callWith_of (P := fun h => ∀ b o, c.B.get? b = some o → h.get? b = some o) (by rw [ha.plain pos f.env]; rfl) hf.keep ?_
  refine wpAny_mono (ha.args pos fv f A σ _ s e1 ok rm X h) ?_ fun _ _ e => e
  rintro ⟨vs, kw⟩ s₁ ⟨⟨ds, σ1, r, x1, ev, h1⟩, rfl⟩
  exact ⟨x1.s0.base, OKF.from ev (lift0 x1 (hop A s₁ σ1.mu vs ds _ rm x1.s0 r h1))⟩
theorem Callee.builtin {x : Str} {v : Value} (e : nsIn c.K mainGlobals x = some none) (hv : bootBuiltins x = some v) (hn : x ≠ "__name__") (hd : (x == ("__debug__" : Str)) = false) (hr : ∀ a, v ≠ .ref a) : Callee c x v where
  name := fun f A s Q σ pos ok hk X q => by
    refine Calls.Name_function_global ok.kind hk ?_ hd
    have T := c.T
    refine Calls.loadGlobal_builtin (mg := c.mg) (mb := c.mb) ?_ (mg_none_of c.X T.g e) ?_ ((T.builtins x hn).trans hv) q
    · rw [ok.glob]; exact T.g.keeps X.s0.base
    · rw [ok.blt]; exact T.b.keeps X.s0.base
  keep := fun h _ => ⟨.machine, .inr (.inl rfl), by
    cases v with
    | ref a => exact absurd rfl (hr a)
    | _ => exact Looks.of_pure rfl⟩
theorem Callee.global {x : Str} {a : Addr} (e : nsIn c.K mainGlobals x = some (some (.ref a))) (hd : (x == ("__debug__" : Str)) = false) (hk : keepIn c.K (.ref a) = true) : Callee c x (.ref a) where
  name := fun f A s Q σ pos ok hk' X q => by
    refine Calls.Name_function_global ok.kind hk' ?_ hd
    have T := c.T
    refine Calls.loadGlobal_global (mg := c.mg) ?_ (mg_of c.X T.g e) q
    rw [ok.glob]; exact T.g.keeps X.s0.base
  keep := fun h hb => by
    refine el1_2 (looks_keep (M := model prog w) hk (c.X.keeps hb)) fun k p q => ?_
    exact ⟨k, p.elim .inl fun e => .inr (.inl e), q⟩
theorem JE.globalInt {x : String} {i : Int} {t : Tok} {pos : Pos} (e : nsIn c.K mainGlobals (Str.ofString x) = some (some (.int i t))) (hg : sc.lookup (Str.ofString x) = some .globalImplicit) (hd : (Str.ofString x == ("__debug__" : Str)) = false) :
    JE c k sc (.Name (Str.ofString x) pos) (wLit (.int i)) := fun f A σ Q s e1 ok rm X h => by
  refine Calls.Name_function_global ok.kind ((ok.look _ .globalImplicit (e1 ▸ hg)).resolve_right (fun q => nomatch q.1)) ?_ hd
  refine Calls.loadGlobal_global (mg := c.mg) ?_ (mg_of c.X c.T.g e) (PF.here X (.int _ _) h)
  rw [ok.glob]; exact c.T.g.keeps X.s0.base
theorem rep_new {μ : MHeap} {h : Heap} {o : Obj} {vs : List Value} {ds : List MV} (r : RepAll h μ vs ds) : RepAll (h.push o) μ vs ds := r.mono (Evo0.of_keeps fun b x e => Heap.get?_push_of_some _ e).keep
theorem new_tuple {A : Around} {s : Shared} {μ : MHeap} {vs : List Value} {ds : List MV} {Q : MV → MHeap → Prop} (x : S0 c μ s) (r : RepAll s.heap μ vs ds) (hn : ds.length ≤ 1000000) (h : Q (.tup ds) μ) : OK0 c A (newTuple vs) μ s Q := by
  have hk : ∀ b o, s.heap.get? b = some o → (s.heap.push (tupObj vs)).get? b = some o := fun b o e => Heap.get?_push_of_some _ e
  refine wpAny_newObj_type ?_ (by show vs.toArray.size ≤ sizeLine; rw [List.size_toArray, r.length, sizeLine_eq]; lia)
  exact ⟨.tup ds, μ, .tup (x.fresh (Nat.le_refl _)) (Heap.get?_push_size _ rfl) (rep_new r), x.keeps hk, Evo0.of_keeps hk, h⟩
theorem new_flist {A : Around} {s : Shared} {μ : MHeap} {vs : List Value} {ds : List MV} {Q : MV → MHeap → Prop} (x : S0 c μ s) (r : RepAll s.heap μ vs ds) (hn : ds.length ≤ 1000000) (h : Q (.flist ds) μ) : OK0 c A (newList vs) μ s Q := by
  have hk : ∀ b o, s.heap.get? b = some o → (s.heap.push (seqObj "list" vs.toArray 0)).get? b = some o := fun b o e => Heap.get?_push_of_some _ e
  refine wpAny_newObj_type ?_ (by show vs.toArray.size ≤ sizeLine; rw [List.size_toArray, r.length, sizeLine_eq]; lia)
  exact ⟨.flist ds, μ, .flist (x.fresh (Nat.le_refl _)) (Heap.get?_push_size (o := seqObj "list" vs.toArray 0) _ rfl) (rep_new r), x.keeps hk, Evo0.of_keeps hk, h⟩
noncomputable def pNew (mo : MObj) : W0 := fun μ Q => ∀ a, μ a = none → Q (.ref a) (upd μ a mo)
theorem new_list {A : Around} {s : Shared} {μ : MHeap} {vs : List Value} {ds : List MV} {Q : MV → MHeap → Prop} (x : S0 c μ s) (r : RepAll s.heap μ vs ds) (hn : ds.length ≤ 1000000) (h : pNew (.list ds) μ Q) : OK0 c A (newList vs) μ s Q := by
  have hk : ∀ b o, s.heap.get? b = some o → (s.heap.push (seqObj "list" vs.toArray 0)).get? b = some o := fun b o e => Heap.get?_push_of_some _ e
  refine wpAny_newObj_type ?_ (by show vs.toArray.size ≤ sizeLine; rw [List.size_toArray, r.length, sizeLine_eq]; lia)
  have ev := keep_new (μ := μ) (.list ds) (Heap.get?_none_of_le (Nat.le_refl s.heap.objs.size)) hk
  refine ⟨.ref s.heap.objs.size, _, .ref _, x.new (mo := .list ds) (Nat.le_refl _) hk ⟨vs, 0, Heap.get?_push_size (o := seqObj "list" vs.toArray 0) _ rfl, r.mono ev.keep⟩, ev, h _ (x.fresh (Nat.le_refl _))⟩
noncomputable def wTup (Ws : List WE) : WE := fun σ Q => wArgs Ws σ fun ds σ' => ds.length ≤ 1000000 ∧ Q (.tup ds) σ'
theorem JE.tup {es : List Expr} {Ws : List WE} {n : Nat} {pos : Pos} (ha : JEs c k sc es Ws) : JE c k sc (.Tuple es n pos) (wTup Ws) := fun f A σ Q s e1 ok rm X h => by
  refine Tuple_ (wpAny_mono (ha.run pos f A σ _ s e1 ok rm X h) ?_ fun _ _ e => e)
  intro vs s₁ hz3
  refine el2_5 hz3 fun ds σ1 r x1 ev hn h1 => ?_
  exact OKF.from ev (lift0 x1 (new_tuple x1.s0 r hn h1))
noncomputable def wFlist (Ws : List WE) : WE := fun σ Q => wArgs Ws σ fun ds σ' => ds.length ≤ 1000000 ∧ Q (.flist ds) σ'
theorem JE.flist {es : List Expr} {Ws : List WE} {pos : Pos} (ha : JEs c k sc es Ws) : JE c k sc (.List es pos) (wFlist Ws) := fun f A σ Q s e1 ok rm X h => by
  refine List_ (wpAny_mono (ha.run pos f A σ _ s e1 ok rm X h) ?_ fun _ _ e => e)
  intro vs s₁ hz4
  refine el2_5 hz4 fun ds σ1 r x1 ev hn h1 => ?_
  exact OKF.from ev (lift0 x1 (new_flist x1.s0 r hn h1))
noncomputable def wList (Ws : List WE) : WE := fun σ Q => wArgs Ws σ fun ds σ' => ds.length ≤ 1000000 ∧ pNew (.list ds) σ'.mu fun d μ' => Q d { σ' with mu := μ' }
theorem JE.list {es : List Expr} {Ws : List WE} {pos : Pos} (ha : JEs c k sc es Ws) : JE c k sc (.List es pos) (wList Ws) := fun f A σ Q s e1 ok rm X h => by
  refine List_ (wpAny_mono (ha.run pos f A σ _ s e1 ok rm X h) ?_ fun _ _ e => e)
  intro vs s₁ hz5
  refine el2_5 hz5 fun ds σ1 r x1 ev hn h1 => ?_
  exact OKF.from ev (lift0 x1 (new_list x1.s0 r hn h1))
end
end Mine
namespace Mine
open Classical
noncomputable def dget {K : Type} [DecidableEq K] (es : List (K × MV)) (k : K) : Option MV := (es.find? fun e => decide (e.1 = k)).map (·.2)
noncomputable def dset {K : Type} [DecidableEq K] (es : List (K × MV)) (k : K) (v : MV) : List (K × MV) :=
  if es.any (fun e => decide (e.1 = k)) then es.map (fun e => if e.1 = k then (e.1, v) else e) else es ++ [(k, v)]
section
variable {K : Type} [DecidableEq K] {h : Heap} {μ : MHeap}
theorem PairsRep.length {kvs : List (K × Value)} {es : List (K × MV)} (x : PairsRep h μ kvs es) : kvs.length = es.length := by
  induction x with
  | nil => rfl
  | cons _ _ ih => simp [ih]
theorem PairsRep.keys {kvs : List (K × Value)} {es : List (K × MV)} (x : PairsRep h μ kvs es) : kvs.map (·.1) = es.map (·.1) := by
  induction x with
  | nil => rfl
  | cons _ _ ih => simp [ih]
theorem PairsRep.get {kvs : List (K × Value)} {es : List (K × MV)} (x : PairsRep h μ kvs es) {k : K} {d : MV} (e : dget es k = some d) : ∃ v, valueAt kvs k = some v ∧ Rep h μ v d := by
  induction x with
  | nil => simp [dget] at e
  | @cons k' v d' kvs es r _ ih =>
    unfold dget valueAt at *
    by_cases q : k' = k
    · subst q
      simp only [List.find?_cons, decide_true, Option.map_some, Option.some.injEq] at e
      subst e
      exact ⟨v, by simp [List.find?_cons], r⟩
    · simp only [List.find?_cons, q, decide_false] at e ⊢
      exact ih e
theorem PairsRep.getNone {kvs : List (K × Value)} {es : List (K × MV)} (x : PairsRep h μ kvs es) {k : K} (e : dget es k = none) : valueAt kvs k = none := by
  induction x with
  | nil => rfl
  | @cons k' v d' kvs es r _ ih =>
    unfold dget valueAt at *
    by_cases q : k' = k
    · subst q; simp [List.find?_cons] at e
    · simp only [List.find?_cons, q, decide_false] at e ⊢
      exact ih e
theorem PairsRep.any {kvs : List (K × Value)} {es : List (K × MV)} (x : PairsRep h μ kvs es) (k : K) : kvs.any (fun e => decide (e.1 = k)) = es.any (fun e => decide (e.1 = k)) := by
  induction x with
  | nil => rfl
  | cons _ _ ih => simp [ih]
theorem PairsRep.put {kvs : List (K × Value)} {es : List (K × MV)} (x : PairsRep h μ kvs es) (k : K) {v : Value} {d : MV} (r : Rep h μ v d) : PairsRep h μ (kvs.map fun kv => if kv.1 = k then (kv.1, v) else kv) (es.map fun e => if e.1 = k then (e.1, d) else e) := by
  induction x with
  | nil => exact .nil
  | @cons k' v' d' kvs es r' _ ih =>
    simp only [List.map_cons]
    by_cases q : k' = k
    · rw [if_pos q, if_pos q]; exact .cons r ih
    · rw [if_neg q, if_neg q]; exact .cons r' ih
theorem PairsRep.snoc {kvs : List (K × Value)} {es : List (K × MV)} (x : PairsRep h μ kvs es) (k : K) {v : Value} {d : MV} (r : Rep h μ v d) : PairsRep h μ (kvs ++ [(k, v)]) (es ++ [(k, d)]) := by
  induction x with
  | nil => exact .cons r .nil
  | cons r' _ ih => exact .cons r' ih
theorem PairsRep.set {kvs : List (K × Value)} {es : List (K × MV)} (x : PairsRep h μ kvs es) (k : K) {v : Value} {d : MV} (r : Rep h μ v d) : PairsRep h μ (stored kvs k v) (dset es k d) := by
  unfold stored dset
  rw [x.any k]
  split
  · exact x.put k r
  · exact x.snoc k r
end
section
variable {h : Heap} {μ : MHeap}
theorem KeysRep.length {xs : List (List MV × Addr × Value)} {es : List (List MV × MV)} (x : KeysRep h μ xs es) : xs.length = es.length := by
  induction x with
  | nil => rfl
  | cons _ _ _ ih => simp [ih]
theorem KeysRep.mem {xs : List (List MV × Addr × Value)} {es : List (List MV × MV)} (x : KeysRep h μ xs es) : ∀ y ∈ xs, Rep h μ (.ref y.2.1) (.tup y.1) := by
  induction x with
  | nil => exact fun _ hy => nomatch hy
  | cons r _ _ ih => exact fun y hy => (List.mem_cons.mp hy).elim (fun e => e ▸ r) (ih y)
theorem KeysRep.get {xs : List (List MV × Addr × Value)} {es : List (List MV × MV)} (x : KeysRep h μ xs es) {k : List MV} {d : MV} (e : dget es k = some d) : ∃ p, atKey xs k = some p ∧ Rep h μ p.2 d := by
  induction x with
  | nil => simp [dget] at e
  | @cons k' a v d' xs es _ r _ ih =>
    unfold dget atKey at *
    by_cases q : k' = k
    · subst q
      simp only [List.find?_cons, decide_true, Option.map_some, Option.some.injEq] at e
      subst e
      exact ⟨(a, v), by simp [List.find?_cons], r⟩
    · simp only [List.find?_cons, q, decide_false] at e ⊢
      exact ih e
theorem KeysRep.getNone {xs : List (List MV × Addr × Value)} {es : List (List MV × MV)} (x : KeysRep h μ xs es) {k : List MV} (e : dget es k = none) : atKey xs k = none := by
  induction x with
  | nil => rfl
  | @cons k' a v d' xs es _ r _ ih =>
    unfold dget atKey at *
    by_cases q : k' = k
    · subst q; simp [List.find?_cons] at e
    · simp only [List.find?_cons, q, decide_false] at e ⊢
      exact ih e
theorem KeysRep.isSome {xs : List (List MV × Addr × Value)} {es : List (List MV × MV)} (x : KeysRep h μ xs es) (k : List MV) : (atKey xs k).isSome = (dget es k).isSome := by
  cases e : dget es k with
  | none => rw [x.getNone e]; rfl
  | some d => obtain ⟨p, q, _⟩ := x.get e; rw [q]; rfl
theorem PairsRep.isSome {K : Type} [DecidableEq K] {kvs : List (K × Value)} {es : List (K × MV)} (x : PairsRep h μ kvs es) (k : K) : (valueAt kvs k).isSome = (dget es k).isSome := by
  cases e : dget es k with
  | none => rw [x.getNone e]; rfl
  | some d => obtain ⟨p, q, _⟩ := x.get e; rw [q]; rfl
theorem dget_isSome {K : Type} [DecidableEq K] (es : List (K × MV)) (k : K) : (dget es k).isSome = es.any fun e => decide (e.1 = k) := by
  unfold dget
  rw [Option.isSome_map, Bool.eq_iff_iff, List.find?_isSome, List.any_eq_true]
theorem KeysRep.put {xs : List (List MV × Addr × Value)} {es : List (List MV × MV)} (x : KeysRep h μ xs es) (k : List MV) {v : Value} {d : MV} (r : Rep h μ v d) : KeysRep h μ (xs.map (putAt k v)) (es.map fun e => if e.1 = k then (e.1, d) else e) := by
  induction x with
  | nil => exact .nil
  | @cons k' a v' d' xs es q r' _ ih =>
    simp only [List.map_cons]
    unfold putAt
    by_cases e : k' = k
    · rw [if_pos e, if_pos e]; exact .cons q r ih
    · rw [if_neg e, if_neg e]; exact .cons q r' ih
theorem KeysRep.snoc {xs : List (List MV × Addr × Value)} {es : List (List MV × MV)} (x : KeysRep h μ xs es) {k : List MV} {a : Addr} {v : Value} {d : MV} (q : Rep h μ (.ref a) (.tup k)) (r : Rep h μ v d) : KeysRep h μ (xs ++ [(k, a, v)]) (es ++ [(k, d)]) := by
  induction x with
  | nil => exact .cons q r .nil
  | cons q' r' _ ih => exact .cons q' r' ih
theorem KeysRep.set {xs : List (List MV × Addr × Value)} {es : List (List MV × MV)} (x : KeysRep h μ xs es) {k : List MV} {a : Addr} {v : Value} {d : MV} (q : Rep h μ (.ref a) (.tup k)) (r : Rep h μ v d) : KeysRep h μ (storedH xs k a v) (dset es k d) := by
  unfold storedH dset
  rw [x.isSome k, dget_isSome]
  split
  · exact x.put k r
  · exact x.snoc q r
theorem storedH_keys {xs : List (List MV × Addr × Value)} {k : List MV} {a : Addr} {v : Value} {n : Nat} (hk : Mine.keys n k = true) (h : ∀ x ∈ xs, Mine.keys n x.1 = true) : ∀ x ∈ storedH xs k a v, Mine.keys n x.1 = true := fun x hx => by
  rcases mem_storedH hx with ⟨y, hy, e, _⟩ | ⟨e, _⟩
  · rw [e]; exact h y hy
  · rw [e]; exact hk
end
section
variable {prog : Program} {w : World} {c : Cx prog w} {k : Nat} {sc : List (Str × NameKind)}
noncomputable def seqOf (μ : MHeap) : MV → Option (List MV)
  | .tup l => some l
  | .flist l => some l
  | .ref r => match μ r with
    | some (.list l) => some l
    | some (.pin _ l) => some l
    | _ => none
  | _ => none
theorem seq_at {μ : MHeap} {s : Shared} {v : Value} {d : MV} {l : List MV} (x : S0 c μ s) (r : Rep s.heap μ v d) (e : seqOf μ d = some l) :
    ∃ a vs n T, v = .ref a ∧ (T = "tuple" ∧ n = 0 ∨ T = "list") ∧ s.heap.get? a = some (seqObj T vs.toArray n) ∧ RepAll s.heap μ vs l ∧ (T = "tuple" → d = .tup l) := by
  cases d with
  | tup l' => cases e; obtain ⟨a, vs, rfl, _, q, p⟩ := r.isTup; exact ⟨a, vs, 0, "tuple", rfl, .inl ⟨rfl, rfl⟩, q, p, fun _ => rfl⟩
  | flist l' => cases e; obtain ⟨a, vs, n, rfl, _, q, p⟩ := r.isList; exact ⟨a, vs, n, "list", rfl, .inr rfl, q, p, fun h => absurd h (by decide)⟩
  | ref a =>
    obtain rfl := r.isRef
    simp only [seqOf] at e
    split at e
    · rename_i l' hm
      cases e
      refine el2_2 (x.mu a _ hm) fun its n q p => ?_
      exact ⟨a, its, n, "list", rfl, .inr rfl, q, p, fun h => absurd h (by decide)⟩
    · rename_i its l' hm
      cases e
      refine el1_2 (x.mu a _ hm) fun n q p => ?_
      exact ⟨a, its, n, "list", rfl, .inr rfl, q, p, fun h => absurd h (by decide)⟩
    · cases e
  | _ => cases e
noncomputable def pGetL : MV → MV → W0 := fun a b μ Q => ∃ l i d, seqOf μ a = some l ∧ b = .int i ∧ 0 ≤ i ∧ l[i.toNat]? = some d ∧ l.length ≤ 1000000 ∧ Q d μ
noncomputable def pGetI : MV → MV → W0 := fun a b μ Q => ∃ r es i d, a = .ref r ∧ μ r = some (.idict es) ∧ b = .int i ∧ dget es i = some d ∧ Q d μ
noncomputable def pGetT : MV → MV → W0 := fun a b μ Q => ∃ r es ks d, a = .ref r ∧ μ r = some (.tdict es) ∧ b = .tup ks ∧ keys 5 ks = true ∧ dget es ks = some d ∧ Q d μ
theorem get_lt {l : List MV} {i : Int} {d : MV} (h0 : 0 ≤ i) (h : l[i.toNat]? = some d) (hl : l.length ≤ 1000000) : i < 2 ^ 62 := by
  have := (List.getElem?_eq_some_iff.mp h).1
  lia
theorem op_getL : Op2 c getItem pGetL := by
  intro A s μ va vb a b Q rm x r1 r2 hz1
  refine el3_6 hz1 fun l i d e eqz2 h0 hi hl h => ?_
  subst eqz2
  obtain ⟨t, rfl⟩ := r2.isInt
  refine el4_5 (seq_at x r1 e) fun p vs n T eqz3 hT ho r _ => ?_
  subst eqz3
  refine el1_2 (r.get hi) fun v hv rv => ?_
  have hlt := get_lt h0 hi hl
  rcases hT with ⟨rfl, rfl⟩ | rfl
  · refine PyProof.Rows.getItem_tuple (items := vs.toArray) ⟨_, ho, rfl, 0, rfl⟩ (by lia) (by lia) (j := i.toNat) ?_ (by simpa using hv) (P0.here x rv h)
    have hlt2 := (List.getElem?_eq_some_iff.mp hv).1
    have h1 : ¬ i < 0 := by lia
    have h2 : i < (vs.length : Int) := by lia
    simp [seqIndex?, List.size_toArray, h1, h2, h0]
  · exact wpAny_getItem_list ⟨_, ho, rfl, n, rfl⟩ h0 (by lia) (by simpa using hv) (P0.here x rv h)
theorem op_getI : Op2 c getItem pGetI := by
  intro A s μ va vb a b Q rm x r1 r2 hz4
  refine el4_5 hz4 fun r es i d eqz5 hm eqz6 hd h => ?_
  subst eqz5
  subst eqz6
  obtain ⟨t, rfl⟩ := r2.isInt
  obtain rfl := r1.isRef
  refine el1_2 (x.mu r _ hm) fun kvs hD hp => ?_
  refine el1_2 (hp.get hd) fun v hv rv => ?_
  exact wpAny_getItem_of (intKind_is prog w i t) hD.mapOf hv ⟨d, μ, rv, x.tok _, Evo0.refl _ _, h⟩
theorem S0.dictH {μ : MHeap} {s : Shared} (x : S0 c μ s) {r : Addr} {es : List (List MV × MV)} (hm : μ r = some (.tdict es)) :
    ∃ xs, s.heap.DictOfH (mvKind prog w) r xs ∧ KeysRep s.heap μ xs es ∧ ∀ y ∈ xs, keys 5 y.1 = true := by
  refine el4_7 (x.mu r _ hm) fun o tes ep xs ho hex hd hes hnd hk h5 => ?_
  exact ⟨xs, ⟨o, tes, ep, ho, hex, hd, hes, fun y hy => (hk.mem y hy).key (by simpa [MV.key] using h5 y hy), hnd⟩, hk, h5⟩
theorem op_getT : Op2 c getItem pGetT := by
  intro A s μ va vb a b Q rm x r1 r2 hz7
  refine el4_6 hz7 fun r es ks d eqz8 hm eqz9 hk hd h => ?_
  subst eqz8
  subst eqz9
  obtain rfl := r1.isRef
  refine el2_4 (r2.isTup) fun q vs eqz10 _ _ _ => ?_
  subst eqz10
  refine el1_3 (x.dictH hm) fun xs hD hK _ => ?_
  refine el1_2 (hK.get hd) fun p hp rv => ?_
  have hu : (mvKind prog w).room A.in1 := by have := rm.units; show A.units + 1 + 10 < 9900; lia
  exact wpAny_getItem_heap (knd := mvKind prog w) hu (r2.key (by simpa [MV.key] using hk)) hD hp ⟨d, μ, rv, x.tok _, Evo0.refl _ _, h⟩
noncomputable def indexed (μ : MHeap) (a : MV) : Prop := (∃ l, seqOf μ a = some l) ∨ (∃ r es, a = .ref r ∧ μ r = some (.idict es)) ∨ ∃ r es, a = .ref r ∧ μ r = some (.tdict es)
theorem indexed.type {μ : MHeap} {s : Shared} {v : Value} {a : MV} (x : S0 c μ s) (r : Rep s.heap μ v a) (h : indexed μ a) : ∃ T id, s.TypeIs v T ∧ typeLookup (.type T) "__getitem__" = pure (some (.builtin id)) := by
  rcases h with ⟨l, e⟩ | ⟨q, es, rfl, hm⟩ | ⟨q, es, rfl, hm⟩
  · refine el4_4 (seq_at x r e) fun p vs n T eqz11 hT ho _ => ?_
    subst eqz11
    rcases hT with ⟨rfl, rfl⟩ | rfl
    · exact ⟨"tuple", _, ⟨_, ho, rfl⟩, slot_tuple_getitem.lookup⟩
    · exact ⟨"list", _, ⟨_, ho, rfl⟩, slot_list_getitem.lookup⟩
  · obtain rfl := r.isRef
    refine el1_2 (x.mu q _ hm) fun kvs hD _ => ?_
    exact ⟨"dict", _, hD.typeIs, slot_dict_getitem.lookup⟩
  · obtain rfl := r.isRef
    refine el1_2 (x.dictH hm) fun xs hD _ => ?_
    exact ⟨"dict", _, hD.typeIs, slot_dict_getitem.lookup⟩
noncomputable def Indexes (P : MV → MV → W0) : Prop := ∀ a b μ Q, P a b μ Q → indexed μ a
theorem indexes_L : Indexes pGetL := fun a b μ Q ⟨l, _, _, e, _⟩ => .inl ⟨l, e⟩
theorem indexes_I : Indexes pGetI := fun a b μ Q ⟨r, es, _, _, e, m, _⟩ => .inr (.inl ⟨r, es, e, m⟩)
theorem indexes_T : Indexes pGetT := fun a b μ Q ⟨r, es, _, _, e, m, _⟩ => .inr (.inr ⟨r, es, e, m⟩)
theorem JE.sub {l r : Expr} {pos : Pos} {W1 W2 : WE} {P : MV → MV → W0} (hop : Op2 c getItem P) (hi : Indexes P) (hl : JE c k sc l W1) (hr : JE c k sc r W2) (hs : ∀ o i, subscripted r false o i = operate [o, i] (getItem o i)) :
    JE c k sc (.Subscript l r pos) (w2 P W1 W2) := fun f A σ Q s e1 ok rm x h => by
  refine Subscript_ (wpAny_mono (hl f A σ _ s e1 ok rm x h) ?_ fun _ _ e => e)
  intro a s₁ hz12
  refine el2_4 hz12 fun d σ1 r1 x1 ev1 h1 => ?_
  refine wpAny_mono (hr f A σ1 _ s₁ e1 ok rm x1 h1) ?_ fun _ _ e => e
  intro b s₂ hz13
  refine el2_4 hz13 fun e σ2 r2 x2 ev2 h2 => ?_
  have r1' := r1.mono (ev2.keep x1.fr)
  refine el2_2 ((hi _ _ _ _ h2).type x2.s0 r1') fun T id hT hl => ?_
  exact tail_any hT hl (OKF.from (ev1.trans ev2) (lift0 x2 (hop A s₂ σ2.mu a b d e _ (rm.le (Nat.zero_le _)) x2.s0 r1' r2 h2))) (hs _ _)
noncomputable def pInL (neg : Bool) : MV → MV → W0 := fun a b μ Q => ∃ l, (b = .flist l ∨ ∃ r, b = .ref r ∧ μ r = some (.list l)) ∧ a.plain = true ∧ plains l = true ∧ a.dep ≤ 50 ∧ Q (.bool (xor neg (decide (a ∈ l)))) μ
noncomputable def pInI (neg : Bool) : MV → MV → W0 := fun a b μ Q => ∃ r es i, b = .ref r ∧ μ r = some (.idict es) ∧ a = .int i ∧ Q (.bool (xor neg (dget es i).isSome)) μ
noncomputable def pInT (neg : Bool) : MV → MV → W0 := fun a b μ Q => ∃ r es ks, b = .ref r ∧ μ r = some (.tdict es) ∧ a = .tup ks ∧ keys 5 ks = true ∧ Q (.bool (xor neg (dget es ks).isSome)) μ
theorem any_eqv {l : List MV} {d : MV} (hl : plains l = true) (hd : d.plain = true) : ((pys l).any fun y => PyData.eqv y d.py) = decide (d ∈ l) := by
  induction l with
  | nil => simp [pys]
  | cons y l ih =>
    simp only [plains, Bool.and_eq_true] at hl
    simp only [pys, List.any_cons, ih hl.2, py_eqv_decide hl.1 hd]
    by_cases e : y = d
    · subst e; simp
    · simp [e, Ne.symm e]
theorem list_reads {μ : MHeap} {s : Shared} {v : Value} {b : MV} {l : List MV} (x : S0 c μ s) (r : Rep s.heap μ v b) (h : b = .flist l ∨ ∃ r, b = .ref r ∧ μ r = some (.list l)) (hl : plains l = true) : ∃ as, Reads s.heap v (.list (pys l)) as := by
  rcases h with rfl | ⟨q, rfl, hm⟩
  · obtain ⟨as, e⟩ := r.reads (by simpa [MV.plain] using hl)
    exact ⟨as, by simpa [MV.py] using e⟩
  · obtain rfl := r.isRef
    refine el2_2 (x.mu q _ hm) fun its n ho p => ?_
    obtain ⟨as, e⟩ := p.reads hl
    exact ⟨_, .list ho rfl rfl (by simpa using e)⟩
theorem room_units {A : Around} (rm : Room A 0) : A.units + 100 < cLine := by have := rm.units; show A.units + 100 < 9900; lia
theorem op_inL : Op2 c (compareOp .In) (pInL false) := by
  intro A s μ va vb a b Q rm x r1 r2 hz14
  refine el1_5 hz14 fun l hb ha hl h50 h => ?_
  obtain ⟨as, p⟩ := r1.reads ha
  obtain ⟨bs, q⟩ := list_reads x r2 hb hl
  refine SeqAt.in_list_reads q p (pys_lay hl) (py_lay ha) ?_ ?_
  · have := room_units rm
    rw [py_depth]; lia
  · rw [any_eqv hl ha]; exact P0.here x (.bool _) (by simpa using h)
theorem op_notInL : Op2 c (compareOp .NotIn) (pInL true) := by
  intro A s μ va vb a b Q rm x r1 r2 hz15
  refine el1_5 hz15 fun l hb ha hl h50 h => ?_
  obtain ⟨as, p⟩ := r1.reads ha
  obtain ⟨bs, q⟩ := list_reads x r2 hb hl
  refine SeqAt.notIn_list_reads q p (pys_lay hl) (py_lay ha) ?_ ?_
  · have := room_units rm
    rw [py_depth]; lia
  · rw [any_eqv hl ha]; exact P0.here x (.bool _) (by simpa using h)
theorem op_inI : Op2 c (compareOp .In) (pInI false) := by
  intro A s μ va vb a b Q rm x r1 r2 hz16
  refine el3_4 hz16 fun r es i eqz17 hm eqz18 h => ?_
  subst eqz17
  subst eqz18
  obtain ⟨t, rfl⟩ := r1.isInt
  obtain rfl := r2.isRef
  refine el1_2 (x.mu r _ hm) fun kvs hD hp => ?_
  refine wpAny_in_of (intKind_is prog w i t) (x.notSys hm) hD.mapOf ⟨_, μ, .bool _, x.tok _, Evo0.refl _ _, ?_⟩
  rw [hp.isSome i]; simpa using h
theorem op_notInI : Op2 c (compareOp .NotIn) (pInI true) := by
  intro A s μ va vb a b Q rm x r1 r2 hz19
  refine el3_4 hz19 fun r es i eqz20 hm eqz21 h => ?_
  subst eqz20
  subst eqz21
  obtain ⟨t, rfl⟩ := r1.isInt
  obtain rfl := r2.isRef
  refine el1_2 (x.mu r _ hm) fun kvs hD hp => ?_
  refine wpAny_notIn_of (intKind_is prog w i t) (x.notSys hm) hD.mapOf ⟨_, μ, .bool _, x.tok _, Evo0.refl _ _, ?_⟩
  rw [hp.isSome i]; simpa using h
theorem op_notInT : Op2 c (compareOp .NotIn) (pInT true) := by
  intro A s μ va vb a b Q rm x r1 r2 hz22
  refine el3_5 hz22 fun r es ks eqz23 hm eqz24 hk h => ?_
  subst eqz23
  subst eqz24
  obtain rfl := r2.isRef
  refine el2_4 (r1.isTup) fun q vs eqz25 _ _ _ => ?_
  subst eqz25
  refine el1_3 (x.dictH hm) fun xs hD hK _ => ?_
  have hu : (mvKind prog w).room A.in1 := by have := rm.units; show A.units + 1 + 10 < 9900; lia
  refine wpAny_notIn_heap (knd := mvKind prog w) hu (r1.key (by simpa [MV.key] using hk)) (x.notSys hm) hD ⟨_, μ, .bool _, x.tok _, Evo0.refl _ _, ?_⟩
  rw [hK.isSome ks]; simpa using h
noncomputable def view (μ : MHeap) : MV → MV
  | .ref r => match μ r with
    | some (.list l) => .flist l
    | _ => .ref r
  | d => d
noncomputable def pEq (neg : Bool) : MV → MV → W0 := fun a b μ Q => (view μ a).plain = true ∧ (view μ b).plain = true ∧ (view μ a).dep ≤ 50 ∧ Q (.bool (xor neg (decide (view μ a = view μ b)))) μ
theorem view_reads {μ : MHeap} {s : Shared} {v : Value} {b : MV} (x : S0 c μ s) (r : Rep s.heap μ v b) (h : (view μ b).plain = true) : ∃ as, Reads s.heap v (view μ b).py as := by
  cases b with
  | ref a =>
    simp only [view] at h ⊢
    split at h
    · rename_i l hm
      exact list_reads x r (.inr ⟨a, rfl, hm⟩) (by simpa [MV.plain] using h)
    · simp [MV.plain] at h
  | _ => exact r.reads h
theorem op_eq : Op2 c (compareOp .Eq) (pEq false) := by
  intro A s μ va vb a b Q rm x r1 r2 hz26
  refine el0_4 hz26 fun ha hb h50 h => ?_
  obtain ⟨as, p⟩ := view_reads x r1 ha
  obtain ⟨bs, q⟩ := view_reads x r2 hb
  refine SeqAt.compareEq_reads p q (py_lay ha) (py_lay hb) ?_ ?_
  · have := room_units rm
    rw [py_depth]; lia
  · rw [py_eqv_decide ha hb]; exact P0.here x (.bool _) (by simpa using h)
theorem op_ne : Op2 c (compareOp .NotEq) (pEq true) := by
  intro A s μ va vb a b Q rm x r1 r2 hz27
  refine el0_4 hz27 fun ha hb h50 h => ?_
  obtain ⟨as, p⟩ := view_reads x r1 ha
  obtain ⟨bs, q⟩ := view_reads x r2 hb
  refine SeqAt.compareNe_reads p q (py_lay ha) (py_lay hb) ?_ ?_
  · have := room_units rm
    rw [py_depth]; lia
  · rw [py_eqv_decide ha hb]; exact P0.here x (.bool _) (by simpa using h)
end
end Mine
namespace Mine
open Classical
section
variable {prog : Program} {w : World} {c : Cx prog w} {k : Nat} {sc : List (Str × NameKind)}
theorem keep_other {h h' : Heap} {μ : MHeap} {a : Addr} (hk : ∀ b o, b ≠ a → h.get? b = some o → h'.get? b = some o) (hm : μ a = none) (hn : ∀ o vs n, h.get? a = some o → o.data ≠ .seq vs n) : Keep h μ h' μ where
  seq := fun b o vs n m e d => ⟨hk b o (by rintro rfl; exact hn o vs n e d) e, m⟩
  pin := fun b kvs ep es o m e => ⟨hk b o (by rintro rfl; rw [hm] at m; cases m) e, m⟩
theorem S0.other {μ : MHeap} {s : Shared} (x : S0 c μ s) {h' : Heap} {t : Nat} {a : Addr} (hk : ∀ b o, b ≠ a → s.heap.get? b = some o → h'.get? b = some o) (hB : c.B.get? a = none) (hm : μ a = none)
    (hn : ∀ o vs n, s.heap.get? a = some o → o.data ≠ .seq vs n) : S0 c μ { s with heap := h', toks := t } where
  base := fun b o e => hk b o (by rintro rfl; rw [hB] at e; cases e) (x.base b o e)
  gens := x.gens
  os := x.os
  mu := fun b mo m => (x.mu b mo m).mono (keep_other hk hm hn) fun o e => hk b o (by rintro rfl; rw [hm] at m; cases m) e
  muB := x.muB
  sys := x.sys
theorem S.grow {f : Fm} {σ : St} {s : Shared} (x : S c f σ s) {h' : Heap} {t : Nat} (hk : ∀ b o, s.heap.get? b = some o → h'.get? b = some o) : S c f σ { s with heap := h', toks := t } :=
  ⟨x.s0.keeps hk, x.fr.evo (s' := { s with heap := h', toks := t }) (Evo0.of_keeps hk)⟩
theorem S.other {f : Fm} {σ : St} {s : Shared} (x : S c f σ s) {h' : Heap} {t : Nat} {a : Addr} {o : Obj} {vs : Array Value} (hk : ∀ b o, b ≠ a → s.heap.get? b = some o → h'.get? b = some o) (hB : c.B.get? a = none) (hm : σ.mu a = none)
    (ho : s.heap.get? a = some o) (hd : o.data = .fields vs) : S c f σ { s with heap := h', toks := t } := by
  have hn : ∀ o vs n, s.heap.get? a = some o → o.data ≠ .seq vs n := fun o' vs n e q => by rw [ho] at e; cases e; rw [hd] at q; cases q
  have kp := keep_other hk hm hn
  refine ⟨x.s0.other hk hB hm hn, ?_, ?_, x.fr.dom, x.fr.muL, x.fr.muC⟩
  · refine el1_2 (x.fr.ns) fun m inz1 q => ?_
    refine el3_3 inz1 fun o' es ep e d r => ?_
    refine ⟨m, ⟨o', es, ep, hk _ _ ?_ e, d, r⟩, fun y d' l v => let ⟨u, p, z⟩ := q y d' l v; ⟨u, p, z.mono kp⟩⟩
    rintro rfl; rw [ho] at e; cases e; rw [hd] at d; cases d
  · intro y b l q
    refine el1_2 (x.fr.cell y b l q) fun ov inz2 z => ?_
    refine el1_2 inz2 fun o' e d => ?_
    refine ⟨ov, ⟨o', hk _ _ ?_ e, d⟩, fun d' v => let ⟨u, p, r⟩ := z d' v; ⟨u, p, r.mono kp⟩⟩
    rintro rfl; rw [ho] at e; cases e; rw [hd] at d; cases d
theorem FrS.notFields {f : Fm} {σ : St} {s : Shared} (x : FrS f σ s) {b : Addr} {o : Obj} {vs : Array Value} (e : s.heap.get? b = some o) (d : o.data = .fields vs) : ¬ f.Priv b := by
  rintro (rfl | ⟨y, l, q⟩)
  · refine el1_2 (x.ns) fun m inz3 _ => ?_
    refine el3_3 inz3 fun o' es ep e' d' _ => ?_
    rw [e] at e'; cases e'; rw [d] at d'; cases d'
  · refine el1_2 (x.cell y b (.inl l) q) fun ov inz4 _ => ?_
    refine el1_2 inz4 fun o' e' d' => ?_
    rw [e] at e'; cases e'; rw [d] at d'; cases d'
noncomputable def St.setv (σ : St) (x : Str) (d : MV) : St := { σ with vars := fun y => if y = x then some d else σ.vars y }
noncomputable def own (sc : List (Str × NameKind)) (x : Str) : Prop := sc.lookup x = some .local ∨ sc.lookup x = some .cell
theorem store {f : Fm} {A : Around} {σ : St} {s : Shared} {x : Str} {v : Value} {d : MV} {Q : Unit → Shared → Prop} (ok : FmOk c f) (X : S c f σ s) (r : Rep s.heap σ.mu v d) (hl : own f.sc x)
    (h : ∀ s', S c f (σ.setv x d) s' → EvoF f s.heap σ.mu s'.heap σ.mu → Q () s') : wpAny (model prog w) A (storeName f.env x v) Q no s := by
  rcases hl with l | l
  · refine el1_2 (X.fr.ns) fun m hn hm => ?_
    have hk := (ok.look _ _ l).resolve_right (fun q => nomatch q.1)
    refine wpAny_storeName_local hk hn (fun h' hn' hs' => h _ ?_ ?_) (by rw [ok.kind]; rfl)
    · have hnsq : ∀ o vs n, s.heap.get? f.env.locals = some o → o.data ≠ .seq vs n := fun o vs n e q => by
        refine el3_3 hn fun o' es ep e' d' _ => ?_
        rw [e] at e'; cases e'; rw [q] at d'; cases d'
      have kp := keep_other (μ := σ.mu) hs'.extBut X.fr.muL hnsq
      refine ⟨X.s0.other hs'.extBut ok.low X.fr.muL hnsq, ⟨_, hn', fun y d' ly hy => ?_⟩, fun y a ly hy => ?_, fun y d' hy => ?_, X.fr.muL, X.fr.muC⟩
      · simp only [St.setv] at hy ⊢
        by_cases q : y = x
        · subst q; simp only [if_true, Option.some.injEq] at hy ⊢; subst hy; exact ⟨v, rfl, r.mono kp⟩
        · simp only [if_neg q] at hy ⊢
          obtain ⟨u, p, z⟩ := hm y d' ly hy; exact ⟨u, p, z.mono kp⟩
      · refine el1_2 (X.fr.cell y a ly hy) fun ov inz5 z => ?_
        refine el1_2 inz5 fun o' e d' => ?_
        refine ⟨ov, ⟨o', hs'.extBut _ _ ?_ e, d'⟩, fun d'' v' => ?_⟩
        · rintro rfl
          refine el3_3 hn fun o'' es ep e' d'' _ => ?_
          rw [e] at e'; cases e'; rw [d'] at d''; cases d''
        · simp only [St.setv] at v'
          have q : y ≠ x := by rintro rfl; rw [l] at ly; rcases ly with h | h <;> cases h
          rw [if_neg q] at v'
          obtain ⟨u, p, z⟩ := z d'' v'; exact ⟨u, p, z.mono kp⟩
      · simp only [St.setv] at hy
        by_cases q : y = x
        · subst q; exact .inl l
        · rw [if_neg q] at hy; exact X.fr.dom y d' hy
    · exact fun b o e _ np => ⟨hs'.extBut b o (fun q => np (.inl q)) e, rfl⟩
  · obtain ⟨a, ha⟩ := ok.has _ (.inl l)
    refine el1_2 (X.fr.cell _ a (.inl l) ha) fun ov hc hv' => ?_
    have hk := (ok.look _ _ l).resolve_right (fun q => nomatch q.1)
    have hmu := X.fr.muC x a (.inl l) ha
    refine wpAny_storeName_cell ok.kind hk ha hc (fun h' hc' hs' => h _ ?_ ?_)
    · have hnsq : ∀ o vs n, s.heap.get? a = some o → o.data ≠ .seq vs n := fun o vs n e q => by
        refine el1_2 hc fun o' e' d' => ?_
        rw [e] at e'; cases e'; rw [q] at d'; cases d'
      have kp := keep_other (μ := σ.mu) hs'.extBut hmu hnsq
      refine ⟨X.s0.other hs'.extBut (ok.lowC _ _ l ha) hmu hnsq, ?_, fun y b ly hy => ?_, fun y d' hy => ?_, X.fr.muL, X.fr.muC⟩
      · refine el1_2 (X.fr.ns) fun m inz6 q => ?_
        refine el3_3 inz6 fun o' es ep e d' rr => ?_
        refine ⟨m, ⟨o', es, ep, hs'.extBut _ _ ?_ e, d', rr⟩, fun y d'' ly v' => ?_⟩
        · rintro rfl
          refine el1_2 hc fun o'' e' d'' => ?_
          rw [e] at e'; cases e'; rw [d'] at d''; cases d''
        · simp only [St.setv] at v'
          have q' : y ≠ x := by rintro rfl; rw [l] at ly; cases ly
          rw [if_neg q'] at v'
          obtain ⟨u, p, z⟩ := q y d'' ly v'; exact ⟨u, p, z.mono kp⟩
      · by_cases q : y = x
        · subst q
          rw [ha] at hy; cases hy
          refine ⟨_, hc', fun d' hd' => ?_⟩
          simp only [St.setv, if_true, Option.some.injEq] at hd'; subst hd'
          exact ⟨v, rfl, r.mono kp⟩
        · refine el1_2 (X.fr.cell y b ly hy) fun ov' inz7 z => ?_
          refine el1_2 inz7 fun o' e d' => ?_
          refine ⟨ov', ⟨o', hs'.extBut _ _ ?_ e, d'⟩, fun d'' v' => ?_⟩
          · rintro rfl; exact q (ok.inj _ _ _ hy ha)
          · simp only [St.setv] at v'
            rw [if_neg q] at v'
            obtain ⟨u, p, z⟩ := z d'' v'; exact ⟨u, p, z.mono kp⟩
      · simp only [St.setv] at hy
        by_cases q : y = x
        · subst q; exact .inr (.inl l)
        · rw [if_neg q] at hy; exact X.fr.dom y d' hy
    · exact fun b o e _ np => ⟨hs'.extBut b o (fun q => np (.inr ⟨x, l, q ▸ ha⟩)) e, rfl⟩
noncomputable abbrev WA := MV → St → (St → Prop) → Prop
noncomputable def PA (c : Cx prog w) (f : Fm) (s : Shared) (σ : St) (Q : St → Prop) (_ : Unit) (s' : Shared) : Prop := ∃ σ', S c f σ' s' ∧ EvoF f s.heap σ.mu s'.heap σ'.mu ∧ Q σ'
noncomputable def JA (c : Cx prog w) (k : Nat) (sc : List (Str × NameKind)) (t : Expr) (W : WA) : Prop :=
  ∀ (f : Fm) (A : Around) (σ : St) (Q : St → Prop) (s : Shared) (v : Value) (d : MV), f.sc = sc → FmOk c f → Room A k → S c f σ s → Rep s.heap σ.mu v d → W d σ Q → wpAny (model prog w) A (assign t f.env v) (PA c f s σ Q) no s
noncomputable def wSetv (x : Str) : WA := fun d σ Q => Q (σ.setv x d)
theorem JA.name {x : Str} {pos : Pos} (hx : own sc x) : JA c k sc (.Name x pos) (wSetv x) := fun f A σ Q s v d e1 ok rm X r h =>
  wpAny_assign_Name (store ok X r (e1 ▸ hx) fun s' X' ev => ⟨_, X', ev, h⟩)
theorem PA.from {f : Fm} {A : Around} {σ σ₁ : St} {s s₁ : Shared} {t : Sem Unit} {Q : St → Prop} (ev : EvoF f s.heap σ.mu s₁.heap σ₁.mu) (h : wpAny (model prog w) A t (PA c f s₁ σ₁ Q) no s₁) : wpAny (model prog w) A t (PA c f s σ Q) no s₁ :=
  wpAny_mono h (fun _ s' ⟨σ', x, ev', q⟩ => ⟨σ', x, ev.trans ev', q⟩) fun _ _ e => e
noncomputable def wEach : List WA → List MV → St → (St → Prop) → Prop
  | [], [], σ, Q => Q σ
  | W :: Ws, d :: ds, σ, Q => W d σ fun σ' => wEach Ws ds σ' Q
  | _, _, _, _ => False
noncomputable def oneTarget (t : Expr) : Prop := ∀ rest env, assignEach (t :: rest) env = (false, assign t env) :: assignEach rest env
inductive JAs (c : Cx prog w) (k : Nat) (sc : List (Str × NameKind)) : List Expr → List WA → Prop
  | nil : JAs c k sc [] []
  | cons {t : Expr} {W : WA} {ts : List Expr} {Ws : List WA} : oneTarget t → JA c k sc t W → JAs c k sc ts Ws → JAs c k sc (t :: ts) (W :: Ws)
theorem JAs.length {ts : List Expr} {Ws : List WA} (h : JAs c k sc ts Ws) (env : Env) : (assignEach ts env).length = Ws.length := by
  induction h with
  | nil => rfl
  | cons h1 _ _ ih => rw [h1, List.length_cons, List.length_cons, ih]
theorem JAs.star {ts : List Expr} {Ws : List WA} (h : JAs c k sc ts Ws) (env : Env) : (assignEach ts env).findIdx? (·.1) = none := by
  induction h with
  | nil => rfl
  | cons h1 _ _ ih => rw [h1, List.findIdx?_cons, ih]; rfl
theorem JAs.run {ts : List Expr} {Ws : List WA} (h : JAs c k sc ts Ws) : ∀ (f : Fm) (A : Around) (σ : St) (Q : St → Prop) (s : Shared) (vs : List Value) (ds : List MV), f.sc = sc → FmOk c f → Room A k → S c f σ s → RepAll s.heap σ.mu vs ds → wEach Ws ds σ Q →
    wpAny (model prog w) A (assignInOrder ((assignEach ts f.env).map (·.2)) vs) (PA c f s σ Q) no s := by
  induction h with
  | nil =>
    intro f A σ Q s vs ds _ _ _ X r h
    cases r with
    | nil => exact wpAny_assignInOrder_none ⟨σ, X, EvoF.refl _ _ _, h⟩
    | cons _ _ => exact h.elim
  | cons h1 h2 _ ih =>
    intro f A σ Q s vs ds e1 ok rm X r h
    cases r with
    | nil => exact h.elim
    | cons r rs =>
      rw [h1, List.map_cons]
      refine wpAny_assignInOrder_more (wpAny_mono (h2 f A σ _ s _ _ e1 ok rm X r h) ?_ fun _ _ e => e)
      intro _ s' hz8
      refine el1_3 hz8 fun σ' X' ev h' => ?_
      exact PA.from ev (ih f A σ' Q s' _ _ e1 ok rm X' (rs.mono (ev.keep X.fr)) h')
noncomputable def wTupT (Ws : List WA) : WA := fun d σ Q => ∃ ds, d = .tup ds ∧ ds.length = Ws.length ∧ wEach Ws ds σ Q
theorem JA.tup {ts : List Expr} {Ws : List WA} {n : Nat} {pos : Pos} (h : JAs c k sc ts Ws) : JA c k sc (.Tuple ts n pos) (wTupT Ws) := fun f A σ Q s v d e1 ok rm X r hw => by
  obtain ⟨ds, rfl, hl, hw⟩ := hw
  obtain ⟨a, vs, rfl, m, ho, rs⟩ := r.isTup
  refine wpAny_assign_Tuple (items := vs.toArray) rm.hand ⟨_, ho, rfl, 0, rfl⟩ ?_ (h.star f.env) fun h' he => ?_
  · rw [h.length f.env, List.size_toArray, rs.length, hl]
  · have hk : ∀ b o, s.heap.get? b = some o → h'.get? b = some o := fun b o e => he b o (Nat.ne_of_lt (Heap.lt_size e)) e
    have ev : EvoF f s.heap σ.mu h' σ.mu := (Evo0.of_keeps hk).toF
    exact PA.from ev (h.run f A σ Q { s with heap := h' } vs ds e1 ok rm (X.grow hk) (rs.mono (ev.keep X.fr)) hw)
inductive Fl where
  | next
  | ret (d : MV)
inductive FlRep (h : Heap) (μ : MHeap) : Flow → Fl → Prop
  | next : FlRep h μ .next .next
  | ret {v : Value} {d : MV} : Rep h μ v d → FlRep h μ (.ret v) (.ret d)
noncomputable abbrev WS := St → (Fl → St → Prop) → Prop
noncomputable def PS (c : Cx prog w) (f : Fm) (s : Shared) (σ : St) (Q : Fl → St → Prop) (fl : Flow) (s' : Shared) : Prop :=
  ∃ g σ', FlRep s'.heap σ'.mu fl g ∧ S c f σ' s' ∧ EvoF f s.heap σ.mu s'.heap σ'.mu ∧ Q g σ'
noncomputable def OKS (c : Cx prog w) (f : Fm) (A : Around) (t : Sem Flow) (σ : St) (s : Shared) (Q : Fl → St → Prop) : Prop := wpAny (model prog w) A t (PS c f s σ Q) no s
noncomputable def JS (c : Cx prog w) (k : Nat) (sc : List (Str × NameKind)) (st : Stmt) (W : WS) : Prop :=
  ∀ (f : Fm) (A : Around) (σ : St) (Q : Fl → St → Prop) (s : Shared), f.sc = sc → FmOk c f → Room A k → S c f σ s → W σ Q → OKS c f A (exec st f.env) σ s Q
noncomputable def JSs (c : Cx prog w) (k : Nat) (sc : List (Str × NameKind)) (sts : List Stmt) (W : WS) : Prop :=
  ∀ (f : Fm) (A : Around) (σ : St) (Q : Fl → St → Prop) (s : Shared), f.sc = sc → FmOk c f → Room A k → S c f σ s → W σ Q → OKS c f A (execs sts f.env) σ s Q
theorem OKS.from {f : Fm} {A : Around} {t : Sem Flow} {σ σ₁ : St} {s s₁ : Shared} {Q : Fl → St → Prop} (ev : EvoF f s.heap σ.mu s₁.heap σ₁.mu) (h : OKS c f A t σ₁ s₁ Q) : wpAny (model prog w) A t (PS c f s σ Q) no s₁ := by
  refine wpAny_mono h ?_ fun _ _ e => e
  intro v s' hz11
  refine el2_4 hz11 fun d σ' r x ev' q => ?_
  exact ⟨d, σ', r, x, ev.trans ev', q⟩
noncomputable def wNil : WS := fun σ Q => Q .next σ
noncomputable def wSeq (W1 W2 : WS) : WS := fun σ Q => W1 σ fun g σ' => match g with
  | .next => W2 σ' Q
  | .ret d => Q (.ret d) σ'
theorem JSs.nil : JSs c k sc [] wNil := fun f A σ Q s _ _ _ X h => wpAny_execs_nil ⟨.next, σ, .next, X, EvoF.refl _ _ _, h⟩
theorem JSs.cons {st : Stmt} {sts : List Stmt} {W1 W2 : WS} (h1 : JS c k sc st W1) (h2 : JSs c k sc sts W2) : JSs c k sc (st :: sts) (wSeq W1 W2) := fun f A σ Q s e1 ok rm X h => by
  refine wpAny_execs_cons (wpAny_mono (h1 f A σ _ s e1 ok rm X h) ?_ fun _ _ e => e)
  intro fl s' hz12
  refine el2_4 hz12 fun g σ' r X' ev q => ?_
  cases r with
  | next => exact OKS.from ev (h2 f A σ' Q s' e1 ok rm X' q)
  | ret r => exact ⟨_, σ', .ret r, X', ev, q⟩
noncomputable def wExpr (W : WE) : WS := fun σ Q => W σ fun d σ' => d = .none ∧ Q .next σ'
theorem JS.expr {e : Expr} {pos : Pos} {W : WE} (h : JE c k sc e W) (hs : ∀ env, swapsWith e none pos.line env = pure false) : JS c k sc (.Expr e pos) (wExpr W) := fun f A σ Q s e1 ok rm X hw => by
  refine wpAny_Expr (wpAny_mono (h f A σ _ s e1 ok rm X hw) ?_ fun _ _ e => e) ?_ (hs _)
  · intro v s' hz13
    refine el2_5 hz13 fun d σ' r X' ev eqz14 q => ?_
    subst eqz14
    cases r
    exact ⟨.next, σ', .next, X', ev, q⟩
  · unfold interactive
    rw [ok.kind]; rfl
noncomputable def wAssign (W : WE) (T : WA) : WS := fun σ Q => W σ fun d σ' => T d σ' fun σ'' => Q .next σ''
theorem JS.assign {t value : Expr} {pos : Pos} {W : WE} {T : WA} (hv : JE c k sc value W) (ht : JA c k sc t T) (h1 : oneTarget t) (hs : ∀ env, swapsWith value (some t) pos.line env = pure false) (hw : ∀ env, swappedStores [t] value env = pure none) :
    JS c k sc (.Assign [t] value pos) (wAssign W T) := fun f A σ Q s e1 ok rm X h => by
  refine wpAny_Assign_stores (wpAny_mono (hv f A σ _ s e1 ok rm X h) ?_ fun _ _ e => e) (hs _) (hw _)
  intro v s' hz15
  refine el2_4 hz15 fun d σ' r X' ev h' => ?_
  rw [h1]
  refine wpAny_mono (ht f A σ' _ s' v d e1 ok rm X' r h') ?_ fun _ _ e => e
  intro _ s'' hz16
  refine el1_3 hz16 fun σ'' X'' ev' q => ?_
  exact ⟨.next, σ'', .next, X'', ev.trans ev', q⟩
noncomputable def wCond (T : WT) (W1 W2 : WS) : WS := fun σ Q => T σ fun b σ' => (b = true → W1 σ' Q) ∧ (b = false → W2 σ' Q)
theorem JS.ite {test : Expr} {body orelse : List Stmt} {pos : Pos} {T : WT} {W1 W2 : WS} (ht : JT c k sc test T) (h1 : JSs c k sc body W1) (h2 : JSs c k sc orelse W2) : JS c k sc (.If test body orelse pos) (wCond T W1 W2) := fun f A σ Q s e1 ok rm X h => by
  refine wpAny_If (wpAny_mono (ht f A σ _ s e1 ok rm X h) ?_ fun _ _ e => e)
  intro b s' hz17
  refine el1_4 hz17 fun σ' X' ev h1' h2' => ?_
  cases b with
  | true => exact OKS.from ev (h1 f A σ' Q s' e1 ok rm X' (h1' rfl))
  | false => exact OKS.from ev (h2 f A σ' Q s' e1 ok rm X' (h2' rfl))
noncomputable def wRet (W : WE) : WS := fun σ Q => W σ fun d σ' => Q (.ret d) σ'
theorem JS.ret {e : Expr} {pos : Pos} {W : WE} (h : JE c k sc e W) : JS c k sc (.Return (some e) pos) (wRet W) := fun f A σ Q s e1 ok rm X hw => by
  refine wpAny_Return_some (wpAny_mono (h f A σ _ s e1 ok rm X hw) ?_ fun _ _ e => e)
  intro v s' hz18
  refine el2_4 hz18 fun d σ' r X' ev q => ?_
  exact ⟨.ret d, σ', .ret r, X', ev, q⟩
end
end Mine
namespace Mine
open Classical
section
variable {prog : Program} {w : World} {c : Cx prog w} {k : Nat} {sc : List (Str × NameKind)}
noncomputable def goIds : List String := ["enumerate", "zip", "dict_itemiterator", "dict_reverseitemiterator", "odict_iterator", "itertools.zip_longest", "itertools.pairwise"]
structure Itr (c : Cx prog w) (I : Addr) (items : List MV) (need : MHeap → Prop) (ok : Heap → MHeap → Prop) (At : Nat → Heap → Prop) : Prop where
  shape : ∀ i h, At i h → ∃ o vs T, h.get? I = some o ∧ o.data = .fields vs ∧ o.cls = .type T ∧ goIds.contains T = false
  stay : ∀ i h h', At i h → (∀ o, h.get? I = some o → h'.get? I = some o) → At i h'
  mono : ∀ h μ h' μ', ok h μ → Keep h μ h' μ' → ok h' μ'
  item : ∀ (A : Around) i d (s : Shared) μ (Q : Option Value → Shared → Prop) E, A.handled = none → items[i]? = some d → S0 c μ s → At i s.heap → ok s.heap μ → need μ →
    (∀ v h' tk, Rep s.heap μ v d → At (i + 1) h' → Heap.SameBut I s.heap h' → Q (some v) { s with heap := h', toks := tk }) → wpAny (model prog w) A (pyNext (.ref I)) Q E s
  done : ∀ (A : Around) (s : Shared) μ (Q : Option Value → Shared → Prop) E, A.handled = none → S0 c μ s → At items.length s.heap → ok s.heap μ → need μ →
    (∀ h', Heap.ExtBut I s.heap h' → Q none { s with heap := h' }) → wpAny (model prog w) A (pyNext (.ref I)) Q E s
  self : ∀ (A : Around) i (s : Shared) (Q : Value → Shared → Prop) E, At i s.heap → Q (.ref I) s → wpAny (model prog w) A (pyIter (.ref I)) Q E s
theorem Itr.go {I : Addr} {items : List MV} {need : MHeap → Prop} {ok : Heap → MHeap → Prop} {At : Nat → Heap → Prop} (X : Itr c I items need ok At) {A : Around} {i : Nat} {s : Shared} {target : Expr} {v : Value} {Q : Unit → Shared → Prop} {E : Value → Shared → Prop}
    (a : At i s.heap) (h : Q () s) : wpAny (model prog w) A (letOwnedTupleGo target (.ref I) v) Q E s := by
  refine el3_4 (X.shape i _ a) fun o vs T ho hd hc hT => ?_
  have key : ∀ r, v = .ref r → wpAny (model prog w) A (load I >>= fun o => match o.cls, o.data with
      | .type n, .fields vs => if (["enumerate", "zip", "dict_itemiterator", "dict_reverseitemiterator", "odict_iterator", "itertools.zip_longest", "itertools.pairwise"].contains n && vs[0]? == some (rawInt r)) = true then do
          rule "for.unpacks-the-owned-tuple"
          updateField I 0 .none
        else pure ()
      | _, _ => pure ()) Q E s := by
    intro r _
    refine wpAny_bind (wpAny_load ho ?_)
    rw [hc, hd]
    show wpAny _ A (if (goIds.contains T && vs[0]? == some (rawInt r)) = true then _ else _) Q E s
    rw [hT, Bool.false_and, if_neg Bool.false_ne_true]
    exact wpAny_pure h
  unfold letOwnedTupleGo
  cases target <;> first | exact wpAny_pure h | (cases v <;> first | exact wpAny_pure h | exact key _ rfl)
theorem Itr.list (a I : Addr) (items : List MV) (hne : a ≠ I) : Itr c I items (fun μ => μ a = some (.list items)) (fun _ _ => True) (fun i h => h.IsListIter I a i) where
  shape := fun i h ⟨o, ho, hc, hd⟩ => ⟨o, _, _, ho, hd, hc, by decide⟩
  stay := fun i h h' st hk => st.at hk
  mono := fun _ _ _ _ _ _ => trivial
  item := fun A i d s μ Q E hh hi X at' _ hm h => by
    refine el2_2 (X.mu a _ hm) fun its n ho r => ?_
    refine el1_2 (r.get hi) fun v hv rv => ?_
    exact wpAny_pyNext_list_item at' (x := v) ⟨_, ho, rfl, n, rfl⟩ (by simpa using hv) fun h' hit hs => h v h' s.toks rv hit hs
  done := fun A s μ Q E hh X at' _ hm h => by
    refine el2_2 (X.mu a _ hm) fun its n ho r => ?_
    exact wpAny_pyNext_list_end hh at' (items := its.toArray) ⟨_, ho, rfl, n, rfl⟩ (by rw [← r.length]; simp) h
  self := fun A i s Q E at' h => wpAny_pyIter_listiter at' h
theorem Itr.flist (a I : Addr) (items : List MV) (hne : a ≠ I) : Itr c I items (fun _ => True) (fun h μ => Rep h μ (.ref a) (.flist items)) (fun i h => h.IsListIter I a i) where
  shape := fun i h ⟨o, ho, hc, hd⟩ => ⟨o, _, _, ho, hd, hc, by decide⟩
  stay := fun i h h' st hk => st.at hk
  mono := fun _ _ _ _ r hk => r.mono hk
  item := fun A i d s μ Q E hh hi X at' r _ h => by
    refine el3_4 (r.isList) fun a' its n e _ ho r => ?_
    cases e
    refine el1_2 (r.get hi) fun v hv rv => ?_
    exact wpAny_pyNext_list_item at' (x := v) ⟨_, ho, rfl, n, rfl⟩ (by simpa using hv) fun h' hit hs => h v h' s.toks rv hit hs
  done := fun A s μ Q E hh X at' r _ h => by
    refine el3_4 (r.isList) fun a' its n e _ ho r => ?_
    cases e
    exact wpAny_pyNext_list_end hh at' (items := its.toArray) ⟨_, ho, rfl, n, rfl⟩ (by rw [← r.length]; simp) h
  self := fun A i s Q E at' h => wpAny_pyIter_listiter at' h
theorem Itr.tuple (a I : Addr) (items : List MV) (hne : a ≠ I) : Itr c I items (fun _ => True) (fun h μ => Rep h μ (.ref a) (.tup items)) (fun i h => h.IsTupleIter I a i) where
  shape := fun i h ⟨o, ho, hc, hd⟩ => ⟨o, _, _, ho, hd, hc, by decide⟩
  stay := fun i h h' st hk => let ⟨o, ho, r⟩ := st; ⟨o, hk _ ho, r⟩
  mono := fun _ _ _ _ r hk => r.mono hk
  item := fun A i d s μ Q E hh hi X at' r _ h => by
    refine el2_4 (r.isTup) fun a' its e _ ho r => ?_
    cases e
    refine el1_2 (r.get hi) fun v hv rv => ?_
    exact wpAny_pyNext_tuple_item at' (x := v) ⟨_, ho, rfl, 0, rfl⟩ (by simpa using hv) fun h' hit hs => h v h' s.toks rv hit hs
  done := fun A s μ Q E hh X at' r _ h => by
    refine el2_4 (r.isTup) fun a' its e _ ho r => ?_
    cases e
    exact wpAny_pyNext_tuple_end hh at' (items := its.toArray) ⟨_, ho, rfl, 0, rfl⟩ (by rw [← r.length]; simp) h
  self := fun A i s Q E at' h => wpAny_pyIter_tupleiter at' h
noncomputable def rngL (a st : Int) (n : Nat) : List MV := (List.range n).map fun i => MV.int (a + (i : Nat) * st)
theorem Itr.range (I : Addr) (a st : Int) (n : Nat) : Itr c I (rngL a st n) (fun _ => True) (fun _ _ => True) (fun i h => IsRangeIter h I (a + (i : Nat) * st) ((n : Int) - (i : Nat)) st) where
  shape := fun i h ho => ⟨_, _, _, ho, rfl, rfl, by decide⟩
  stay := fun i h h' st hk => hk _ st
  mono := fun _ _ _ _ _ _ => trivial
  item := fun A i d s μ Q E hh hi X at' _ _ h => by
    have hin : i < n := by
      have := (List.getElem?_eq_some_iff.mp hi).1
      simpa [rngL] using this
    have hd : d = .int (a + (i : Nat) * st) := by
      have e : (rngL a st n)[i]? = some (.int (a + (i : Nat) * st)) := by simp [rngL, hin]
      exact Option.some.inj (hi.symm.trans e)
    refine wpAny_pyNext_range_item at' (by lia) fun h' hit hs => h _ h' _ (by rw [hd]; exact .int _ _) ?_ hs
    have e1 : a + ((i + 1 : Nat) : Int) * st = a + (i : Int) * st + st := by push_cast; rw [Int.add_mul, Int.one_mul, Int.add_assoc]
    have e2 : (n : Int) - ((i + 1 : Nat) : Int) = (n : Int) - (i : Int) - 1 := by push_cast; lia
    rw [e1, e2]; exact hit
  done := fun A s μ Q E hh X at' _ _ h => by
    refine wpAny_pyNext_range_end hh at' ?_ h
    simp [rngL]
  self := fun A i s Q E at' h => wpAny_pyIter_rangeiter at' h
theorem Itr.keys (d I : Addr) (kvs : List (Int × Value)) (ep : Nat) (es : List (Int × MV)) (hne : d ≠ I) : Itr c I (es.map fun e => .int e.1) (fun _ => True) (fun h μ => μ d = some (.ipin kvs ep es) ∧ ∃ o, h.get? d = some o) (fun i h => h.IsKeyIter I d i kvs.length ep) where
  shape := fun i h ⟨o, ho, hc, hd⟩ => ⟨o, _, _, ho, hd, hc, by decide⟩
  stay := fun i h h' st hk => st.at hk
  mono := fun h μ h' μ' ⟨m, o, e⟩ hk => let ⟨p, q⟩ := hk.pin _ _ _ _ o m e; ⟨q, o, p⟩
  item := fun A i k s μ Q E hh hi X at' ⟨m, _⟩ _ h => by
    obtain ⟨hD, hP⟩ := X.mu d _ m
    rw [List.getElem?_map, Option.map_eq_some_iff] at hi
    refine el1_2 hi fun inz1 he eqz2 => ?_
    subst eqz2
    obtain ⟨k', d'⟩ := inz1
    have hlen : i < kvs.length := by rw [hP.length]; exact (List.getElem?_eq_some_iff.mp he).1
    have hk : (kvs.map (·.1))[i]? = some k' := by rw [hP.keys, List.getElem?_map, he]; rfl
    rw [List.getElem?_map, Option.map_eq_some_iff] at hk
    refine el1_2 hk fun inz3 hx eqz4 => ?_
    subst eqz4
    obtain ⟨k'', v⟩ := inz3
    refine wpAny_pyNext_dict_item at' hD hx fun key h' hkey hit hs => h key h' s.toks ?_ hit hs
    obtain ⟨t, rfl⟩ := Value.isInt_shape hkey
    exact .int _ _
  done := fun A s μ Q E hh X at' ⟨m, _⟩ _ h => by
    obtain ⟨hD, hP⟩ := X.mu d _ m
    refine wpAny_pyNext_dict_end hh at' hD ?_ h
    rw [List.length_map, ← hP.length]; simp
  self := fun A i s Q E at' h => wpAny_pyIter_keyiter at' h
end
end Mine
namespace Mine
open Classical
section
variable {prog : Program} {w : World} {c : Cx prog w} {k : Nat} {sc : List (Str × NameKind)}
theorem codeAny_forStep {A : Around} {s : Shared} {R : Result → Shared → Prop} {target it body env}
    (h : wpAny (model prog w) A (pyNext it) (fun r s₁ => match r with
      | none => R (.ok .next) s₁
      | some v => wpAny (model prog w) A (letOwnedTupleGo target it v) (fun _ s₁' => wpAny (model prog w) A (assign target env v) (fun _ s₂ => wpAny (model prog w) A (execs body env) (fun f s₃ => match f with
          | .next | .cont => codeAny (model prog w) A (.forLoop target it body [] env) R s₃
          | .brk => R (.ok .next) s₃
          | .ret v => R (.ok (.ret v)) s₃) no s₂) no s₁') no s₁) no s) :
    codeAny (model prog w) A (.forLoop target it body [] env) R s := by
  refine codeAny_of_tree ?_
  show wpAny _ A ((forTurn target it body [] env).onRaise (fun x => do noteFrame x env; theTreesLotGoes x)) _ _ s
  refine wpAny_onRaise (E := _) ?_
  simp only [forTurn]
  refine wpAny_mono (E := no) (wpAny_bind (wpAny_standAt (wpAny_bind (wpAny_onRaise (wpAny_mono h (fun r s₁ h₁ => ?_) fun _ _ h' => h'.elim))))) (fun _ _ q => q) fun _ _ h' => h'.elim
  cases r with
  | none => exact wpAny_pure ⟨rfl, codeAny_block (wpAny_execs_nil h₁)⟩
  | some v =>
    refine wpAny_bind (wpAny_mono h₁ (fun _ s₁' h₁' => ?_) fun _ _ h' => h')
    refine wpAny_bind (wpAny_mono h₁' (fun _ s₂ h₂ => wpAny_bind (wpAny_mono h₂ (fun f s₃ h₃ => ?_) fun _ _ h' => h')) fun _ _ h' => h')
    cases f with
    | next => exact wpAny_pure ⟨rfl, h₃⟩
    | cont => exact wpAny_pure ⟨rfl, h₃⟩
    | brk => exact wpAny_pure h₃
    | ret v => exact wpAny_pure h₃
theorem codeAny_whileStep {A : Around} {s : Shared} {R : Result → Shared → Prop} {test body env}
    (h : wpAny (model prog w) A (isTrue test env (eval test env)) (fun b s₁ => (b = false → R (.ok .next) s₁) ∧ (b = true → wpAny (model prog w) A (execs body env) (fun f s₃ => match f with
          | .next | .cont => codeAny (model prog w) A (.whileLoop test body [] env) R s₃
          | .brk => R (.ok .next) s₃
          | .ret v => R (.ok (.ret v)) s₃) no s₁)) no s) :
    codeAny (model prog w) A (.whileLoop test body [] env) R s := by
  refine codeAny_of_tree ?_
  show wpAny _ A ((whileTurn test body [] env).onRaise (fun x => do noteFrame x env; theTreesLotGoes x)) _ _ s
  refine wpAny_onRaise (E := _) ?_
  simp only [whileTurn]
  refine wpAny_mono (E := no) (wpAny_bind (wpAny_mono h (fun b s₁ h₁ => ?_) fun _ _ h' => h')) (fun _ _ q => q) fun _ _ h' => h'.elim
  cases b with
  | false =>
    simp only [Bool.false_eq_true, if_false]
    exact wpAny_bind (wpAny_execs_nil (wpAny_pure (h₁.1 rfl)))
  | true =>
    simp only [if_true]
    refine wpAny_bind (wpAny_mono (h₁.2 rfl) (fun f s₃ h₃ => ?_) fun _ _ h' => h')
    cases f with
    | next => exact wpAny_pure ⟨rfl, h₃⟩
    | cont => exact wpAny_pure ⟨rfl, h₃⟩
    | brk => exact wpAny_pure h₃
    | ret v => exact wpAny_pure h₃
noncomputable abbrev WSrc := St → (List MV → (MHeap → Prop) → St → Prop) → Prop
structure Hand (c : Cx prog w) (f : Fm) (P : Addr → Prop) (I : Addr) (items : List MV) (need : MHeap → Prop) (ok : Heap → MHeap → Prop) (At : Nat → Heap → Prop) (h₀ : Heap) (μ₀ : MHeap) (i : Nat) (σ : St) (s : Shared) : Prop where
  it : Itr c I items need ok At
  at' : At i s.heap
  ok : ok s.heap σ.mu
  st : S c f σ s
  nB : c.B.get? I = none
  n0 : ∀ b o, h₀.get? b = some o → fixed (μ₀ b) → ¬ P b → b ≠ I
  nm : σ.mu I = none
noncomputable def PI (c : Cx prog w) (f : Fm) (s : Shared) (σ : St) (Q : List MV → (MHeap → Prop) → St → Prop) (v : Value) (s' : Shared) : Prop :=
  ∃ I items need ok At σ', v = .ref I ∧ Hand c f f.Priv I items need ok At s.heap σ.mu 0 σ' s' ∧ EvoF f s.heap σ.mu s'.heap σ'.mu ∧ Q items need σ'
noncomputable def JSrc (c : Cx prog w) (k : Nat) (sc : List (Str × NameKind)) (e : Expr) (W : WSrc) : Prop :=
  ∀ (f : Fm) (A : Around) (σ : St) (Q : List MV → (MHeap → Prop) → St → Prop) (s : Shared), f.sc = sc → FmOk c f → Room A k → S c f σ s → W σ Q →
    wpAny (model prog w) A (eval e f.env) (fun v s₁ => wpAny (model prog w) A (pyIter v) (PI c f s σ Q) no s₁) no s
noncomputable def srcOf (μ : MHeap) : MV → Option (List MV × (MHeap → Prop))
  | .tup l => some (l, fun _ => True)
  | .flist l => some (l, fun _ => True)
  | .ref a => match μ a with
    | some (.list l) => some (l, fun μ => μ a = some (.list l))
    | _ => none
  | _ => none
noncomputable def wSrc (W : WE) : WSrc := fun σ Q => W σ fun d σ' => ∃ items need, srcOf σ'.mu d = some (items, need) ∧ Q items need σ'
theorem hand_new {f : Fm} {σ σ' : St} {s s₁ : Shared} {Q : List MV → (MHeap → Prop) → St → Prop} {items : List MV} {need : MHeap → Prop} {ok : Heap → MHeap → Prop} {At : Nat → Heap → Prop} {o : Obj} {t : Nat}
    (X : S c f σ' s₁) (ev : EvoF f s.heap σ.mu s₁.heap σ'.mu)
    (it : Itr c s₁.heap.objs.size items need ok At) (at' : At 0 (s₁.heap.push o)) (k : ok (s₁.heap.push o) σ'.mu) (q : Q items need σ') : PI c f s σ Q (.ref s₁.heap.objs.size) { s₁ with heap := s₁.heap.push o, toks := t } := by
  have hk : ∀ b x, s₁.heap.get? b = some x → (s₁.heap.push o).get? b = some x := fun b x e => Heap.get?_push_of_some _ e
  refine ⟨_, items, need, ok, At, σ', rfl, ⟨it, at', k, X.grow hk, X.s0.newB (Nat.le_refl _), fun b x e m n => Nat.ne_of_lt (Heap.lt_size (ev b x e m n).1), X.s0.fresh (Nat.le_refl _)⟩, ev.trans (Evo0.of_keeps hk).toF, q⟩
theorem Hand.next {f : Fm} {P : Addr → Prop} {A : Around} {I : Addr} {items : List MV} {need : MHeap → Prop} {ok : Heap → MHeap → Prop} {At : Nat → Heap → Prop} {h₀ : Heap} {μ₀ : MHeap} {i : Nat} {σ : St} {s : Shared} {Q : Option Value → Shared → Prop} {E : Value → Shared → Prop}
    (X : Hand c f P I items need ok At h₀ μ₀ i σ s) (ev : EvoP P h₀ μ₀ s.heap σ.mu) (hh : A.handled = none) (hn : need σ.mu)
    (h1 : ∀ d v s', items[i]? = some d → Rep s'.heap σ.mu v d → Hand c f P I items need ok At h₀ μ₀ (i + 1) σ s' → EvoP P h₀ μ₀ s'.heap σ.mu → Q (some v) s')
    (h2 : ∀ s', i = items.length → S c f σ s' → EvoP P h₀ μ₀ s'.heap σ.mu → Q none s') (hi : i ≤ items.length) : wpAny (model prog w) A (pyNext (.ref I)) Q E s := by
  refine el3_3 (X.it.shape _ _ X.at') fun o vs T ho hd _ => ?_
  have hnq : ∀ o vs n, s.heap.get? I = some o → o.data ≠ .seq vs n := fun o' vs n e q => by rw [ho] at e; cases e; rw [hd] at q; cases q
  by_cases hlt : i < items.length
  · refine X.it.item A i items[i] s σ.mu Q E hh (by simp [hlt]) X.st.s0 X.at' X.ok hn fun v h' tk r a' hs => ?_
    have kp := keep_other hs.extBut X.nm hnq
    exact h1 _ v _ (by simp [hlt]) (r.mono kp) ⟨X.it, a', X.it.mono _ _ _ _ X.ok kp, X.st.other hs.extBut X.nB X.nm ho hd, X.nB, X.n0, X.nm⟩ (ev.skip hs.extBut X.n0)
  · have e : i = items.length := by lia
    refine X.it.done A s σ.mu Q E hh X.st.s0 (e ▸ X.at') X.ok hn fun h' hs => ?_
    exact h2 _ e (X.st.other hs X.nB X.nm ho hd) (ev.skip hs X.n0)
theorem Hand.evo {f : Fm} {P : Addr → Prop} {I : Addr} {items : List MV} {need : MHeap → Prop} {ok : Heap → MHeap → Prop} {At : Nat → Heap → Prop} {h₀ : Heap} {μ₀ : MHeap} {i : Nat} {σ σ' : St} {s s' : Shared} (X : Hand c f P I items need ok At h₀ μ₀ i σ s)
    (X' : S c f σ' s') (ev : EvoF f s.heap σ.mu s'.heap σ'.mu) : Hand c f P I items need ok At h₀ μ₀ i σ' s' := by
  refine el3_3 (X.it.shape _ _ X.at') fun o vs T ho hd _ => ?_
  have e := ev.out ho X.nm (X.st.fr.notFields ho hd)
  exact ⟨X.it, X.it.stay _ _ _ X.at' fun o' ho' => by rw [ho] at ho'; cases ho'; exact e.1, X.it.mono _ _ _ _ X.ok (ev.keep X.st.fr), X', X.nB, X.n0, e.2⟩
noncomputable def wLoop (need : MHeap → Prop) (T : WA) (B : WS) : List MV → WS
  | [], σ, Q => need σ.mu ∧ Q .next σ
  | d :: r, σ, Q => need σ.mu ∧ T d σ fun σ1 => B σ1 fun g σ2 => match g with
    | .next => wLoop need T B r σ2 Q
    | .ret v => Q (.ret v) σ2
theorem for_core {f : Fm} {P : Addr → Prop} {A : Around} {target : Expr} {body : List Stmt} {T : WA} {B : WS} {Q : Fl → St → Prop} {R : Result → Shared → Prop} {I : Addr} {items : List MV} {need : MHeap → Prop} {ok : Heap → MHeap → Prop} {At : Nat → Heap → Prop} {h₀ : Heap} {μ₀ : MHeap}
    (e1 : f.sc = sc) (fo : FmOk c f) (rm : Room A k) (hp : ∀ b o, h₀.get? b = some o → fixed (μ₀ b) → ¬ P b → ¬ f.Priv b) (ht : JA c k sc target T) (hb : JSs c k sc body B)
    (hR : ∀ fl g σ' s', FlRep s'.heap σ'.mu fl g → S c f σ' s' → EvoP P h₀ μ₀ s'.heap σ'.mu → Q g σ' → R (.ok fl) s') :
    ∀ (rest : List MV) (i : Nat) (σ : St) (s : Shared), items.drop i = rest → i ≤ items.length → Hand c f P I items need ok At h₀ μ₀ i σ s → EvoP P h₀ μ₀ s.heap σ.mu → wLoop need T B rest σ Q →
      codeAny (model prog w) A (.forLoop target (.ref I) body [] f.env) R s
  | [], i, σ, s, hd, hi, X, ev, h => by
    refine codeAny_forStep (X.next ev rm.hand h.1 ?_ ?_ hi)
    · intro d v s' hd' _ _ _
      have := (List.getElem?_eq_some_iff.mp hd').1
      have h2 := congrArg List.length hd
      rw [List.length_drop, List.length_nil] at h2
      lia
    · exact fun s' _ X' ev' => hR _ _ σ s' .next X' ev' h.2
  | d :: rest, i, σ, s, hd, hi, X, ev, h => by
    have hlt := (drop_at hd).1
    have hget : items[i]? = some d := (drop_at hd).2.1
    have hdrop := (drop_at hd).2.2
    refine codeAny_forStep (X.next ev rm.hand h.1 ?_ ?_ hi)
    · intro d' v s₁ hd' r X1 ev1
      rw [hget] at hd'; cases hd'
      refine X1.it.go X1.at' ?_
      refine wpAny_mono (ht f A σ _ s₁ v d e1 fo rm X1.st r h.2) ?_ fun _ _ e => e
      intro _ s₂ hz1
      refine el1_3 hz1 fun σ2 X2 ev2 h2 => ?_
      refine wpAny_mono (hb f A σ2 _ s₂ e1 fo rm X2 h2) ?_ fun _ _ e => e
      intro fl s₃ hz2
      refine el2_4 hz2 fun g σ3 r3 X3 ev3 h3 => ?_
      have evt := ev1.next (ev2.trans ev3) hp
      cases r3 with
      | next => exact for_core e1 fo rm hp ht hb hR rest (i + 1) σ3 s₃ hdrop hlt (X1.evo X3 (ev2.trans ev3)) evt h3
      | ret r3 => exact hR _ _ σ3 s₃ (.ret r3) X3 evt h3
    · intro s' e _ _; lia
noncomputable def wFor (S : WSrc) (T : WA) (B : WS) : WS := fun σ Q => S σ fun items need σ' => wLoop need T B items σ' Q
theorem JS.for {target iter : Expr} {body : List Stmt} {pos : Pos} {Sr : WSrc} {T : WA} {B : WS} (hi : JSrc c k sc iter Sr) (ht : JA c k sc target T) (hb : JSs c k sc body B) (hs : ∀ env x, foldedSetIterable iter env x = pure x) :
    JS c k sc (.For target iter body [] pos) (wFor Sr T B) := fun f A σ Q s e1 fo rm X h => by
  refine wpAny_For (wpAny_mono (hi f A σ _ s e1 fo rm X h) (fun v s₁ h1 => wpAny_mono h1 ?_ fun _ _ e => e) fun _ _ e => e) (hs _)
  rintro it s₂ ⟨I, items, need, ok, At, σ2, rfl, H, ev, h2⟩
  refine for_core (h₀ := s.heap) (μ₀ := σ.mu) (Q := Q) e1 fo ⟨rm.hand, rm.depth, rm.units⟩ (P := f.Priv) (fun _ _ _ _ n => n) ht hb ?_ items 0 σ2 s₂ rfl (Nat.zero_le _) H ev h2
  exact fun fl g σ' s' r X' ev' q => ⟨g, σ', r, X', ev', q⟩
theorem JSrc.seq {e : Expr} {W : WE} (h : JE c k sc e W) : JSrc c k sc e (wSrc W) := fun f A σ Q s e1 fo rm X hw => by
  refine wpAny_mono (h f A σ _ s e1 fo rm X hw) ?_ fun _ _ e => e
  rintro v s₁ ⟨d, σ1, r, X1, ev, items, need, hs, q⟩
  have hk : ∀ (o : Obj) b x, s₁.heap.get? b = some x → (s₁.heap.push o).get? b = some x := fun o b x e => Heap.get?_push_of_some _ e
  cases d with
  | tup l =>
    cases hs
    refine el2_4 (r.isTup) fun a vs eqz6 m ho rs => ?_
    subst eqz6
    refine wpAny_pyIter_tuple (items := vs.toArray) ⟨_, ho, rfl, 0, rfl⟩ (hand_new X1 ev (Itr.tuple a _ _ (Nat.ne_of_lt (Heap.lt_size ho))) ⟨_, Heap.get?_push_size _ rfl, rfl, rfl⟩ (r.mono (Evo0.of_keeps (hk _)).keep) q)
  | flist l =>
    cases hs
    refine el3_4 (r.isList) fun a vs n eqz7 m ho rs => ?_
    subst eqz7
    refine wpAny_pyIter_list (items := vs.toArray) ⟨_, ho, rfl, n, rfl⟩ (hand_new X1 ev (Itr.flist a _ _ (Nat.ne_of_lt (Heap.lt_size ho))) ⟨_, Heap.get?_push_size _ rfl, rfl, rfl⟩ (r.mono (Evo0.of_keeps (hk _)).keep) q)
  | ref a =>
    obtain rfl := r.isRef
    simp only [srcOf] at hs
    split at hs
    · rename_i l hm
      cases hs
      refine el2_2 (X1.s0.mu a _ hm) fun its n ho rs => ?_
      refine wpAny_pyIter_list (items := its.toArray) ⟨_, ho, rfl, n, rfl⟩ (hand_new X1 ev (Itr.list a _ _ (Nat.ne_of_lt (Heap.lt_size ho))) ⟨_, Heap.get?_push_size _ rfl, rfl, rfl⟩ trivial q)
    · cases hs
  | _ => cases hs
noncomputable def rngOf : List MV → Option (Int × Int × Nat)
  | [.int n] => some (0, 1, n.toNat)
  | [.int a, .int b] => some (a, 1, (b - a).toNat)
  | [.int a, .int b, .int st] => if st = -1 then some (a, -1, (a - b).toNat) else none
  | _ => none
noncomputable def smallArgs (ds : List MV) : Prop := ∀ d ∈ ds, ∃ i, d = .int i ∧ i.natAbs < 2 ^ 40
noncomputable def wRange (Ws : List WE) : WSrc := fun σ Q => wArgs Ws σ fun ds σ' => smallArgs ds ∧ ∃ a st n, rngOf ds = some (a, st, n) ∧ Q (rngL a st n) (fun _ => True) σ'
theorem rangeSize_down (a b : Int) : Builtin.Range.rangeSize a b (-1) = ((a - b).toNat : Int) := by
  unfold Builtin.Range.rangeSize
  simp only [show ¬ (-1 : Int) > 0 by decide, if_false, show (-(-1) : Int) = 1 from rfl, Int.ediv_one]
  split <;> lia
theorem nab {a : Int} (h : a.natAbs < 2 ^ 40) : -2 ^ 40 < a ∧ a < 2 ^ 40 := by lia
theorem small_down {a b : Int} (ha : a.natAbs < 2 ^ 40) (hb : b.natAbs < 2 ^ 40) : Builtin.Range.small a b (-1) = true := by
  unfold Builtin.Range.small
  rw [rangeSize_down]
  simp only [Builtin.Range.rangeFitsLong, Bool.and_eq_true, Bool.or_eq_true, decide_eq_true_eq, beq_iff_eq, show ¬ (-1 : Int) > 0 by decide, if_false]
  have h1 := nab ha
  have h2 := nab hb
  have h3 : ((a - b).toNat : Int) < 2 ^ 63 := by lia
  clear ha hb
  exact ⟨⟨⟨⟨⟨by lia, by lia⟩, by lia, by lia⟩, by decide⟩, by lia, h3⟩, .inr ⟨by lia, by lia⟩⟩
theorem RepAll.int1 {h : Heap} {μ : MHeap} {vs : List Value} {i : Int} {ds : List MV} (r : RepAll h μ vs (.int i :: ds)) : ∃ t vs', vs = .int i t :: vs' ∧ RepAll h μ vs' ds := by
  cases r with
  | cons r1 r2 =>
    obtain ⟨t, rfl⟩ := r1.isInt
    exact ⟨t, _, rfl, r2⟩
theorem RepAll.none0 {h : Heap} {μ : MHeap} {vs : List Value} (r : RepAll h μ vs []) : vs = [] := by cases r; rfl
noncomputable def Three (vs : List Value) (a st : Int) (n : Nat) : Prop :=
    (∃ i t, vs = [.int i t] ∧ a = 0 ∧ st = 1 ∧ n = i.toNat ∧ i.natAbs < 2 ^ 40) ∨ (∃ i t j u, vs = [.int i t, .int j u] ∧ a = i ∧ st = 1 ∧ n = (j - i).toNat ∧ i.natAbs < 2 ^ 40 ∧ j.natAbs < 2 ^ 40) ∨
    (∃ i t j u v, vs = [.int i t, .int j u, .int (-1) v] ∧ a = i ∧ st = -1 ∧ n = (i - j).toNat ∧ i.natAbs < 2 ^ 40 ∧ j.natAbs < 2 ^ 40)
theorem some3 {α β γ : Type} {a a' : α} {b b' : β} {c c' : γ} (e : some (a, b, c) = some (a', b', c')) : a' = a ∧ b' = b ∧ c' = c := by cases e; exact ⟨rfl, rfl, rfl⟩
theorem RepAll.three {h : Heap} {μ : MHeap} {vs : List Value} {ds : List MV} (r : RepAll h μ vs ds) (hs : smallArgs ds) {a st : Int} {n : Nat} (e : rngOf ds = some (a, st, n)) : Three vs a st n := by
  cases ds with
  | nil => exact nomatch (show (none : Option (Int × Int × Nat)) = some (a, st, n) from e)
  | cons d ds =>
  have ⟨i, hi, qi⟩ := hs _ List.mem_cons_self
  subst hi
  have ⟨t, vs1, e4, r⟩ := r.int1
  cases ds with
  | nil =>
    have ⟨e1, e2, e3⟩ := some3 e
    exact .inl ⟨i, t, r.none0 ▸ e4, e1, e2, e3, qi⟩
  | cons d ds =>
  have ⟨j, hj, qj⟩ := hs _ (List.mem_cons_of_mem _ List.mem_cons_self)
  subst hj
  have ⟨u, vs2, e5, r⟩ := r.int1
  cases ds with
  | nil =>
    have ⟨e1, e2, e3⟩ := some3 e
    exact .inr (.inl ⟨i, t, j, u, r.none0 ▸ e5 ▸ e4, e1, e2, e3, qi, qj⟩)
  | cons d ds =>
  have ⟨k, hk, _⟩ := hs _ (List.mem_cons_of_mem _ (List.mem_cons_of_mem _ List.mem_cons_self))
  subst hk
  have ⟨v, vs3, e6, r⟩ := r.int1
  cases ds with
  | nil =>
    have e : (if k = -1 then some (i, (-1 : Int), (i - j).toNat) else none) = some (a, st, n) := e
    by_cases hst : k = -1
    · rw [if_pos hst] at e
      have ⟨e1, e2, e3⟩ := some3 e
      exact .inr (.inr ⟨i, t, j, u, v, r.none0 ▸ hst ▸ e6 ▸ e5 ▸ e4, e1, e2, e3, qi, qj⟩)
    · rw [if_neg hst] at e; cases e
  | cons d ds => exact nomatch (show (none : Option (Int × Int × Nat)) = some (a, st, n) from e)
theorem iter_at (h : Heap) (a st : Int) (n : Nat) : IsRangeIter (h.push { cls := .type "range_iterator", data := .fields #[rawInt a, rawInt (n : Int), rawInt st] }) h.objs.size (a + ((0 : Nat) : Int) * st) ((n : Int) - ((0 : Nat) : Int)) st := by
  have := Heap.get?_push_size (h := h) (o := { cls := .type "range_iterator", data := .fields #[rawInt a, rawInt (n : Int), rawInt st] }) rfl
  simpa using this
theorem JSrc.range {np pos : Pos} {es : List Expr} {Ws : List WE} (hf : Callee c ("range" : Str) (.type "range")) (hg : sc.lookup ("range" : Str) = some .globalImplicit) (ha : JEs c k sc es Ws) : JSrc c k sc (.Call (.Name ("range" : Str) np) es [] pos) (wRange Ws) := fun f A σ Q s e1 ok rm X h => by
  show wpAny _ _ (eval (.Name ("range" : Str) np) f.env >>= fun fv => callWith pos fv [] (backTo pos (starEach es f.env)) []) _ _ _
  have hk := (ok.look ("range" : Str) .globalImplicit (e1 ▸ hg)).resolve_right (fun q => nomatch q.1)
  refine wpAny_bind (hf.name f A s _ σ np ok hk X ?_)
  refine callWith_of (P := fun h => ∀ b o, c.B.get? b = some o → h.get? b = some o) (by rw [ha.plain pos f.env]; rfl) hf.keep ?_
  refine wpAny_mono (ha.args pos (.type "range") f A σ _ s e1 ok rm X h) ?_ fun _ _ e => e
  rintro ⟨vs, kw⟩ s₁ ⟨⟨ds, σ1, r, x1, ev, hs, a, st, n, hr, q⟩, rfl⟩
  refine ⟨x1.s0.base, ?_⟩
  have key : ∀ (o : Obj) (t : Nat), EvoF f s.heap σ.mu (s₁.heap.push o) σ1.mu ∧ S c f σ1 { s₁ with heap := s₁.heap.push o, toks := t } := fun o t => by
    have hk : ∀ b x, s₁.heap.get? b = some x → (s₁.heap.push o).get? b = some x := fun b x e => Heap.get?_push_of_some _ e
    exact ⟨ev.trans (Evo0.of_keeps hk).toF, x1.grow hk⟩
  rcases r.three hs hr with ⟨i, t, rfl, rfl, rfl, rfl, hi⟩ | ⟨i, t, j, u, rfl, rfl, rfl, rfl, hi, hj⟩ | ⟨i, t, j, u, v, rfl, rfl, rfl, rfl, hi, hj⟩
  · refine call_range_1 ?_
    obtain ⟨ev', x'⟩ := key _ (s₁.toks + 1 + 1)
    refine wpAny_pyIter_range (IsRange.new ..) (small_one (by lia) (by lia) (by lia) (by lia)) (hand_new x' ev' (Itr.range _ _ _ _) ?_ trivial q)
    show IsRangeIter _ _ _ _ _
    rw [rangeSize_nat, Int.sub_zero]
    exact iter_at _ _ _ _
  · refine call_range_2 ?_
    obtain ⟨ev', x'⟩ := key _ (s₁.toks + 1)
    refine wpAny_pyIter_range (IsRange.new ..) (small_one (by lia) (by lia) (by lia) (by lia)) (hand_new x' ev' (Itr.range _ _ _ _) ?_ trivial q)
    show IsRangeIter _ _ _ _ _
    rw [rangeSize_nat]
    exact iter_at _ _ _ _
  · refine call_range_3 (by decide) ?_ (.inl (PyProof.noPylong_small (by lia)))
    obtain ⟨ev', x'⟩ := key _ s₁.toks
    refine wpAny_pyIter_range (IsRange.new ..) (small_down hi hj) (hand_new x' ev' (Itr.range _ _ _ _) ?_ trivial q)
    show IsRangeIter _ _ _ _ _
    rw [rangeSize_down]
    exact iter_at _ _ _ _
noncomputable def wWhile (T : WT) (B : WS) : WS := fun σ Q => ∃ (I : Nat → St → Prop) (n : Nat), I n σ ∧ ∀ n σ, I n σ → T σ fun b σ1 => (b = false → Q .next σ1) ∧ (b = true → B σ1 fun g σ2 => match g with
  | .next => ∃ m, m < n ∧ I m σ2
  | .ret d => Q (.ret d) σ2)
theorem while_core {f : Fm} {A : Around} {test : Expr} {body : List Stmt} {T : WT} {B : WS} {Q : Fl → St → Prop} {h₀ : Heap} {μ₀ : MHeap} {R : Result → Shared → Prop} (e1 : f.sc = sc) (fo : FmOk c f) (rm : Room A k) (ht : JT c k sc test T) (hb : JSs c k sc body B)
    (hR : ∀ fl g σ' s', FlRep s'.heap σ'.mu fl g → S c f σ' s' → EvoF f h₀ μ₀ s'.heap σ'.mu → Q g σ' → R (.ok fl) s')
    (I : Nat → St → Prop) (step : ∀ n σ, I n σ → T σ fun b σ1 => (b = false → Q .next σ1) ∧ (b = true → B σ1 fun g σ2 => match g with
      | .next => ∃ m, m < n ∧ I m σ2
      | .ret d => Q (.ret d) σ2)) (n : Nat) :
    ∀ (σ : St) (s : Shared), I n σ → S c f σ s → EvoF f h₀ μ₀ s.heap σ.mu → codeAny (model prog w) A (.whileLoop test body [] f.env) R s := by
  induction n using Nat.strongRecOn with
  | ind n ih =>
    intro σ s hI X ev
    refine codeAny_whileStep (wpAny_mono (ht f A σ _ s e1 fo rm X (step n σ hI)) ?_ fun _ _ e => e)
    intro b s₁ hz8
    refine el1_3 hz8 fun σ1 X1 ev1 h1 => ?_
    refine ⟨fun e => hR _ _ σ1 s₁ .next X1 (ev.trans ev1) (h1.1 e), fun e => ?_⟩
    refine wpAny_mono (hb f A σ1 _ s₁ e1 fo rm X1 (h1.2 e)) ?_ fun _ _ e => e
    intro fl s₂ hz9
    refine el2_4 hz9 fun g σ2 r X2 ev2 h2 => ?_
    have evt := (ev.trans ev1).trans ev2
    cases r with
    | next => obtain ⟨m, hm, hI2⟩ := h2; exact ih m hm σ2 s₂ hI2 X2 evt
    | ret r => exact hR _ _ σ2 s₂ (.ret r) X2 evt h2
theorem JS.while {test : Expr} {body : List Stmt} {pos : Pos} {T : WT} {B : WS} (ht : JT c k sc test T) (hb : JSs c k sc body B) : JS c k sc (.While test body [] pos) (wWhile T B) := fun f A σ Q s e1 fo rm X h => by
  obtain ⟨I, n, hI, step⟩ := h
  refine wpAny_While (while_core (h₀ := s.heap) (μ₀ := σ.mu) (Q := Q) e1 fo rm ht hb ?_ I step n σ s hI X (EvoF.refl _ _ _))
  exact fun fl g σ' s' r X' ev' q => ⟨g, σ', r, X', ev', q⟩
noncomputable def wForKeys (W : WE) (T : WA) (B : WS) : WS := fun σ Q => W σ fun d σ1 => ∃ r es, d = .ref r ∧ σ1.mu r = some (.idict es) ∧ ∀ kvs ep, wLoop (fun _ => True) T B (es.map fun e => .int e.1) { σ1 with mu := upd σ1.mu r (.ipin kvs ep es) } fun g σ2 => Q g { σ2 with mu := upd σ2.mu r (.idict es) }
theorem JS.forKeys {target iter : Expr} {body : List Stmt} {pos : Pos} {W : WE} {T : WA} {B : WS} (hi : JE c k sc iter W) (ht : JA c k sc target T) (hb : JSs c k sc body B) (hs : ∀ env x, foldedSetIterable iter env x = pure x) :
    JS c k sc (.For target iter body [] pos) (wForKeys W T B) := fun f A σ Q s e1 fo rm X h => by
  refine wpAny_For (wpAny_mono (hi f A σ _ s e1 fo rm X h) ?_ fun _ _ e => e) (hs _)
  rintro v s₁ ⟨d, σ1, r, X1, ev1, a, es, rfl, hm, h1⟩
  obtain rfl := r.isRef
  refine el1_2 (X1.s0.mu a _ hm) fun kvs inz12 hP => ?_
  refine el3_2 inz12 fun o es' ep ho rD => ?_
  have hD : s₁.heap.DictAt (intKind prog w) a kvs ep := ⟨o, es', ho, rD⟩
  have nf : ¬ fixed (some (MObj.idict es)) := id
  have kk : ∀ b x, b ≠ a → s₁.heap.get? b = some x → s₁.heap.get? b = some x := fun _ _ _ e => e
  have ev2 : Evo0 s₁.heap σ1.mu s₁.heap (upd σ1.mu a (.ipin kvs ep es)) := evo_set _ hm nf kk
  have X2 : S c f { σ1 with mu := upd σ1.mu a (.ipin kvs ep es) } s₁ := ⟨X1.s0.set (t := s₁.toks) hm nf kk ⟨hD, hP.mono ev2.keep⟩, X1.fr.evo ev2⟩
  refine wpAny_pyIter_dict (X1.s0.notSys hm) hD ?_
  have hk : ∀ (o : Obj) b x, s₁.heap.get? b = some x → (s₁.heap.push o).get? b = some x := fun o b x e => Heap.get?_push_of_some _ e
  obtain ⟨I, items, need, ok, At, σ2, eI, H, ev3, q⟩ := hand_new (t := s₁.toks) (Q := fun items need σ' => items = es.map (fun e => MV.int e.1) ∧ need = (fun _ => True) ∧ σ' = { σ1 with mu := upd σ1.mu a (.ipin kvs ep es) })
    X2 (EvoF.refl f s₁.heap _) (o := { cls := .type "dict_keyiterator", data := .fields #[.ref a, .int 0 0, .int kvs.length 0, .int ep 0] }) (Itr.keys (c := c) a _ kvs ep es (Nat.ne_of_lt (Heap.lt_size ho))) ⟨_, Heap.get?_push_size _ rfl, rfl, rfl⟩ ⟨upd_self _ _ _, o, hk _ _ _ ho⟩ ⟨rfl, rfl, rfl⟩
  refine el0_3 q fun eqz13 eqz14 eqz15 => ?_
  subst eqz13
  subst eqz14
  subst eqz15
  rw [eI]
  refine for_core (h₀ := s₁.heap) (μ₀ := upd σ1.mu a (.ipin kvs ep es)) (Q := fun g σ2 => Q g { σ2 with mu := upd σ2.mu a (.idict es) }) e1 fo ⟨rm.hand, rm.depth, rm.units⟩ (P := f.Priv) (fun _ _ _ _ n => n) ht hb ?_ _ 0 _ _ rfl (Nat.zero_le _) H ev3 (h1 kvs ep)
  intro fl g σ' s' rf X' ev' q
  have hp := ev' a o ho (by rw [upd_self]; trivial) (X1.fr.notMu hm)
  rw [upd_self] at hp
  have hks : KeepS s'.heap σ'.mu s'.heap (upd σ'.mu a (.idict es)) := fun b x vs n m e _ => ⟨e, by rw [upd_ne]; exact m; rintro rfl; rw [hp.2] at m; cases m⟩
  obtain ⟨hD', hP'⟩ := X'.s0.mu a _ hp.2
  refine ⟨g, { σ' with mu := upd σ'.mu a (.idict es) }, ?_, ⟨⟨X'.s0.base, X'.s0.gens, X'.s0.os, ?_, ?_, ?_⟩, ?_, ?_, X'.fr.dom, ?_, ?_⟩, ?_, q⟩
  · cases rf with
    | next => exact .next
    | ret rf => exact .ret (rf.monoS hks)
  · intro b mo m
    by_cases e : b = a
    · subst e
      replace m := (upd_self σ'.mu b (.idict es)).symm.trans m
      cases m
      refine el2_2 (hD') fun o' es'' e' r' => ?_
      exact ⟨kvs, ⟨o', es'', ep, e', r'⟩, hP'.monoS hks⟩
    · replace m := (upd_ne σ'.mu (.idict es) e).symm.trans m
      exact (X'.s0.mu b mo m).monoS hks fun _ e => e
  · intro b x e
    show upd σ'.mu a (.idict es) b = none
    rw [upd_ne]; exact X'.s0.muB b x e
    rintro rfl; rw [X'.s0.muB _ x e] at hp; cases hp.2
  · show upd σ'.mu a (.idict es) sysModules = none
    rw [upd_ne]; exact X'.s0.sys
    rintro rfl; rw [X'.s0.sys] at hp; cases hp.2
  · refine el1_2 (X'.fr.ns) fun m hn hm' => ?_
    exact ⟨m, hn, fun y d l v => let ⟨u, p, z⟩ := hm' y d l v; ⟨u, p, z.monoS hks⟩⟩
  · intro y b l q'
    refine el1_2 (X'.fr.cell y b l q') fun ov hc z => ?_
    exact ⟨ov, hc, fun d v => let ⟨u, p, r⟩ := z d v; ⟨u, p, r.monoS hks⟩⟩
  · show upd σ'.mu a (.idict es) f.env.locals = none
    rw [upd_ne]; exact X'.fr.muL
    intro e; rw [← e, X'.fr.muL] at hp; cases hp.2
  · intro y b l q'
    show upd σ'.mu a (.idict es) b = none
    rw [upd_ne]; exact X'.fr.muC y b l q'
    intro e; rw [← e, X'.fr.muC y b l q'] at hp; cases hp.2
  · intro b x e m np
    obtain ⟨p1, q1⟩ := ev1 b x e m np
    have hne : b ≠ a := by rintro rfl; rw [← q1, hm] at m; exact m
    obtain ⟨p2, q2⟩ := ev' b x p1 (by rw [upd_ne _ _ hne, q1]; exact m) np
    exact ⟨p2, by show upd σ'.mu a (.idict es) b = _; rw [upd_ne _ _ hne, q2, upd_ne _ _ hne, q1]⟩
end
end Mine
namespace Mine
open Classical
section
variable {prog : Program} {w : World} {c : Cx prog w} {k : Nat} {sc : List (Str × NameKind)}
theorem bindL_out {ko : Str → Option NameKind} {x : Str} : ∀ (r : List (Str × Value)) (m : Str → Option Value), x ∉ r.map (·.1) → bindL ko r m x = m x
  | [], m, _ => rfl
  | (n, v) :: r, m, h => by
    simp only [List.map_cons, List.mem_cons, not_or] at h
    unfold bindL
    rw [bindL_out r _ h.2]
    split
    · simp only [if_neg h.1]
    · rfl
theorem bindC_out {ko : Str → Option NameKind} {x : Str} : ∀ (r : List (Str × Value)) (m : Str → Option Value), x ∉ r.map (·.1) → bindC ko r m x = m x
  | [], m, _ => rfl
  | (n, v) :: r, m, h => by
    simp only [List.map_cons, List.mem_cons, not_or] at h
    unfold bindC
    rw [bindC_out r _ h.2]
    split
    · rfl
    · simp only [if_neg h.1]
theorem zip_keys {α : Type} {x : Str} : ∀ (ns : List Str) (vs : List α), x ∉ ns → x ∉ (ns.zip vs).map (·.1)
  | [], _, _ => by simp
  | _ :: _, [], _ => by simp
  | n :: ns, v :: vs, h => by
    simp only [List.mem_cons, not_or] at h
    simp only [List.zip_cons_cons, List.map_cons, List.mem_cons, not_or]
    exact ⟨h.1, zip_keys ns vs h.2⟩
theorem binds_rep {ko : Str → Option NameKind} {h : Heap} {μ : MHeap} {x : Str} {d : MV} : ∀ (ns : List Str) {vs : List Value} {ds : List MV} (m cm : Str → Option Value), ns.Nodup → RepAll h μ vs ds → (ns.zip ds).lookup x = some d →
    (ko x = some .local → ∃ v, bindL ko (ns.zip vs) m x = some v ∧ Rep h μ v d) ∧ (ko x ≠ some .local → ∃ v, bindC ko (ns.zip vs) cm x = some v ∧ Rep h μ v d) := by
  intro ns
  induction ns with
  | nil => intro vs ds m cm _ _ e; exact nomatch (show (none : Option MV) = some d from e)
  | cons n ns ih =>
    intro vs ds m cm nd rr e
    cases rr with
    | nil => exact nomatch (show (none : Option MV) = some d from e)
    | @cons v d' vs ds r rs =>
      rw [List.nodup_cons] at nd
      rw [List.zip_cons_cons, List.lookup_cons] at e
      by_cases q : x = n
      · subst q
        rw [beq_self_eq_true] at e
        cases e
        have ho := fun vs : List Value => zip_keys (x := x) ns vs
        refine ⟨fun hl => ⟨v, ?_, r⟩, fun hl => ⟨v, ?_, r⟩⟩
        · rw [List.zip_cons_cons]; unfold bindL; rw [bindL_out _ _ (ho _ nd.1), if_pos hl]; simp
        · rw [List.zip_cons_cons]; unfold bindC; rw [bindC_out _ _ (ho _ nd.1), if_neg hl]; simp
      · rw [beq_false_of_ne q] at e
        rw [List.zip_cons_cons]; unfold bindL bindC
        exact ih _ _ nd.2 rs e
theorem cellsFrom_has {x : Str} : ∀ (names : List (Str × NameKind)) (n : Nat) (acc : List (Str × Addr)), ((x, NameKind.cell) ∈ names ∨ (acc.lookup x).isSome = true) → ((cellsFrom n names acc).lookup x).isSome = true
  | [], n, acc, h => by simpa [cellsFrom] using h
  | (y, kd) :: r, n, acc, h => by
    unfold cellsFrom
    split
    · rename_i hk
      refine cellsFrom_has r _ _ ?_
      by_cases q : x = y
      · subst q; right; simp [List.lookup_cons]
      · rcases h with h | h
        · rcases List.mem_cons.mp h with e | e
          · cases e; exact absurd rfl q
          · exact .inl e
        · right; rw [List.lookup_cons, beq_false_of_ne q]; exact h
    · rename_i hk
      refine cellsFrom_has r _ _ ?_
      rcases h with h | h
      · rcases List.mem_cons.mp h with e | e
        · cases e; exact absurd (by decide) hk
        · exact .inl e
      · exact .inr h
noncomputable def paramVars (names : List Str) (ds : List MV) : Str → Option MV := fun x => (names.zip ds).lookup x
noncomputable def retOf : Fl → MV
  | .next => .none
  | .ret d => d
noncomputable def wFn (names : List Str) (W : WS) : List MV → W0 := fun ds μ Q => ds.length = names.length ∧ W ⟨paramVars names ds, μ⟩ fun g σ' => Q (retOf g) σ'.mu
theorem lookup_zip_mem {α : Type} {x : Str} {d : α} : ∀ {ns : List Str} {ds : List α}, (ns.zip ds).lookup x = some d → x ∈ ns
  | [], _, e => by simp at e
  | _ :: _, [], e => by simp at e
  | n :: ns, d' :: ds, e => by
    rw [List.zip_cons_cons, List.lookup_cons] at e
    by_cases q : x = n
    · rw [q]; exact List.mem_cons_self
    · rw [beq_false_of_ne q] at e; exact List.mem_cons_of_mem _ (lookup_zip_mem e)
theorem RepAll.len_eq {h : Heap} {μ : MHeap} {vs : List Value} {ds : List MV} (r : RepAll h μ vs ds) {n : Nat} (e : ds.length = n) : vs.length = n := r.length.trans e
noncomputable def CodeN (c : Cx prog w) (j : Nat) (f : Value) (P : List MV → W0) : Prop :=
  ∀ (A : Around) (s : Shared) (μ : MHeap) (vs : List Value) (ds : List MV) (Q : MV → MHeap → Prop), Room A j → S0 c μ s → RepAll s.heap μ vs ds → P ds μ Q →
    codeAny (model prog w) A (.call f ⟨vs, []⟩) (fun r s' => match r with | .ok (.ret v) => P0 c s μ Q v s' | _ => False) s
theorem CodeN.op {j : Nat} {f : Value} {P : List MV → W0} (h : CodeN c j f P) : OpN c j (fun vs => call f vs) P := fun A s μ vs ds Q rm X r hq =>
  wpAny_call (codeAny_mono (h A s μ vs ds Q rm X r hq) fun r s' z => by
    rcases r with e | (v | _ | _ | _) <;> first | exact z | exact z.elim)
theorem CodeN.mono {j : Nat} {f : Value} {P P' : List MV → W0} (h : CodeN c j f P) (hp : ∀ ds μ Q, P' ds μ Q → P ds μ Q) : CodeN c j f P' := fun A s μ vs ds Q rm X r hq => h A s μ vs ds Q rm X r (hp _ _ _ hq)
theorem CodeN.fn {a : Addr} {oc dV kV doc pm cdv ct : Value} {od an : Option Addr} {osl : Array (Option Value)} {name qual : Str} {params : Arguments} {body : List Stmt} {scope : Scope} {names : List Str} {W : WS}
    (ho : c.K.lookup a = some ⟨oc, od, .func (fnOf name qual params body scope dV kV doc pm an cdv ct), osl⟩)
    (hcd : codeIn c.K cdv qual = true)
    (hb : JSs c k scope.names body W)
    (hbind : ∀ vals : List Value, vals.length = names.length → bindArgs (fnOf name qual params body scope dV kV doc pm an cdv ct) ⟨vals, []⟩ = pure (names.zip vals))
    (hown : ∀ x ∈ names, own scope.names x) (hnd : names.Nodup) (hfree : ∀ x, scope.names.lookup x ≠ some .free)
    (hco : scope.isCoroutine = false) (hgen : scope.isGenerator = false) (hk : scope.kind = .function) : CodeN c (k + 1) (.ref a) (wFn names W) := fun A s μ vs ds Q rm X r hq => by
  have hlen := r.len_eq hq.1
  have hog := X.base _ _ (c.X _ _ ho)
  have hcr : s.heap.CodeRec cdv qual := codeRec_of (c.X.keeps X.base) hcd
  refine codeAny_call_cells (fd := fnOf name qual params body scope dV kV doc pm an cdv ct) (body := body) (binds := names.zip vs)
    (by have := rm.depth; show A.depth < 1000; lia) hog rfl (c.T.nolimit.keeps X.base) hcr rfl (hbind vs hlen) rfl ?_ ?_ hco hgen hk
  · intro y hy
    have hm : y.1 ∈ names := by
      obtain ⟨i, hi, e⟩ := List.mem_iff_getElem.mp hy
      rw [← e, List.getElem_zip]; exact List.getElem_mem _
    rcases hown _ hm with h | h
    · exact .inl h
    · exact .inr ⟨h, cellsFrom_has _ _ _ (.inl (mem_of_lookup h))⟩
  · intro s₁ IC
    refine el2_1 (IC.toInCall.same) fun h₁ tk eqz1 => ?_
    subst eqz1
    have hkeep : ∀ b o, s.heap.get? b = some o → h₁.get? b = some o := IC.toInCall.keep
    have evk : Evo0 s.heap μ h₁ μ := Evo0.of_keeps hkeep
    let f : Fm := ⟨callEnvC (fnOf name qual params body scope dV kV doc pm an cdv ct) s.heap.objs.size a, scope.names⟩
    have hfresh : ∀ x b, f.env.cells.lookup x = some b → s.heap.objs.size ≤ b := fun x b e => Nat.le_of_lt (IC.above x b (mem_of_lookup e))
    have fo : FmOk c f := by
      refine ⟨hk, fun x kd e => .inl e, rfl, rfl, fun x y b e1 e2 => name_of_addr IC.apart (mem_of_lookup e1) (mem_of_lookup e2), fun x e => ?_, X.newB (Nat.le_refl _), fun x b _ e => X.newB (hfresh x b e)⟩
      rcases e with e | e
      · exact Option.isSome_iff_exists.mp (cellsFrom_has _ _ _ (.inl (mem_of_lookup e)))
      · exact absurd e (hfree x)
    have XS : S c f ⟨paramVars names ds, μ⟩ { s with heap := h₁, toks := tk } := by
      refine ⟨X.keeps hkeep, ⟨_, IC.toInCall.ns, fun x d hl hd => ?_⟩, fun x b _ e => ⟨_, IC.cell x b e, fun d hd => ?_⟩, fun x d hd => ?_, X.fresh (Nat.le_refl _), fun x b _ e => X.fresh (hfresh x b e)⟩
      · exact (binds_rep (ko := f.env.kindOf) names (fun _ => none) (fun _ => none) hnd (r.mono evk.keep) hd).1 hl
      · refine (binds_rep (ko := f.env.kindOf) names (fun _ => none) (fun _ => none) hnd (r.mono evk.keep) hd).2 ?_
        rename_i hle
        intro q
        rcases hle with h | h
        · have q' := h.symm.trans q; cases q'
        · exact hfree x h
      · rcases hown x (lookup_zip_mem hd) with h | h
        · exact .inl h
        · exact .inr (.inl h)
    have rm' : Room (A.deeper f.env) k := ⟨rm.hand, by have := rm.depth; show A.depth + 1 + 4 * k ≤ 900; lia, by have := rm.units; show A.units + 3 + 100 * k ≤ 9000; lia⟩
    refine wpAny_mono (hb f _ _ _ _ rfl fo rm' XS hq.2) ?_ fun _ _ e => e.elim
    intro fl s' hz2
    refine el2_4 hz2 fun g σ' rf X' ev' q => ?_
    have evt : Evo0 s.heap μ s'.heap σ'.mu := fun b o e m => by
      refine ev' b o (hkeep b o e) m ?_
      have hlt := Heap.lt_size e
      rintro (q | ⟨x, _, q⟩)
      · have : b = s.heap.objs.size := q
        rw [this] at hlt; exact Nat.lt_irrefl _ hlt
      · exact Nat.lt_irrefl _ (Nat.lt_of_lt_of_le hlt (hfresh x b q))
    cases rf with
    | next => exact ⟨.none, σ'.mu, .none, X'.s0, evt, q⟩
    | ret rf => exact ⟨_, σ'.mu, rf, X'.s0, evt, q⟩
end
end Mine
namespace Mine
open Classical
section
variable {prog : Program} {w : World} {c : Cx prog w} {k : Nat} {sc : List (Str × NameKind)}
noncomputable def clOf (env : Env) : List (Str × NameKind) → List (Str × Addr) → List (Str × Addr)
  | [], acc => acc
  | (n, kd) :: r, acc => if kd == .free then clOf env r ((n, (env.cells.lookup n).getD 0) :: acc) else clOf env r acc
theorem closure_loop (env : Env) : ∀ (names : List (Str × NameKind)) (acc : List (Str × Addr)), (∀ n, (n, NameKind.free) ∈ names → ∃ a, env.cells.lookup n = some a) →
    (forIn names acc fun x r => match x with
      | (name, kind) => if (kind == NameKind.free) = true then do let a ← cellOf env name; pure (ForInStep.yield ((name, a) :: r)) else pure (ForInStep.yield r) : Sem (List (Str × Addr))) = pure (clOf env names acc)
  | [], acc, _ => rfl
  | (n, kd) :: r, acc, h => by
    rw [List.forIn_cons]
    unfold clOf
    dsimp only
    by_cases q : (kd == NameKind.free) = true
    · rw [if_pos q, if_pos q]
      have hk : kd = .free := by revert q; cases kd <;> decide
      obtain ⟨a, ha⟩ := h n (by rw [hk]; exact List.mem_cons_self)
      have hc : cellOf env n = pure a := by unfold cellOf; rw [ha]
      rw [hc, ha]
      simp only [pure_bind, Option.getD_some]
      exact closure_loop env r _ fun m hm => h m (List.mem_cons_of_mem _ hm)
    · rw [if_neg q, if_neg q]
      simp only [pure_bind]
      exact closure_loop env r _ fun m hm => h m (List.mem_cons_of_mem _ hm)
theorem closureFor_eq {scope : Scope} {env : Env} (h : ∀ n, (n, NameKind.free) ∈ scope.names → ∃ a, env.cells.lookup n = some a) : closureFor scope env = pure (clOf env scope.names []) := by
  unfold closureFor
  have := closure_loop env scope.names [] h
  simp only [bind_pure]
  exact this
theorem clOf_lookup {env : Env} {x : Str} : ∀ (names : List (Str × NameKind)) (acc : List (Str × Addr)), (∀ a, acc.lookup x = some a → a = (env.cells.lookup x).getD 0) →
    (∀ a, (clOf env names acc).lookup x = some a → a = (env.cells.lookup x).getD 0) ∧ (((x, NameKind.free) ∈ names ∨ (acc.lookup x).isSome = true) → (clOf env names acc).lookup x = some ((env.cells.lookup x).getD 0)) ∧
    ((x, NameKind.free) ∉ names → (clOf env names acc).lookup x = acc.lookup x)
  | [], acc, h => ⟨h, fun q => by
      rcases q with q | q
      · cases q
      · obtain ⟨a, ha⟩ := Option.isSome_iff_exists.mp q
        rw [clOf, ha, h a ha], fun _ => rfl⟩
  | (n, kd) :: r, acc, h => by
    unfold clOf
    by_cases q : (kd == NameKind.free) = true
    · rw [if_pos q]
      have hk : kd = .free := by revert q; cases kd <;> decide
      subst hk
      have h' : ∀ a, ((n, (env.cells.lookup n).getD 0) :: acc).lookup x = some a → a = (env.cells.lookup x).getD 0 := fun a e => by
        rw [List.lookup_cons] at e
        by_cases z : x = n
        · subst z; rw [beq_self_eq_true] at e; cases e; rfl
        · rw [beq_false_of_ne z] at e; exact h a e
      refine el0_3 (clOf_lookup r _ h') fun h1 h2 h3 => ?_
      refine ⟨h1, fun z => h2 ?_, fun z => ?_⟩
      · rcases z with z | z
        · rcases List.mem_cons.mp z with z | z
          · cases z; right; simp [List.lookup_cons]
          · exact .inl z
        · right
          rw [List.lookup_cons]
          split
          · rfl
          · exact z
      · rw [h3 fun m => z (List.mem_cons_of_mem _ m), List.lookup_cons, beq_false_of_ne (fun e => z (by rw [e]; exact List.mem_cons_self))]
    · rw [if_neg q]
      refine el0_3 (clOf_lookup r acc h) fun h1 h2 h3 => ?_
      refine ⟨h1, fun z => h2 ?_, fun z => h3 fun m => z (List.mem_cons_of_mem _ m)⟩
      rcases z with z | z
      · rcases List.mem_cons.mp z with z | z
        · cases z; exact absurd (by decide) q
        · exact .inl z
      · exact .inr z
theorem cellsFrom_acc : ∀ (names : List (Str × NameKind)) (n : Nat) (acc : List (Str × Addr)), cellsFrom n names acc = cellsFrom n names [] ++ acc
  | [], n, acc => rfl
  | (y, kd) :: r, n, acc => by
    unfold cellsFrom
    split
    · rw [cellsFrom_acc r _ ((y, n) :: acc), cellsFrom_acc r _ [(y, n)], List.append_assoc]; rfl
    · exact cellsFrom_acc r _ acc
theorem cellsFrom_only {x : Str} {a : Addr} : ∀ (names : List (Str × NameKind)) (n : Nat) (acc : List (Str × Addr)), (x, a) ∈ cellsFrom n names acc → (x, NameKind.cell) ∈ names ∨ (x, a) ∈ acc
  | [], _, _, h => .inr h
  | (y, kd) :: r, n, acc, h => by
    unfold cellsFrom at h
    split at h
    · rename_i hk
      have hk : kd = .cell := by revert hk; cases kd <;> decide
      subst hk
      rcases cellsFrom_only r _ _ h with h | h
      · exact .inl (List.mem_cons_of_mem _ h)
      · rcases List.mem_cons.mp h with e | h
        · cases e; exact .inl List.mem_cons_self
        · exact .inr h
    · rcases cellsFrom_only r _ _ h with h | h
      · exact .inl (List.mem_cons_of_mem _ h)
      · exact .inr h
theorem wpAny_newCompEnv {M : Model} {A : Around} {E : Value → Shared → Prop} {s : Shared} {scope : Scope} {globals : Addr} {cl : List (Str × Addr)} {qual : Str} {outer : Env} {Q : Env → Shared → Prop}
    (hQ : Q { scope := scope, locals := s.heap.objs.size, globals := globals, cells := cellsFrom (s.heap.objs.size + 1) scope.names cl, qual := qual, func := none, code := outer.code, frame := outer.frame, builtins := outer.builtins }
      { s with heap := pushCells (s.heap.push { cls := .type "dict", data := .dict #[] }) scope.names }) :
    wpAny M A (newFunctionEnv scope globals cl [] qual none .none (some outer)) Q E s := by
  simp only [newFunctionEnv, Option.isSome_some, if_true]
  refine wpAny_bind (wpAny_alloc ?_)
  refine wpAny_bind (wpAny_layCells _ (fun name kind cells => by cases hkc : kind == NameKind.cell <;> simp [hkc]) _ _ _ _ ?_)
  rw [show ({ s with heap := s.heap.push { cls := .type "dict", data := .dict #[] } } : Shared).heap.objs.size = s.heap.objs.size + 1 from Heap.size_push ..]
  rw [List.forIn_nil]
  exact wpAny_bind (wpAny_pure (wpAny_pure hQ))
theorem relabel_lookup {env : Env} : ∀ {names : List (Str × NameKind)} {x : Str} {kd : NameKind}, names.lookup x = some kd →
    (names.map fun (n, k) => if (k == NameKind.free && env.scope.kind == .function && env.kindOf n == some .cell) then (n, NameKind.cell) else (n, k)).lookup x = some kd ∨
    (kd = .free ∧ (names.map fun (n, k) => if (k == NameKind.free && env.scope.kind == .function && env.kindOf n == some .cell) then (n, NameKind.cell) else (n, k)).lookup x = some .cell)
  | [], x, kd, h => by cases h
  | (n, k') :: r, x, kd, h => by
    have hd : ∀ q : Str × NameKind, q.1 = n → List.lookup x (q :: (r.map fun (n, k) => if (k == NameKind.free && env.scope.kind == .function && env.kindOf n == some .cell) then (n, NameKind.cell) else (n, k))) = match x == n with | true => some q.2 | false => (r.map fun (n, k) => if (k == NameKind.free && env.scope.kind == .function && env.kindOf n == some .cell) then (n, NameKind.cell) else (n, k)).lookup x := by
      rintro ⟨a, b⟩ rfl; rw [List.lookup_cons]; cases x == a <;> rfl
    show List.lookup x ((if (k' == NameKind.free && env.scope.kind == .function && env.kindOf n == some .cell) = true then (n, NameKind.cell) else (n, k')) :: _) = _ ∨ _ ∧ List.lookup x ((if (k' == NameKind.free && env.scope.kind == .function && env.kindOf n == some .cell) = true then (n, NameKind.cell) else (n, k')) :: _) = _
    rw [hd _ (by split <;> rfl)]
    rw [List.lookup_cons] at h
    cases hx : x == n with
    | true =>
      rw [hx] at h
      cases h
      by_cases hc : (k' == NameKind.free && env.scope.kind == .function && env.kindOf n == some .cell) = true
      · right
        simp only [Bool.and_eq_true] at hc
        refine ⟨by have := hc.1.1; clear hc; revert this; cases k' <;> decide, ?_⟩
        rw [if_pos (by simp only [Bool.and_eq_true]; exact hc)]
      · left; rw [if_neg hc]
    | false =>
      rw [hx] at h
      exact relabel_lookup h
noncomputable def freeVars (names : List (Str × NameKind)) (V : Str → Option MV) : Str → Option MV := fun x => if names.lookup x = some .free then V x else none
noncomputable def compFm (f : Fm) (scope : Scope) (L : Addr) : Fm :=
  ⟨{ scope := relabel scope f.env, locals := L, globals := f.env.globals, cells := cellsFrom (L + 1) scope.names (clOf f.env scope.names []), qual := f.env.qual, func := none, code := f.env.code, frame := f.env.frame, builtins := f.env.builtins }, scope.names⟩
theorem compFm_cells {f : Fm} {scope : Scope} {L : Addr} {h : Heap} (hsz : h.objs.size = L + 1) {x : Str} {a : Addr} (hl : (compFm f scope L).env.cells.lookup x = some a) :
    ((pushCells h scope.names).IsCell a none ∧ L < a ∧ (x, NameKind.cell) ∈ scope.names ∧ (x, a) ∈ cellsFrom (L + 1) scope.names []) ∨ ((x, NameKind.cell) ∉ scope.names ∧ (x, NameKind.free) ∈ scope.names ∧ a = (f.env.cells.lookup x).getD 0) := by
  have ok := cellsFrom_ok scope.names h (L + 1) [] ⟨fun _ _ hm => (nomatch hm), List.Pairwise.nil⟩ (Nat.le_of_eq hsz.symm)
  rw [hsz] at ok
  have hl' : (cellsFrom (L + 1) scope.names (clOf f.env scope.names [])).lookup x = some a := hl
  rw [cellsFrom_acc, List.lookup_append] at hl'
  cases e : (cellsFrom (L + 1) scope.names []).lookup x with
  | some b =>
    rw [e] at hl'
    cases hl'
    have hm := mem_of_lookup e
    exact .inl ⟨(ok.empty _ _ hm).1, (ok.empty _ _ hm).2, (cellsFrom_only _ _ _ hm).resolve_right (fun q => nomatch q), hm⟩
  | none =>
    rw [e, Option.none_or] at hl'
    refine .inr ⟨fun m => ?_, ?_, ?_⟩
    · have := cellsFrom_has scope.names (L + 1) [] (.inl m)
      rw [e] at this; cases this
    · refine Classical.byContradiction fun q => ?_
      rw [(clOf_lookup scope.names [] (fun _ e => nomatch e)).2.2 q] at hl'
      cases hl'
    · exact (clOf_lookup scope.names [] (fun _ e => nomatch e)).1 a hl'
theorem compFm_ok {f : Fm} {scope : Scope} {σ : St} {s : Shared} (fo : FmOk c f) (X : S c f σ s) (hk : scope.kind = .function) (hnd : (scope.names.map (·.1)).Nodup) (hfree : ∀ x, (x, NameKind.free) ∈ scope.names → f.sc.lookup x = some .cell ∨ f.sc.lookup x = some .free) :
    FmOk c (compFm f scope s.heap.objs.size) ∧ S c (compFm f scope s.heap.objs.size) ⟨freeVars scope.names σ.vars, σ.mu⟩ { s with heap := pushCells (s.heap.push { cls := .type "dict", data := .dict #[] }) scope.names } ∧
      ∀ b o, s.heap.get? b = some o → (pushCells (s.heap.push { cls := .type "dict", data := .dict #[] }) scope.names).get? b = some o := by
  have hkeep : ∀ b o, s.heap.get? b = some o → (pushCells (s.heap.push { cls := .type "dict", data := .dict #[] }) scope.names).get? b = some o := fun b o e => pushCells_keeps _ _ _ _ (Heap.get?_push_of_some _ e)
  have hsz : (s.heap.push { cls := .type "dict", data := .dict #[] }).objs.size = s.heap.objs.size + 1 := Heap.size_push ..
  have mem_look : ∀ {x : Str} {kd : NameKind}, (x, kd) ∈ scope.names → scope.names.lookup x = some kd := by
    intro x kd hm
    generalize scope.names = l at hm hnd
    induction l with
    | nil => cases hm
    | cons y l ih =>
      obtain ⟨a, b⟩ := y
      simp only [List.map_cons, List.nodup_cons] at hnd
      rw [List.lookup_cons]
      rcases List.mem_cons.mp hm with e | m
      · cases e; rw [beq_self_eq_true]
      · have : x ≠ a := by rintro rfl; exact hnd.1 (List.mem_map.mpr ⟨_, m, rfl⟩)
        rw [beq_false_of_ne this]; exact ih m hnd.2
  have old : ∀ {x : Str}, (x, NameKind.free) ∈ scope.names → ∃ a, f.env.cells.lookup x = some a := fun m => fo.has _ (hfree _ m)
  have lo : ∀ {x : Str} {a : Addr}, (x, NameKind.free) ∈ scope.names → a = (f.env.cells.lookup x).getD 0 → f.env.cells.lookup x = some a := fun {x a} m e => by
    obtain ⟨b, hb⟩ := old m
    rw [hb] at e ⊢; rw [e]; rfl
  refine ⟨⟨hk, fun x kd e => relabel_lookup e, fo.glob, fo.blt, fun x y a e1 e2 => ?_, fun x e => ?_, X.s0.newB (Nat.le_refl _), fun x a e1 e2 => ?_⟩, ⟨X.s0.keeps (t := s.toks) hkeep, ?_, fun x a _ e => ?_, fun x d e => ?_, X.s0.fresh (Nat.le_refl _), fun x a _ e => ?_⟩, hkeep⟩
  · rcases compFm_cells hsz e1 with ⟨_, l1, m1, q1⟩ | ⟨_, m1, r1⟩ <;> rcases compFm_cells hsz e2 with ⟨_, l2, m2, q2⟩ | ⟨_, m2, r2⟩
    · have ok := cellsFrom_ok scope.names (s.heap.push { cls := .type "dict", data := .dict #[] }) (s.heap.objs.size + 1) [] ⟨fun _ _ hm => (nomatch hm), List.Pairwise.nil⟩ (Nat.le_of_eq hsz.symm)
      rw [hsz] at ok
      exact name_of_addr ok.apart q1 q2
    · have := lo m2 r2
      refine el1_2 (X.fr.cell y a (hfree _ m2) this) fun ov inz1 _ => ?_
      refine el1_2 inz1 fun o ho _ => ?_
      exact absurd (Heap.lt_size ho) (Nat.not_lt.mpr (Nat.le_of_lt l1))
    · have := lo m1 r1
      refine el1_2 (X.fr.cell x a (hfree _ m1) this) fun ov inz2 _ => ?_
      refine el1_2 inz2 fun o ho _ => ?_
      exact absurd (Heap.lt_size ho) (Nat.not_lt.mpr (Nat.le_of_lt l2))
    · exact fo.inj _ _ _ (lo m1 r1) (lo m2 r2)
  · show ∃ a, (cellsFrom (s.heap.objs.size + 1) scope.names (clOf f.env scope.names [])).lookup x = some a
    rcases e with e | e
    · exact Option.isSome_iff_exists.mp (cellsFrom_has _ _ _ (.inl (mem_of_lookup e)))
    · exact Option.isSome_iff_exists.mp (cellsFrom_has _ _ _ (.inr (by rw [(clOf_lookup scope.names [] (fun _ e => nomatch e)).2.1 (.inl (mem_of_lookup e))]; rfl)))
  · rcases compFm_cells hsz e2 with ⟨_, l1, _, _⟩ | ⟨m1, _, _⟩
    · exact X.s0.newB (Nat.le_of_lt l1)
    · exact absurd (mem_of_lookup e1) m1
  · exact ⟨_, (Heap.Ns.new s.heap (.type "dict")).keeps (pushCells_keeps _ _), fun x d l e => by
      have e' : freeVars scope.names σ.vars x = some d := e
      have l' : scope.names.lookup x = some .local := l
      unfold freeVars at e'
      rw [l'] at e'
      simp at e'⟩
  · rcases compFm_cells hsz e with ⟨hc, _, m1, _⟩ | ⟨_, m1, r1⟩
    · refine ⟨none, hc, fun d e' => ?_⟩
      have e' : freeVars scope.names σ.vars x = some d := e'
      unfold freeVars at e'
      rw [mem_look m1] at e'
      simp at e'
    · refine el1_2 (X.fr.cell x a (hfree _ m1) (lo m1 r1)) fun ov hc hv => ?_
      refine ⟨ov, hc.keeps hkeep, fun d e' => ?_⟩
      have e' : freeVars scope.names σ.vars x = some d := e'
      unfold freeVars at e'
      rw [if_pos (mem_look m1)] at e'
      refine el1_2 (hv d e') fun v q r => ?_
      exact ⟨v, q, r.mono (Evo0.of_keeps hkeep).keep⟩
  · have e : freeVars scope.names σ.vars x = some d := e
    unfold freeVars at e
    split at e
    · rename_i q; exact .inr (.inr q)
    · cases e
  · rcases compFm_cells hsz e with ⟨hc, l1, m1, _⟩ | ⟨_, m1, r1⟩
    · exact X.s0.fresh (Nat.le_of_lt l1)
    · exact X.fr.muC x a (hfree _ m1) (lo m1 r1)
theorem compFm_priv {f : Fm} {scope : Scope} {s : Shared} {b : Addr} {o : Obj} (e : s.heap.get? b = some o) (hnd : (scope.names.map (·.1)).Nodup) : ¬ (compFm f scope s.heap.objs.size).Priv b := by
  have hsz : (s.heap.push { cls := .type "dict", data := .dict #[] }).objs.size = s.heap.objs.size + 1 := Heap.size_push ..
  have hlt := Heap.lt_size e
  rintro (q | ⟨x, m, q⟩)
  · have : b = s.heap.objs.size := q
    rw [this] at hlt; exact Nat.lt_irrefl _ hlt
  · rcases compFm_cells hsz q with ⟨_, l1, _, _⟩ | ⟨m1, _, _⟩
    · exact Nat.lt_irrefl _ (Nat.lt_trans hlt l1)
    · exact m1 (mem_of_lookup m)
end
end Mine
namespace Mine
open Classical
section
variable {prog : Program} {w : World} {c : Cx prog w} {k : Nat} {sc : List (Str × NameKind)}
noncomputable abbrev testLoop (ifs : List Expr) (env : Env) (b : Bool) : Sem Bool := forIn ifs b fun c r => if r = true then do let ok ← isTrue c env (eval c env); pure (ForInStep.yield ok) else pure (ForInStep.yield r)
theorem codeAny_compTurnStep {A : Around} {s : Shared} {R : Result → Shared → Prop} {elt target iter : Expr} {ifs : List Expr} {gens : List Comprehension} {scope : Scope} {pos : Pos} {it acc : Value} {env : Env} {d : Nat}
    (hg : gens[d]? = some ⟨target, iter, ifs, 0⟩)
    (h : wpAny (model prog w) A (pyNext it) (fun r s₁ => match r with
      | none => R (.ok .next) s₁
      | some v => wpAny (model prog w) A (letOwnedTupleGo target it v) (fun _ s₁' => wpAny (model prog w) A (assign target env v) (fun _ s₂ => wpAny (model prog w) A (testLoop ifs env true) (fun ok s₃ =>
          (ok = false → codeAny (model prog w) A (.compLoop (.ListComp elt gens scope pos) d it acc env) R s₃) ∧
          (ok = true → match gens[d + 1]? with
            | none => wpAny (model prog w) A (eval elt env) (fun x s₄ => wpAny (model prog w) A (call (.builtin "list.append") [acc, x]) (fun _ s₅ => codeAny (model prog w) A (.compLoop (.ListComp elt gens scope pos) d it acc env) R s₅) no s₄) no s₃
            | some g' => wpAny (model prog w) A (eval g'.iter env) (fun x s₄ => wpAny (model prog w) A (pyIter x) (fun it' s₅ => codeAny (model prog w) (A.mark none) (.compStart (.ListComp elt gens scope pos) (d + 1) it' acc env)
                (fun r s₆ => match r with | .ok _ => codeAny (model prog w) A (.compLoop (.ListComp elt gens scope pos) d it acc env) R s₆ | .error _ => False) s₅) no s₄) no s₃)) no s₂) no s₁') no s₁) no s)
    (hs : ∀ g', gens[d + 1]? = some g' → g'.is_async = 0 ∧ ∀ x, foldedSetIterable g'.iter env x = pure x) :
    codeAny (model prog w) A (.compLoop (.ListComp elt gens scope pos) d it acc env) R s := by
  refine codeAny_of_tree ?_
  show wpAny _ A ((compTurn (.ListComp elt gens scope pos) d it acc env).onRaise (fun x => do noteFrame x env; theTreesLotGoes x)) _ _ s
  refine wpAny_onRaise (E := _) ?_
  refine wpAny_mono (E := no) ?_ (fun _ _ q => q) fun _ _ h' => h'.elim
  unfold compTurn
  simp only [hg]
  refine wpAny_bind (wpAny_standAt ?_)
  rw [if_neg (by decide)]
  refine wpAny_bind (wpAny_mono h (fun r s₁ h₁ => ?_) fun _ _ e => e)
  cases r with
  | none => exact wpAny_pure h₁
  | some v =>
    refine wpAny_bind (wpAny_mono h₁ (fun _ s₁' h₁' => ?_) fun _ _ h' => h')
    refine wpAny_bind (wpAny_mono h₁' (fun _ s₂ h₂ => wpAny_bind (wpAny_mono h₂ (fun ok s₃ h₃ => ?_) fun _ _ h' => h')) fun _ _ h' => h')
    cases ok with
    | false => rw [if_neg (by decide)]; exact wpAny_pure ⟨rfl, h₃.1 rfl⟩
    | true =>
      rw [if_pos rfl]
      have h₄ := h₃.2 rfl
      cases hn : gens[d + 1]? with
      | none =>
        rw [hn] at h₄
        dsimp only at h₄ ⊢
        exact wpAny_bind (wpAny_bind (wpAny_mono h₄ (fun x s₄ h₅ => wpAny_bind (wpAny_mono h₅ (fun _ s₅ h₆ => wpAny_pure (wpAny_pure ⟨rfl, h₆⟩)) fun _ _ h' => h')) fun _ _ h' => h'))
      | some g' =>
        rw [hn] at h₄
        dsimp only at h₄ ⊢
        obtain ⟨ha, hf⟩ := hs g' hn
        have ha' : (g'.is_async != 0) = false := by rw [ha]; rfl
        refine wpAny_bind (wpAny_mono h₄ (fun x s₄ h₅ => ?_) fun _ _ h' => h')
        refine wpAny_bind (wpAny_standAt ?_)
        simp only [ha', Bool.false_eq_true, if_false]
        refine wpAny_bind (wpAny_of_eq (hf x) ?_)
        refine wpAny_bind (wpAny_holding (wpAny_mono h₅ (fun it' s₅ h₆ => ?_) fun _ _ h' => h'))
        refine wpAny_bind (wpAny_runOwn (codeAny_mono h₆ fun r s₆ hr => ?_))
        cases r with
        | ok fl => exact wpAny_pure ⟨rfl, hr⟩
        | error _ => exact hr.elim
theorem codeAny_compStartStep {A : Around} {s : Shared} {R : Result → Shared → Prop} {elt target iter : Expr} {ifs : List Expr} {gens : List Comprehension} {scope : Scope} {pos : Pos} {it acc : Value} {env : Env} {d : Nat}
    (hg : gens[d]? = some ⟨target, iter, ifs, 0⟩) (h0 : codeAny (model prog w) A (.compLoop (.ListComp elt gens scope pos) d it acc env) R s)
    (h : ∀ Q E, Q it s → wpAny (model prog w) A (pyIter it) Q E s) :
    codeAny (model prog w) A (.compStart (.ListComp elt gens scope pos) d it acc env) R s := by
  refine codeAny_of_tree ?_
  show wpAny _ _ ((compStart (.ListComp elt gens scope pos) d it acc env).onRaise (fun x => do noteFrame x env; standAt theWindowsPlace)) _ _ s
  refine wpAny_notedAt ?_
  unfold compStart
  simp only [show (clausesOf (.ListComp elt gens scope pos))[d]? = gens[d]? from rfl, hg, Option.elim_some]
  rw [if_neg (by decide)]
  refine wpAny_bind (wpAny_askSetting (wpAny_ite ?_))
  split
  · first
      | exact wpAny_bind (wpAny_pure (wpAny_pure (And.intro rfl h0)))
      | exact wpAny_pure (And.intro rfl h0)
  · refine wpAny_bind (wpAny_rule ?_)
    refine wpAny_bind (wpAny_standAt ?_)
    exact wpAny_bind (h _ _ (wpAny_pure (And.intro rfl h0)))
noncomputable def wAnd : List WT → WT
  | [], σ, Q => Q true σ
  | W :: r, σ, Q => W σ fun b σ' => (b = true → wAnd r σ' Q) ∧ (b = false → Q false σ')
theorem testLoop_false {M : Model} {A : Around} {s : Shared} {Q : Bool → Shared → Prop} {E : Value → Shared → Prop} {env : Env} : ∀ (ifs : List Expr), Q false s → wpAny M A (testLoop ifs env false) Q E s
  | [], h => wpAny_pure h
  | _ :: r, h => by
    unfold testLoop
    rw [List.forIn_cons]
    simp only [Bool.false_eq_true, if_false]
    exact wpAny_bind (wpAny_pure (testLoop_false r h))
theorem JTs.tests {ifs : List Expr} {Ws : List WT} (h : JTs c k sc ifs Ws) : ∀ (f : Fm) (A : Around) (σ : St) (Q : Bool → St → Prop) (s : Shared), f.sc = sc → FmOk c f → Room A k → S c f σ s → wAnd Ws σ Q →
    wpAny (model prog w) A (testLoop ifs f.env true) (PT c f s σ Q) no s := by
  induction h with
  | nil => exact fun f A σ Q s _ _ _ X h => wpAny_pure ⟨σ, X, EvoF.refl _ _ _, h⟩
  | cons h1 _ ih =>
    intro f A σ Q s e1 fo rm X h
    unfold testLoop
    rw [List.forIn_cons]
    simp only [if_true]
    refine wpAny_bind (wpAny_bind (wpAny_mono (h1 f A σ _ s e1 fo rm X h) ?_ fun _ _ e => e))
    intro b s₁ hz1
    refine el1_4 hz1 fun σ1 X1 ev1 h2 h3 => ?_
    refine wpAny_pure ?_
    dsimp only
    cases b with
    | true => exact PT.from ev1 (ih f A σ1 Q s₁ e1 fo rm X1 (h2 rfl))
    | false => exact testLoop_false _ ⟨σ1, X1, ev1, h3 rfl⟩
structure GenW where
  src : WSrc
  bind : WA
  ifs : List WT
noncomputable abbrev WCl := St → List MV → (St → List MV → Prop) → Prop
noncomputable def wItems (need : MHeap → Prop) (T : WA) (ifs : List WT) (inner : WCl) : List MV → WCl
  | [], σ, vs, Q => need σ.mu ∧ Q σ vs
  | d :: r, σ, vs, Q => need σ.mu ∧ T d σ fun σ1 => wAnd ifs σ1 fun b σ2 => (b = true → inner σ2 vs fun σ3 vs' => wItems need T ifs inner r σ3 vs' Q) ∧ (b = false → wItems need T ifs inner r σ2 vs Q)
noncomputable def wEmit (D : Addr) (elt : WE) : WCl := fun σ vs Q => elt σ fun d σ' => vs.length < 1000000 ∧ ∀ its, Q { σ' with mu := upd σ'.mu D (.pin its (vs ++ [d])) } (vs ++ [d])
noncomputable def wGens (D : Addr) (elt : WE) : List GenW → WCl
  | [] => wEmit D elt
  | G :: Gs => fun σ vs Q => G.src σ fun items need σ1 => wItems need G.bind G.ifs (wGens D elt Gs) items σ1 vs Q
inductive JGens (c : Cx prog w) (k : Nat) (sc : List (Str × NameKind)) : List Comprehension → List GenW → Prop
  | nil : JGens c k sc [] []
  | cons {target iter : Expr} {ifs : List Expr} {G : GenW} {gens : List Comprehension} {Gs : List GenW} : JSrc c k sc iter G.src → JA c k sc target G.bind → JTs c k sc ifs G.ifs → (∀ env x, foldedSetIterable iter env x = pure x) → JGens c k sc gens Gs →
      JGens c k sc (⟨target, iter, ifs, 0⟩ :: gens) (G :: Gs)
theorem pin_append {f : Fm} {A : Around} {σ : St} {s : Shared} {D : Addr} {its : List Value} {vs : List MV} {v : Value} {d : MV} {Q : Value → Shared → Prop} {E : Value → Shared → Prop} (X : S c f σ s) (hD : σ.mu D = some (.pin its vs)) (r : Rep s.heap σ.mu v d) (hl : vs.length < 1000000)
    (h : ∀ s', S c f { σ with mu := upd σ.mu D (.pin (its ++ [v]) (vs ++ [d])) } s' → EvoP (fun b => b = D) s.heap σ.mu s'.heap (upd σ.mu D (.pin (its ++ [v]) (vs ++ [d]))) → Q .none s') : wpAny (model prog w) A (call (.builtin "list.append") [.ref D, v]) Q E s := by
  refine el1_2 (X.s0.mu D _ hD) fun n ho rs => ?_
  refine wpAny_list_append_plain (items := its.toArray) ⟨n, ho⟩ (fun h' hl' hs => ?_) (by rw [List.size_toArray, rs.length, sizeLine_eq]; lia)
  have hks : KeepS s.heap σ.mu h' (upd σ.mu D (.pin (its ++ [v]) (vs ++ [d]))) := fun b x ws m mb e _ => by
    have q : b ≠ D := by rintro rfl; rw [hD] at mb; cases mb
    exact ⟨hs.extBut b x q e, by rw [upd_ne _ _ q]; exact mb⟩
  refine h _ ⟨⟨fun b o e => hs.extBut b o ?_ (X.s0.base b o e), X.s0.gens, X.s0.os, fun b mo m => ?_, fun b o e => ?_, ?_⟩, ⟨?_, fun y b ly e => ?_, X.fr.dom, ?_, fun y b ly e => ?_⟩⟩ fun b o e _ np => ⟨hs.extBut b o np e, upd_ne _ _ np⟩
  · rintro rfl; rw [X.s0.muB _ o e] at hD; cases hD
  · by_cases q : b = D
    · subst q
      replace m := (upd_self σ.mu b (.pin (its ++ [v]) (vs ++ [d]))).symm.trans m
      cases m
      obtain ⟨n', e⟩ := hl'
      refine ⟨n', ?_, (rs.monoS hks).append (.cons (r.monoS hks) .nil)⟩
      rw [e]; simp [seqObj]
    · replace m := (upd_ne σ.mu (.pin (its ++ [v]) (vs ++ [d])) q).symm.trans m
      exact (X.s0.mu b mo m).monoS hks fun o e => hs.extBut b o q e
  · show upd σ.mu D _ b = none
    rw [upd_ne]; exact X.s0.muB b o e
    rintro rfl; rw [X.s0.muB _ o e] at hD; cases hD
  · show upd σ.mu D _ sysModules = none
    rw [upd_ne]; exact X.s0.sys
    rintro rfl; rw [X.s0.sys] at hD; cases hD
  · refine el1_2 (X.fr.ns) fun m inz2 hm => ?_
    refine el3_2 inz2 fun o es ep e r' => ?_
    refine ⟨m, ⟨o, es, ep, hs.extBut _ _ ?_ e, r'⟩, fun y d' l e' => let ⟨u, p, z⟩ := hm y d' l e'; ⟨u, p, z.monoS hks⟩⟩
    intro q; rw [← q, X.fr.muL] at hD; cases hD
  · refine el1_2 (X.fr.cell y b ly e) fun ov inz3 z => ?_
    refine el1_2 inz3 fun o e' d' => ?_
    refine ⟨ov, ⟨o, hs.extBut _ _ ?_ e', d'⟩, fun d'' v' => let ⟨u, p, z'⟩ := z d'' v'; ⟨u, p, z'.monoS hks⟩⟩
    intro q; rw [← q, X.fr.muC y b ly e] at hD; cases hD
  · show upd σ.mu D _ f.env.locals = none
    rw [upd_ne]; exact X.fr.muL
    intro q; rw [← q, X.fr.muL] at hD; cases hD
  · show upd σ.mu D _ b = none
    rw [upd_ne]; exact X.fr.muC y b ly e
    intro q; rw [← q, X.fr.muC y b ly e] at hD; cases hD
theorem Hand.evoX {f : Fm} {P : Addr → Prop} {I D : Addr} {items : List MV} {need : MHeap → Prop} {ok : Heap → MHeap → Prop} {At : Nat → Heap → Prop} {h₀ : Heap} {μ₀ : MHeap} {i : Nat} {σ σ' : St} {s s' : Shared} {its : List Value} {vs : List MV} (X : Hand c f P I items need ok At h₀ μ₀ i σ s)
    (X' : S c f σ' s') (hD : σ.mu D = some (.pin its vs)) (ev : EvoP (fun b => f.Priv b ∨ b = D) s.heap σ.mu s'.heap σ'.mu) : Hand c f P I items need ok At h₀ μ₀ i σ' s' := by
  refine el3_3 (X.it.shape _ _ X.at') fun o ws T ho hd _ => ?_
  have hID : I ≠ D := by rintro rfl; rw [X.nm] at hD; cases hD
  have e := ev I o ho (fixed_none X.nm) (fun q => q.elim (X.st.fr.notFields ho hd) hID)
  have kp : Keep s.heap σ.mu s'.heap σ'.mu := by
    refine ⟨fun a x ws n m e dd => ?_, fun a kvs ep es x m e => ?_⟩
    · have := ev a x e (fixed_none m) (fun q => q.elim (X.st.fr.notSeq e dd) (by rintro rfl; rw [m] at hD; cases hD))
      exact ⟨this.1, this.2.trans m⟩
    · have := ev a x e (m.symm ▸ trivial) (fun q => q.elim (X.st.fr.notMu m) (by rintro rfl; rw [m] at hD; cases hD))
      exact ⟨this.1, this.2.trans m⟩
  exact ⟨X.it, X.it.stay _ _ _ X.at' fun o' ho' => by rw [ho] at ho'; cases ho'; exact e.1, X.it.mono _ _ _ _ X.ok kp, X', X.nB, X.n0, e.2.trans X.nm⟩
theorem EvoP.pinned {f : Fm} {σ σ' : St} {s s' : Shared} {D : Addr} {its : List Value} {vs : List MV} (X : S c f σ s) (ev : EvoF f s.heap σ.mu s'.heap σ'.mu) (hD : σ.mu D = some (.pin its vs)) : σ'.mu D = some (.pin its vs) := by
  obtain ⟨o, ho⟩ := (X.s0.mu D _ hD).there
  exact (ev D o ho (by rw [hD]; trivial) (X.fr.notMu hD)).2.trans hD
theorem EvoP.weaken {P P' : Addr → Prop} {h h' : Heap} {μ μ' : MHeap} (ev : EvoP P h μ h' μ') (hp : ∀ b, ¬ P' b → ¬ P b) : EvoP P' h μ h' μ' := fun b o e m n => ev b o e m (hp b n)
theorem EvoP.comp {P : Addr → Prop} {h h' h'' : Heap} {μ μ' μ'' : MHeap} (x : EvoP P h μ h' μ') (y : EvoP P h' μ' h'' μ'') : EvoP P h μ h'' μ'' := x.next y fun _ _ _ _ n => n
theorem comp_core {f : Fm} {elt : Expr} {gens : List Comprehension} {scope : Scope} {pos : Pos} {D : Addr} {We : WE} (e1 : f.sc = sc) (fo : FmOk c f) (he : JE c k sc elt We) {rest : List Comprehension} {Gs : List GenW} (hG : JGens c k sc rest Gs) :
    ∀ (d : Nat) (target iter : Expr) (ifs : List Expr) (T : WA) (Ws : List WT), gens[d]? = some ⟨target, iter, ifs, 0⟩ → gens.drop (d + 1) = rest → JA c k sc target T → JTs c k sc ifs Ws →
    ∀ (A : Around) (P : Addr → Prop) (h₀ : Heap) (μ₀ : MHeap) (R : Result → Shared → Prop) (Q : St → List MV → Prop) (I : Addr) (items : List MV) (need : MHeap → Prop) (ok : Heap → MHeap → Prop) (At : Nat → Heap → Prop), Room A k →
      (∀ b o, h₀.get? b = some o → fixed (μ₀ b) → ¬ P b → ¬ (f.Priv b ∨ b = D)) →
      (∀ σ' s' its' vs', S c f σ' s' → EvoP P h₀ μ₀ s'.heap σ'.mu → σ'.mu D = some (.pin its' vs') → Q σ' vs' → R (.ok .next) s') →
      ∀ (l : List MV) (i : Nat) (σ : St) (s : Shared) (its : List Value) (vs : List MV), items.drop i = l → i ≤ items.length → Hand c f P I items need ok At h₀ μ₀ i σ s → EvoP P h₀ μ₀ s.heap σ.mu → σ.mu D = some (.pin its vs) →
        wItems need T Ws (wGens D We Gs) l σ vs Q → codeAny (model prog w) A (.compLoop (.ListComp elt gens scope pos) d (.ref I) (.ref D) f.env) R s := by
  induction hG with
  | nil =>
    intro d target iter ifs T Ws hg hdrop ht hi A P h₀ μ₀ R Q I items need ok At rm hp hR l
    have hnone : gens[d + 1]? = none := by
      have := congrArg List.length hdrop
      rw [List.length_drop, List.length_nil] at this
      exact List.getElem?_eq_none (by lia)
    induction l with
    | nil =>
      intro i σ s its vs hd hi' X ev hD h
      refine codeAny_compTurnStep hg (X.next ev rm.hand h.1 ?_ ?_ hi') (fun g' e => by rw [hnone] at e; cases e)
      · intro d v s' hd' _ _ _
        have := (List.getElem?_eq_some_iff.mp hd').1
        have h2 := congrArg List.length hd
        rw [List.length_drop, List.length_nil] at h2
        lia
      · exact fun s' _ X' ev' => hR σ s' its vs X' ev' hD h.2
    | cons x r ih =>
      intro i σ s its vs hd hi' X ev hD h
      have hlt := (drop_at hd).1
      have hget : items[i]? = some x := (drop_at hd).2.1
      have hdr := (drop_at hd).2.2
      refine codeAny_compTurnStep hg (X.next ev rm.hand h.1 ?_ ?_ hi') (fun g' e => by rw [hnone] at e; cases e)
      · intro d' v s₁ hd' rv X1 ev1
        rw [hget] at hd'; cases hd'
        refine X1.it.go X1.at' ?_
        refine wpAny_mono (ht f A σ _ s₁ v x e1 fo rm X1.st rv h.2) ?_ fun _ _ e => e
        intro _ s₂ hz4
        refine el1_3 hz4 fun σ2 X2 ev2 h2 => ?_
        refine wpAny_mono (hi.tests f A σ2 _ s₂ e1 fo rm X2 h2) ?_ fun _ _ e => e
        intro b s₃ hz5
        refine el1_4 hz5 fun σ3 X3 ev3 h3 h4 => ?_
        have evt := ev2.comp ev3
        have hD3 := EvoP.pinned X1.st evt hD
        have X3' := X1.evo X3 evt
        refine ⟨fun e => ih (i + 1) σ3 s₃ its vs hdr hlt X3' (ev1.next evt fun b o e m n q => hp b o e m n (.inl q)) hD3 (h4 e), fun e => ?_⟩
        rw [hnone]
        dsimp only
        refine wpAny_mono (he f A σ3 _ s₃ e1 fo rm X3 (h3 e)) ?_ fun _ _ e => e
        intro y s₄ hz6
        refine el2_5 hz6 fun dy σ4 r4 X4 ev4 hlen h5 => ?_
        have hD4 := EvoP.pinned X3 ev4 hD3
        refine pin_append X4 hD4 r4 hlen fun s₅ X5 ev5 => ?_
        have evx : EvoP (fun b => f.Priv b ∨ b = D) s₃.heap σ3.mu s₅.heap (upd σ4.mu D (.pin (its ++ [y]) (vs ++ [dy]))) := (ev4.weaken fun b n q => n (.inl q)).comp (ev5.weaken fun b n q => n (.inr q))
        refine ih (i + 1) _ s₅ (its ++ [y]) (vs ++ [dy]) hdr hlt (X3'.evoX X5 hD3 evx) ?_ (upd_self _ _ _) (h5 _)
        exact (ev1.next evt fun b o e m n q => hp b o e m n (.inl q)).next evx hp
      · intro s' e _ _; lia
  | @cons target' iter' ifs' G rest' Gs' hsrc hta htest hfold hG' ihG =>
    intro d target iter ifs T Ws hg hdrop ht hi A P h₀ μ₀ R Q I items need ok At rm hp hR l
    have hsome : gens[d + 1]? = some ⟨target', iter', ifs', 0⟩ := by
      have := congrArg (fun l => l[0]?) hdrop
      simpa using this
    have hdrop' : gens.drop (d + 1 + 1) = rest' := by
      have := congrArg List.tail hdrop
      simpa using this
    have hfd : ∀ g', gens[d + 1]? = some g' → g'.is_async = 0 ∧ ∀ x, foldedSetIterable g'.iter f.env x = pure x := fun g' e => by
      rw [hsome] at e; cases e; exact ⟨rfl, hfold _⟩
    induction l with
    | nil =>
      intro i σ s its vs hd hi' X ev hD h
      refine codeAny_compTurnStep hg (X.next ev rm.hand h.1 ?_ ?_ hi') hfd
      · intro d v s' hd' _ _ _
        have := (List.getElem?_eq_some_iff.mp hd').1
        have h2 := congrArg List.length hd
        rw [List.length_drop, List.length_nil] at h2
        lia
      · exact fun s' _ X' ev' => hR σ s' its vs X' ev' hD h.2
    | cons x r ih =>
      intro i σ s its vs hd hi' X ev hD h
      have hlt := (drop_at hd).1
      have hget : items[i]? = some x := (drop_at hd).2.1
      have hdr := (drop_at hd).2.2
      refine codeAny_compTurnStep hg (X.next ev rm.hand h.1 ?_ ?_ hi') hfd
      · intro d' v s₁ hd' rv X1 ev1
        rw [hget] at hd'; cases hd'
        refine X1.it.go X1.at' ?_
        refine wpAny_mono (ht f A σ _ s₁ v x e1 fo rm X1.st rv h.2) ?_ fun _ _ e => e
        intro _ s₂ hz7
        refine el1_3 hz7 fun σ2 X2 ev2 h2 => ?_
        refine wpAny_mono (hi.tests f A σ2 _ s₂ e1 fo rm X2 h2) ?_ fun _ _ e => e
        intro b s₃ hz8
        refine el1_4 hz8 fun σ3 X3 ev3 h3 h4 => ?_
        have evt := ev2.comp ev3
        have hD3 := EvoP.pinned X1.st evt hD
        have X3' := X1.evo X3 evt
        have ev13 := ev1.next evt fun b o e m n q => hp b o e m n (.inl q)
        refine ⟨fun e => ih (i + 1) σ3 s₃ its vs hdr hlt X3' ev13 hD3 (h4 e), fun e => ?_⟩
        rw [hsome]
        dsimp only
        refine wpAny_mono (hsrc f A σ3 _ s₃ e1 fo rm X3 (h3 e)) (fun v4 s₄ h5 => wpAny_mono h5 ?_ fun _ _ e => e) fun _ _ e => e
        intro it' s₅ hz9
        refine el6_4 hz9 fun I' items' need' ok' At' σ5 eqz10 H5 ev5 h6 => ?_
        subst eqz10
        have hD5 := EvoP.pinned X3 ev5 hD3
        have H5' : Hand c f (fun b => f.Priv b ∨ b = D) I' items' need' ok' At' s₃.heap σ3.mu 0 σ5 s₅ := ⟨H5.it, H5.at', H5.ok, H5.st, H5.nB, fun b o e m n => H5.n0 b o e m fun q => n (.inl q), H5.nm⟩
        refine codeAny_compStartStep hsome ?_ fun Q E q => H5.it.self _ _ _ _ _ H5.at' q
        refine ihG (d + 1) target' iter' ifs' G.bind G.ifs hsome hdrop' hta htest (A.mark none) (fun b => f.Priv b ∨ b = D) s₃.heap σ3.mu _ _ I' items' need' ok' At' ⟨rm.hand, rm.depth, rm.units⟩ (fun b o e m n => n) ?_ items' 0 σ5 s₅ its vs rfl (Nat.zero_le _) H5' (ev5.weaken fun b n q => n (.inl q)) hD5 h6
        intro σ6 s₆ its6 vs6 X6 ev6 hD6 h7
        exact ih (i + 1) σ6 s₆ its6 vs6 hdr hlt (X3'.evoX X6 hD3 ev6) (ev13.next ev6 hp) hD6 h7
      · intro s' e _ _; lia
end
end Mine
namespace Mine
open Classical
section
variable {prog : Program} {w : World} {c : Cx prog w} {k : Nat} {sc : List (Str × NameKind)}
noncomputable def erase (μ : MHeap) (D : Addr) : MHeap := fun x => if x = D then none else μ x
theorem erase_self (μ : MHeap) (D : Addr) : erase μ D D = none := if_pos rfl
theorem erase_ne (μ : MHeap) {D x : Addr} (h : x ≠ D) : erase μ D x = μ x := if_neg h
theorem erase_none {μ : MHeap} {D x : Addr} (h : μ x = none) : erase μ D x = none := by
  by_cases q : x = D
  · rw [q]; exact erase_self _ _
  · rw [erase_ne _ q]; exact h
theorem erase_upd {μ : MHeap} {D : Addr} (mo : MObj) (h : μ D = none) : erase (upd μ D mo) D = μ := by
  funext x
  by_cases q : x = D
  · rw [q, erase_self, h]
  · rw [erase_ne _ q, upd_ne _ _ q]
theorem keepS_erase {h : Heap} {μ : MHeap} (D : Addr) : KeepS h μ h (erase μ D) := fun a o vs n m e _ => ⟨e, erase_none m⟩
theorem S0.erase {μ : MHeap} {s : Shared} (x : S0 c μ s) (D : Addr) : S0 c (erase μ D) s where
  base := x.base
  gens := x.gens
  os := x.os
  mu := fun b mo m => by
    by_cases q : b = D
    · rw [q, erase_self] at m; cases m
    · rw [erase_ne _ q] at m
      exact (x.mu b mo m).monoS (keepS_erase D) fun _ e => e
  muB := fun a o e => erase_none (x.muB a o e)
  sys := erase_none x.sys
theorem FrS.evoI {f : Fm} {σ : St} {s s' : Shared} {μ' : MHeap} {I : Addr} {oI : Obj} {vs : Array Value} (F : FrS f σ s) (x : EvoP (fun b => b = I) s.heap σ.mu s'.heap μ') (hI : s.heap.get? I = some oI) (hd : oI.data = .fields vs) : FrS f { σ with mu := μ' } s' := by
  have out : ∀ {b : Addr} {o : Obj}, s.heap.get? b = some o → σ.mu b = none → (∀ ws, o.data ≠ .fields ws) → s'.heap.get? b = some o ∧ μ' b = none := fun {b o} e m nd => by
    obtain ⟨p, q⟩ := x b o e (fixed_none m) (by rintro rfl; rw [hI] at e; cases e; exact nd _ hd)
    exact ⟨p, q.trans m⟩
  have kp : KeepS s.heap σ.mu s'.heap μ' := fun a o ws n m e d => out e m fun ws' q => by rw [d] at q; cases q
  constructor
  · refine el1_2 (F.ns) fun m inz1 q => ?_
    refine el3_3 inz1 fun o es ep e d r => ?_
    exact ⟨m, ⟨o, es, ep, (out e F.muL fun ws' q => by rw [d] at q; cases q).1, d, r⟩, fun y d l v => let ⟨u, a, b⟩ := q y d l v; ⟨u, a, b.monoS kp⟩⟩
  · intro y a l q
    refine el1_2 (F.cell y a l q) fun ov inz2 z => ?_
    refine el1_2 inz2 fun o e d => ?_
    exact ⟨ov, ⟨o, (out e (F.muC y a l q) fun ws' q => by rw [d] at q; cases q).1, d⟩, fun d' v => let ⟨u, a, b⟩ := z d' v; ⟨u, a, b.monoS kp⟩⟩
  · exact F.dom
  · refine el1_2 (F.ns) fun m inz3 q => ?_
    refine el3_3 inz3 fun o es ep e d r => ?_
    exact (out e F.muL fun ws' q => by rw [d] at q; cases q).2
  · intro y a l q
    refine el1_2 (F.cell y a l q) fun ov inz4 z => ?_
    refine el1_2 inz4 fun o e d => ?_
    exact (out e (F.muC y a l q) fun ws' q => by rw [d] at q; cases q).2
theorem S.otherNs {f : Fm} {σ : St} {s : Shared} (x : S c f σ s) {h' : Heap} {t : Nat} {L : Addr} {m : Str → Option Value} (hs : Heap.SameBut L s.heap h') (hn : s.heap.Ns L m) (hB : c.B.get? L = none) (hm : σ.mu L = none) (h1 : f.env.locals ≠ L)
    (h2 : ∀ y b, f.sc.lookup y = some .cell ∨ f.sc.lookup y = some .free → f.env.cells.lookup y = some b → b ≠ L) : S c f σ { s with heap := h', toks := t } := by
  have hnq : ∀ o vs n, s.heap.get? L = some o → o.data ≠ .seq vs n := fun o vs n e q => by
    refine el3_3 hn fun o' es ep e' d' _ => ?_
    rw [e] at e'; cases e'; rw [q] at d'; cases d'
  have kp := keep_other hs.extBut hm hnq
  refine ⟨x.s0.other hs.extBut hB hm hnq, ?_, ?_, x.fr.dom, x.fr.muL, x.fr.muC⟩
  · refine el1_2 (x.fr.ns) fun m inz5 q => ?_
    refine el3_3 inz5 fun o' es ep e d r => ?_
    exact ⟨m, ⟨o', es, ep, hs.extBut _ _ h1 e, d, r⟩, fun y d' l v => let ⟨u, p, z⟩ := q y d' l v; ⟨u, p, z.mono kp⟩⟩
  · intro y b l q
    refine el1_2 (x.fr.cell y b l q) fun ov inz6 z => ?_
    refine el1_2 inz6 fun o' e d => ?_
    exact ⟨ov, ⟨o', hs.extBut _ _ (h2 y b l q) e, d⟩, fun d' v => let ⟨u, p, r⟩ := z d' v; ⟨u, p, r.mono kp⟩⟩
noncomputable def wComp (names : List (Str × NameKind)) (G : GenW) (Gs : List GenW) (We : WE) : WE := fun σ Q => G.src σ fun items need σ1 => ∀ D, σ1.mu D = none →
  wItems need G.bind G.ifs (wGens D We Gs) items ⟨freeVars names σ1.vars, upd σ1.mu D (.pin [] [])⟩ [] fun σ2 vs => Q (.flist vs) { σ1 with mu := erase σ2.mu D }
structure CompOk (sc : List (Str × NameKind)) (scope : Scope) : Prop where
  kind : scope.kind = .function
  nd : (scope.names.map (·.1)).Nodup
  free : ∀ x, (x, NameKind.free) ∈ scope.names → sc.lookup x = some .cell ∨ sc.lookup x = some .free
theorem mem_lookup_nodup {x : Str} {kd : NameKind} : ∀ {l : List (Str × NameKind)}, (l.map (·.1)).Nodup → (x, kd) ∈ l → l.lookup x = some kd
  | [], _, h => nomatch h
  | (a, b) :: l, hnd, hm => by
    simp only [List.map_cons, List.nodup_cons] at hnd
    rw [List.lookup_cons]
    rcases List.mem_cons.mp hm with e | m
    · cases e; rw [beq_self_eq_true]
    · have : x ≠ a := by rintro rfl; exact hnd.1 (List.mem_map.mpr ⟨_, m, rfl⟩)
      rw [beq_false_of_ne this]; exact mem_lookup_nodup hnd.2 m
structure CompEnd (c : Cx prog w) (f : Fm) (s : Shared) (σ : St) (D L : Addr) (vs : List MV) (σ' : St) (s' : Shared) : Prop where
  st : S c f σ' s'
  rep : Rep s'.heap σ'.mu (.ref D) (.flist vs)
  ev : EvoF f s.heap σ.mu s'.heap σ'.mu
  ns : ∃ m, s'.heap.Ns L m
  nB : c.B.get? L = none
  nm : σ'.mu L = none
  old : ∀ b o, s.heap.get? b = some o → fixed (σ.mu b) → ¬ f.Priv b → b ≠ L
  h1 : f.env.locals ≠ L
  h2 : ∀ y b, f.sc.lookup y = some .cell ∨ f.sc.lookup y = some .free → f.env.cells.lookup y = some b → b ≠ L
theorem comp_main {f : Fm} {A : Around} {σ : St} {s : Shared} {Q : MV → St → Prop} {elt target iter : Expr} {ifs : List Expr} {rest : List Comprehension} {scope : Scope} {pos : Pos} {G : GenW} {Gs : List GenW} {We : WE} {RR : Value → Addr → Result → Shared → Prop}
    (e1 : f.sc = sc) (fo : FmOk c f) (rm : Room A k) (X : S c f σ s) (co : CompOk sc scope) (hsrc : JSrc c k sc iter G.src) (hta : JA c k scope.names target G.bind) (hi : JTs c k scope.names ifs G.ifs) (hG : JGens c k scope.names rest Gs) (he : JE c k scope.names elt We)
    (hq : wComp scope.names G Gs We σ Q)
    (hRR : ∀ D L vs σ' s', CompEnd c f s σ D L vs σ' s' → Q (.flist vs) σ' → RR (.ref D) L (.ok .next) s') :
    wpAny (model prog w) A (eval iter f.env) (fun x s₁ => wpAny (model prog w) A (pyIter x) (fun it s₂ => wpAny (model prog w) A (newList []) (fun acc s₃ =>
      wpAny (model prog w) A (newFunctionEnv scope f.env.globals (clOf f.env scope.names []) [] f.env.qual none .none (some f.env)) (fun cenv s₄ =>
        codeAny (model prog w) A (.compStart (.ListComp elt (⟨target, iter, ifs, 0⟩ :: rest) scope pos) 0 it acc { cenv with scope := relabel scope f.env }) (RR acc cenv.locals) s₄) no s₃) no s₂) no s₁) no s := by
  refine wpAny_mono (hsrc f A σ _ s e1 fo rm X hq) (fun v s₁ h1 => wpAny_mono h1 ?_ fun _ _ e => e) fun _ _ e => e
  intro it s₂ hz7
  refine el6_4 hz7 fun I items need ok At σ1 eqz8 H ev1 h2 => ?_
  subst eqz8
  refine wpAny_newObj_type ?_ (by show (0 : Nat) ≤ sizeLine; exact Nat.zero_le _)
  have hk3 : ∀ b o, s₂.heap.get? b = some o → (s₂.heap.push (seqObj "list" ([] : List Value).toArray 0)).get? b = some o := fun b o e => Heap.get?_push_of_some _ e
  have hDf := H.st.s0.fresh (Nat.le_refl s₂.heap.objs.size)
  have hfree : ∀ x, (x, NameKind.free) ∈ scope.names → f.sc.lookup x = some .cell ∨ f.sc.lookup x = some .free := fun x m => e1 ▸ co.free x m
  have ev3 : Evo0 s₂.heap σ1.mu (s₂.heap.push (seqObj "list" ([] : List Value).toArray 0)) (upd σ1.mu s₂.heap.objs.size (.pin [] [])) := keep_new _ (Heap.get?_none_of_le (Nat.le_refl _)) hk3
  have X3 : S c f { σ1 with mu := upd σ1.mu s₂.heap.objs.size (.pin [] []) } { s₂ with heap := s₂.heap.push (seqObj "list" ([] : List Value).toArray 0), toks := s₂.toks } :=
    ⟨H.st.s0.new (Nat.le_refl _) hk3 ⟨0, Heap.get?_push_size (o := seqObj "list" ([] : List Value).toArray 0) _ rfl, .nil⟩, H.st.fr.evo (s' := { s₂ with heap := s₂.heap.push (seqObj "list" ([] : List Value).toArray 0), toks := s₂.toks }) ev3⟩
  refine el0_3 (compFm_ok fo X3 co.kind co.nd hfree) fun fo4 X4 hk4 => ?_
  have npriv := fun b o (e : ({ s₂ with heap := s₂.heap.push (seqObj "list" ([] : List Value).toArray 0), toks := s₂.toks } : Shared).heap.get? b = some o) => compFm_priv (f := f) e co.nd
  refine wpAny_newCompEnv ?_
  refine el3_3 (H.it.shape _ _ H.at') fun oI wsI T hoI hdI _ => ?_
  have hev4 : ∀ {h : Heap}, (∀ b o, (s₂.heap.push (seqObj "list" ([] : List Value).toArray 0)).get? b = some o → h.get? b = some o) → EvoP (fun b => b = I) s₂.heap σ1.mu h (upd σ1.mu s₂.heap.objs.size (.pin [] [])) := fun hk b o e m _ =>
    ⟨hk b o (hk3 b o e), upd_ne _ _ (Nat.ne_of_lt (Heap.lt_size e))⟩
  have hID : I ≠ s₂.heap.objs.size := Nat.ne_of_lt (Heap.lt_size hoI)
  have key4 := hk4
  have H4 : Hand c (compFm f scope (s₂.heap.push (seqObj "list" ([] : List Value).toArray 0)).objs.size) (fun b => b = I) I items need ok At s₂.heap σ1.mu 0 ⟨freeVars scope.names σ1.vars, upd σ1.mu s₂.heap.objs.size (.pin [] [])⟩
      { s₂ with heap := pushCells ((s₂.heap.push (seqObj "list" ([] : List Value).toArray 0)).push { cls := .type "dict", data := .dict #[] }) scope.names, toks := s₂.toks } := by
    refine ⟨H.it, H.it.stay _ _ _ H.at' fun o e => key4 _ _ (hk3 _ _ e), H.it.mono _ _ _ _ H.ok ⟨fun a o ws n m e _ => ⟨key4 _ _ (hk3 _ _ e), ?_⟩, fun a kvs ep es o m e => ⟨key4 _ _ (hk3 _ _ e), ?_⟩⟩, X4, H.nB, fun b o _ _ n => n, ?_⟩
    · exact (upd_ne σ1.mu _ (Nat.ne_of_lt (Heap.lt_size e))).trans m
    · exact (upd_ne σ1.mu _ (Nat.ne_of_lt (Heap.lt_size e))).trans m
    · show upd σ1.mu s₂.heap.objs.size (.pin [] []) I = none
      exact (upd_ne σ1.mu _ hID).trans H.nm
  refine codeAny_compStartStep (d := 0) rfl ?_ fun Q E q => H.it.self _ _ _ _ _ H4.at' q
  have core := comp_core (c := c) (k := k) (sc := scope.names) (f := compFm f scope (s₂.heap.push (seqObj "list" ([] : List Value).toArray 0)).objs.size) (gens := ⟨target, iter, ifs, 0⟩ :: rest) (pos := pos) (scope := scope) (D := s₂.heap.objs.size) rfl fo4 he hG
  refine core 0 target iter ifs G.bind G.ifs rfl rfl hta hi A (fun b => b = I) s₂.heap σ1.mu (RR (.ref s₂.heap.objs.size) (s₂.heap.push (seqObj "list" ([] : List Value).toArray 0)).objs.size)
    (fun σ2 vs => Q (.flist vs) { σ1 with mu := erase σ2.mu s₂.heap.objs.size }) I items need ok At rm ?_ ?_ items 0 _ _ [] [] rfl (Nat.zero_le _) H4 (hev4 key4) (upd_self _ _ _) (h2 _ hDf)
  · rintro b o e m n (q | q)
    · exact npriv b o (hk3 b o e) q
    · have := Heap.lt_size e; rw [q] at this; exact Nat.lt_irrefl _ this
  · intro σ' s' its vs X' ev' hD' hQ
    refine el1_2 (X'.s0.mu _ _ hD') fun n hoD rD => ?_
    have evE : EvoP (fun b => b = I) s₂.heap σ1.mu s'.heap (erase σ'.mu s₂.heap.objs.size) := fun b o e m np => by
      obtain ⟨p, q⟩ := ev' b o e m np
      exact ⟨p, by rw [erase_ne _ (Nat.ne_of_lt (Heap.lt_size e))]; exact q⟩
    have hL : s₂.heap.objs.size < (s₂.heap.push (seqObj "list" ([] : List Value).toArray 0)).objs.size := by rw [Heap.size_push]; exact Nat.lt_succ_self _
    refine hRR _ _ vs { σ1 with mu := erase σ'.mu s₂.heap.objs.size } s' ⟨⟨X'.s0.erase _, H.st.fr.evoI evE hoI hdI⟩, .flist (erase_self _ _) hoD (rD.monoS (keepS_erase _)), ?_, ?_, fo4.low, erase_none X'.fr.muL, ?_, ?_, ?_⟩ hQ
    · intro b o e m np
      obtain ⟨p, q⟩ := ev1 b o e m np
      obtain ⟨p', q'⟩ := evE b o p (q ▸ m) (H.n0 b o e m np)
      exact ⟨p', q'.trans q⟩
    · refine el1_2 (X'.fr.ns) fun m hn _ => ?_
      exact ⟨m, hn⟩
    · intro b o e m np
      exact Nat.ne_of_lt (Nat.lt_trans (Heap.lt_size (ev1 b o e m np).1) hL)
    · refine el1_2 (H.st.fr.ns) fun m inz9 _ => ?_
      refine el3_2 inz9 fun o es ep e _ => ?_
      exact Nat.ne_of_lt (Nat.lt_trans (Heap.lt_size e) hL)
    · intro y b l q
      refine el1_2 (H.st.fr.cell y b l q) fun ov inz10 _ => ?_
      refine el1_2 inz10 fun o e _ => ?_
      exact Nat.ne_of_lt (Nat.lt_trans (Heap.lt_size e) hL)
theorem closure_of {f : Fm} {scope : Scope} (fo : FmOk c f) (hfree : ∀ x, (x, NameKind.free) ∈ scope.names → f.sc.lookup x = some .cell ∨ f.sc.lookup x = some .free) : closureFor scope f.env = pure (clOf f.env scope.names []) :=
  closureFor_eq fun n m => fo.has n (hfree n m)
theorem JE.comp {elt target iter : Expr} {ifs : List Expr} {rest : List Comprehension} {scope : Scope} {pos : Pos} {G : GenW} {Gs : List GenW} {We : WE} (co : CompOk sc scope) (hsrc : JSrc c k sc iter G.src) (hs : ∀ env x, foldedSetIterable iter env x = pure x) (hta : JA c k scope.names target G.bind)
    (hi : JTs c k scope.names ifs G.ifs) (hG : JGens c k scope.names rest Gs) (he : JE c k scope.names elt We) : JE c k sc (.ListComp elt (⟨target, iter, ifs, 0⟩ :: rest) scope pos) (wComp scope.names G Gs We) := fun f A σ Q s e1 fo rm X h => by
  show wpAny _ A (eval (.ListComp elt (⟨target, iter, ifs, 0⟩ :: rest) scope pos) f.env) _ _ s
  rw [eval_ListComp]
  refine wpAny_comprehension_free (use := none) rfl (hs _) (closure_of fo fun x m => e1 ▸ co.free x m) co.kind (fun x m l => mem_lookup_nodup co.nd (l ▸ m)) ?_
  refine comp_main (Q := Q) (RR := fun acc C => compPost (model prog w) A no none (PF c f s σ Q) acc C) e1 fo rm X co hsrc hta hi hG he h ?_
  intro D L vs σ' s' E q
  obtain ⟨m, hn⟩ := E.ns
  refine ⟨m, hn, fun h' hs' => ?_⟩
  have hnq : ∀ o vs n, s'.heap.get? L = some o → o.data ≠ .seq vs n := fun o vs n e q => by
    refine el3_3 hn fun o' es ep e' d' _ => ?_
    rw [e] at e'; cases e'; rw [q] at d'; cases d'
  have kp := keep_other hs'.extBut E.nm hnq
  exact ⟨.flist vs, σ', E.rep.mono kp, E.st.otherNs hs' hn E.nB E.nm E.h1 E.h2, EvoP.skip (P := f.Priv) E.ev hs'.extBut E.old, q⟩
theorem JS.assignComp {x : Str} {xp : Pos} {elt target iter : Expr} {ifs : List Expr} {rest : List Comprehension} {scope : Scope} {pos spos : Pos} {G : GenW} {Gs : List GenW} {We : WE} (co : CompOk sc scope) (hsrc : JSrc c k sc iter G.src) (hs : ∀ env x, foldedSetIterable iter env x = pure x) (hta : JA c k scope.names target G.bind)
    (hi : JTs c k scope.names ifs G.ifs) (hG : JGens c k scope.names rest Gs) (he : JE c k scope.names elt We) (hx : own sc x)
    (hsw : ∀ f : Fm, f.sc = sc → FmOk c f → swapsWith (.ListComp elt (⟨target, iter, ifs, 0⟩ :: rest) scope pos) (some (Expr.Name x xp)) spos.line f.env = pure true) :
    JS c k sc (.Assign [.Name x xp] (.ListComp elt (⟨target, iter, ifs, 0⟩ :: rest) scope pos) spos) (wAssign (wComp scope.names G Gs We) (wSetv x)) := fun f A σ Q s e1 fo rm X h => by
  show wpAny _ A _ _ _ s
  rw [exec_Assign_Name_used _ _ _ _ (hsw f e1 fo)]
  refine wpAny_bind (wpAny_standAt (wpAny_bind ?_))
  show wpAny _ A (do let _ ← comprehension (.ListComp elt (⟨target, iter, ifs, 0⟩ :: rest) scope pos) scope f.env _ (newList []) false (eval iter f.env) (some (PySem.assign (Expr.Name x xp) f.env))) _ _ s
  refine wpAny_bind (wpAny_mono (wpAny_comprehension_free (use := some (PySem.assign (Expr.Name x xp) f.env)) (Q := fun _ s' => PS c f s σ Q .next s') rfl (hs _) (closure_of fo fun x m => e1 ▸ co.free x m) co.kind (fun x m l => mem_lookup_nodup co.nd (l ▸ m)) ?_)
    (fun _ s' hq => wpAny_pure (wpAny_pure hq)) fun _ _ e => e)
  refine comp_main (Q := fun d σ' => wSetv x d σ' fun σ'' => Q .next σ'') (RR := fun acc C => compPost (model prog w) A no (some (PySem.assign (Expr.Name x xp) f.env)) (fun _ s' => PS c f s σ Q .next s') acc C) e1 fo rm X co hsrc hta hi hG he h ?_
  intro D L vs σ' s' E q
  obtain ⟨m, hn⟩ := E.ns
  show wpAny _ A (PySem.assign (Expr.Name x xp) f.env (.ref D)) _ _ _
  refine wpAny_assign_Name (store fo E.st E.rep (e1 ▸ hx) fun s'' X'' ev'' => ?_)
  have hnk : s''.heap.Ns L m := by
    refine el3_2 hn fun o es ep e r => ?_
    refine ⟨o, es, ep, (ev''.out e E.nm ?_).1, r⟩
    rintro (q | ⟨y, l, q⟩)
    · exact E.h1 q.symm
    · exact E.h2 y L (.inl l) q rfl
  refine ⟨m, hnk, fun h' hs' => ?_⟩
  exact ⟨.next, _, .next, X''.otherNs hs' hnk E.nB E.nm E.h1 E.h2, EvoP.skip (P := f.Priv) (E.ev.comp ev'') hs'.extBut E.old, q⟩
end
end Mine
namespace Mine
open Classical
section
variable {prog : Program} {w : World} {c : Cx prog w} {k : Nat} {sc : List (Str × NameKind)}
noncomputable def aset : List (Str × MV) → Str → MV → List (Str × MV)
  | [], x, d => [(x, d)]
  | (y, e) :: r, x, d => if y = x then (y, d) :: r else (y, e) :: aset r x d
theorem isStr_str {x y : Str} {t : Tok} : (Value.str x t).isStr y = (x == y) := rfl
section
variable {h : Heap} {μ : MHeap}
theorem AttrRep.noRef {les : List DictEntry} {es : List (Str × MV)} (x : AttrRep w h μ les es) : les.any (·.refKey) = false := by
  induction x with
  | nil => rfl
  | cons e _ _ ih => rw [List.any_cons, ih, Bool.or_false]; unfold DictEntry.refKey; rw [e]
theorem AttrRep.find {les : List DictEntry} {es : List (Str × MV)} (x : AttrRep w h μ les es) {y : Str} : (∀ d, es.lookup y = some d → ∃ v, getL y les = some (some v) ∧ Rep h μ v d) ∧ (es.lookup y = none → getL y les = some none) := by
  have key : (∀ d, es.lookup y = some d → ∃ e, les.find? (·.key.isStr y) = some e ∧ Rep h μ e.val d) ∧ (es.lookup y = none → les.find? (·.key.isStr y) = none) := by
    induction x with
    | nil => exact ⟨fun d e => (nomatch e), fun _ => rfl⟩
    | @cons e z t d les es hk r _ ih =>
      rw [List.lookup_cons, List.find?_cons, hk, isStr_str]
      by_cases q : y = z
      · subst q
        rw [beq_self_eq_true]
        exact ⟨fun d' e' => by cases e'; exact ⟨e, rfl, r⟩, fun e' => (nomatch e')⟩
      · rw [beq_false_of_ne q, beq_false_of_ne (Ne.symm q)]
        exact ih
  refine ⟨fun d e => ?_, fun e => ?_⟩
  · obtain ⟨en, he, r⟩ := key.1 d e
    exact ⟨en.val, by unfold getL; rw [he], r⟩
  · unfold getL; rw [key.2 e, x.noRef]; rfl
theorem AttrRep.put {les : List DictEntry} {es : List (Str × MV)} (x : AttrRep w h μ les es) (y : Str) (hsh : Int) (t : Tok) {v : Value} {d : MV} (r : Rep h μ v d) : AttrRep w h μ (putL y hsh (.str y t) v les) (aset es y d) := by
  induction x with
  | nil => exact .cons rfl r .nil
  | @cons e z t' d' les es hk r' x' ih =>
    unfold putL aset
    rw [hk, isStr_str]
    by_cases q : z = y
    · rw [if_pos q, if_pos (by simpa using q)]
      exact .cons rfl r x'
    · rw [if_neg q, if_neg (by simpa using q)]
      exact .cons hk r' ih
theorem AttrRep.length {les : List DictEntry} {es : List (Str × MV)} (x : AttrRep w h μ les es) : les.length = es.length := by
  induction x with
  | nil => rfl
  | cons _ _ _ ih => simp [ih]
end
theorem putL_length (y : Str) (hsh : Int) (key v : Value) : ∀ les : List DictEntry, (putL y hsh key v les).length ≤ les.length + 1
  | [] => by simp [putL]
  | e :: r => by
    unfold putL
    split
    · simp
    · have := putL_length y hsh key v r; simp; lia
structure InstIn (μ : MHeap) (a : MV) (C x dd : Addr) (es : List (Str × MV)) : Prop where
  val : a = .ref x
  inst : μ x = some (.inst C dd)
  attrs : μ dd = some (.attrs es)
theorem InstIn.at {μ : MHeap} {s : Shared} {v : Value} {a : MV} {C x dd : Addr} {es : List (Str × MV)} (I : InstIn μ a C x dd es) (X : S0 c μ s) (r : Rep s.heap μ v a) :
    v = .ref x ∧ ∃ les n, InstAt s.heap x (instObj C dd) C (some (dictOf les n)) ∧ AttrRep w s.heap μ les es := by
  obtain ⟨rfl, hi, ha⟩ := I
  obtain rfl := r.isRef
  have h1 := X.mu x _ hi
  obtain ⟨les, n, h2, h3⟩ := X.mu dd _ ha
  exact ⟨rfl, les, n, ⟨h1, rfl, rfl, h2⟩, h3⟩
theorem Rep.handed {h : Heap} {μ : MHeap} {v : Value} {d : MV} (r : Rep h μ v d) : handedIn v = true := by cases r <;> rfl
structure GetOk (c : Cx prog w) (C : Addr) (name : Str) : Prop where
  plain : plainGet c.K C name = true
  dict : hasDictIn c.K C = true
  attr : ∃ attr, findIn c.K (.ref C) name = some attr ∧ noGet c.K attr = true
noncomputable abbrev AttrEq (value : Expr) (attr : Str) (pos : Pos) : Prop := ∀ env, eval (.Attribute value attr pos) env = (do
      let o ← eval value env
      standAt pos.atName
      let r ← holding [o] (getAttr o attr true)
      letTemporaryGo value o r
      pure r)
noncomputable def wAttr (name : Str) (ok : Addr → Prop) (W : WE) : WE := fun σ Q => W σ fun a σ1 => ∃ C x dd es d, InstIn σ1.mu a C x dd es ∧ ok C ∧ es.lookup name = some d ∧ Q d σ1
theorem JE.attr {o : Expr} {name : Str} {pos : Pos} {W : WE} (ho : JE c k sc o W) (he : AttrEq o name pos) : JE c k sc (.Attribute o name pos) (wAttr name (GetOk c · name) W) := fun f A σ Q s e1 fo rm X h => by
  refine Attribute_any_ (wpAny_mono (ho f A σ _ s e1 fo rm X h) ?_ fun _ _ e => e) (he _)
  rintro v s₁ ⟨a, σ1, r, X1, ev, C, x, dd, es, d, I, ok, hl, q⟩
  obtain ⟨rfl, les, n, IA, AR⟩ := I.at X1.s0 r
  refine el1_2 (AR.find.1 d hl) fun u hu ru => ?_
  obtain ⟨attr, ha, hn⟩ := ok.attr
  refine get_value (c.X.keeps X1.s0.base) IA (plainGet_of ok.plain).1 (findObj_own ok.dict ha hn hu) ru.handed ?_
  have X1' : S c f σ1 { s₁ with toks := s₁.toks + 1 } := X1.grow (h' := s₁.heap) fun _ _ e => e
  exact ⟨d, σ1, ru, X1', ev, q⟩
structure SetOk (c : Cx prog w) (C : Addr) (name : Str) : Prop where
  set : findIn c.K (.ref C) "__setattr__" = some (some (.builtin "object.__setattr__"))
  over : plainOver c.K C = true
  taker : takerIn c.K C name = some none
  dict : hasDictIn c.K C = true
theorem osa_raw {A : Around} {s : Shared} {x C dx : Addr} {les : List DictEntry} {n : Nat} {name : Str} {tk : Tok} {v : Value} {R : Result → Shared → Prop} {K : Frag} (X : K.In s.heap) (I : InstAt s.heap x (instObj C dx) C (some (dictOf les n)))
    (hp : plainOver K C = true) (ht : takerIn K C name = some none) (hh : hasDictIn K C = true) (hr : les.any (·.refKey) = false) (hz : les.length ≤ 900)
    (h : ∀ h' t hsh tk, h'.get? dx = some (dictOf (putL name hsh (.str name tk) v les) (putN name les n)) → Heap.SameBut dx s.heap h' → R (.ok (.ret .none)) { s with heap := h', toks := t }) :
    codeAny (model prog w) A (.call (.builtin "object.__setattr__") ⟨[.ref x, .str name tk, v], []⟩) R s := by
  refine osa_open X I hp ht fun b => ?_
  obtain ⟨cd, hc, hd'⟩ := any_some hh
  obtain ⟨hx, hcl, hn, hdx⟩ := I
  have D : s.heap.get? dx = some (dictOf les n) := hdx
  have e := putName_dict name (PyData.keyHash w.params name) (.str name s.toks) v les n
  have D' : (s.heap.update dx (Obj.putName name (PyData.keyHash w.params name) (.str name s.toks) v)).get? dx = some (dictOf (putL name (PyData.keyHash w.params name) (.str name s.toks) v les) (putN name les n)) := e ▸ Heap.get?_update_self _ D (by rw [e]; rfl)
  refine wpAny_bind (wpAny_pure (wpAny_bind (wpAny_bind (wpAny_loadPart hx (wpAny_bind ((looks_clsIn X hc).here ?_))))))
  rw [hd']
  refine wpAny_pure (a := some dx) (wpAny_bind (wpAny_pure (wpAny_bind ?_)))
  unfold nsSet
  refine wpAny_bind (wpAny_bind (wpAny_askSetting (wpAny_pure (wpAny_bind (wpAny_mkText (wpAny_bind (wpAny_loadPart D ?_)))))))
  dsimp only
  rw [aRefKeyMayBeTheName_at]
  have hno : (!(les.toArray).any (·.key.isStr name) && (les.toArray).any (·.refKey)) = false := by
    rw [← Array.any_toList (p := DictEntry.refKey)]
    simp only [hr, Bool.and_false]
  rw [hno]
  refine wpAny_updatePart D ?_
  refine wpAny_bind (wpAny_lookBehind D' (pastItsLine_dict (by
    have := putL_length name (PyData.keyHash w.params name) (.str name s.toks) v les
    rw [List.size_toArray, sizeLine_eq]; lia)) ?_)
  exact wpAny_pure (h _ _ _ _ D' (Heap.SameBut.update ..))
noncomputable def wSetAttr (name : Str) (ok : Addr → Prop) (W : WE) : WA := fun d σ Q => W σ fun a σ1 => ∃ C x dd es, InstIn σ1.mu a C x dd es ∧ ok C ∧ es.length ≤ 900 ∧ Q { σ1 with mu := upd σ1.mu dd (.attrs (aset es name d)) }
theorem JA.attr {o : Expr} {name : Str} {pos : Pos} {W : WE} (ho : JE c k sc o W) : JA c k sc (.Attribute o name pos) (wSetAttr name (SetOk c · name) W) := fun f A σ Q s v d e1 fo rm X r h => by
  rw [assign_Attribute]
  refine wpAny_bind (wpAny_holding (wpAny_mono (ho f A σ _ s e1 fo rm X h) ?_ fun _ _ e => e))
  rintro ov s₁ ⟨a, σ1, r1, X1, ev, C, x, dd, es, I, ok, hz, q⟩
  have r' := r.mono (ev.keep X.fr)
  have hdd := I.attrs
  obtain ⟨rfl, les, n, IA, AR⟩ := I.at X1.s0 r1
  refine wpAny_bind (wpAny_standAt ?_)
  refine wpAny_bind (wpAny_holding (set_plain (c.X.keeps X1.s0.base) IA ok.set (osa_raw (s := { s₁ with toks := s₁.toks + 1 }) (c.X.keeps X1.s0.base) IA ok.over ok.taker ok.dict AR.noRef (by rw [AR.length]; exact hz) fun h' t hsh tk hg hs => ?_)))
  refine wpAny_release ?_
  have nf : ¬ fixed (some (MObj.attrs es)) := id
  have ev2 : Evo0 s₁.heap σ1.mu h' (upd σ1.mu dd (.attrs (aset es name d))) := evo_set _ hdd nf hs.extBut
  exact ⟨{ σ1 with mu := upd σ1.mu dd (.attrs (aset es name d)) }, ⟨X1.s0.set hdd nf hs.extBut ⟨_, _, hg, (AR.mono ev2.keep).put name hsh tk (r'.mono ev2.keep)⟩, X1.fr.evo (s' := { s₁ with heap := h', toks := t }) ev2⟩, ev.comp ev2.toF, q⟩
noncomputable def wMake (C : Addr) (P : List MV → W0) : List MV → W0 := fun ds μ Q => ∀ x dd, μ x = none → μ dd = none → x ≠ dd → P (.ref x :: ds) (upd (upd μ dd (.attrs [])) x (.inst C dd)) fun r μ' => r = .none ∧ Q (.ref x) μ'
theorem weight_make (C : Addr) (vs : List Value) : (Code.builtin "type.__call__" ⟨.ref C :: vs, []⟩).weight = 1 := by rfl
theorem units_make (C : Addr) (vs : List Value) : (Code.builtin "type.__call__" ⟨.ref C :: vs, []⟩).cUnits ≤ 10 := by
  have e : (Code.builtin "type.__call__" ⟨.ref C :: vs, []⟩).cUnits = 1 := rfl
  rw [e]; decide
theorem OpN.make {C fI : Addr} {j : Nat} {P : List MV → W0} (hm : makesIn c.K C = true) (hi : findIn c.K (.ref C) "__init__" = some (some (.ref fI))) (hf : typeIn c.K (.ref fI) = some (.type "function")) (h : CodeN c j (.ref fI) P) :
    OpN c (j + 1) (fun vs => call (.ref C) vs) (wMake C P) := fun A s μ vs ds Q rm X r hq => by
  obtain ⟨hh, g, d, t, os⟩ := s
  have XK : c.K.In hh := c.X.keeps X.base
  refine wpAny_call (make_core (makes_of XK hm) (looks_findIn XK hi) (fun self => bind_fn XK self hf) (.inl rfl) ?_)
  have k1 : ∀ b o, hh.get? b = some o → (hh.push emptyDict).get? b = some o := fun b o e => Heap.get?_push_of_some _ e
  have k2 : ∀ b o, (hh.push emptyDict).get? b = some o → ((hh.push emptyDict).push (instObj C hh.objs.size)).get? b = some o := fun b o e => Heap.get?_push_of_some _ e
  have sz : (hh.push emptyDict).objs.size = hh.objs.size + 1 := Heap.size_push ..
  have f1 : μ hh.objs.size = none := X.fresh (Nat.le_refl _)
  have ev1 : Evo0 hh μ (hh.push emptyDict) (upd μ hh.objs.size (.attrs [])) := keep_new _ (Heap.get?_none_of_le (Nat.le_refl _)) k1
  have X1 : S0 c (upd μ hh.objs.size (.attrs [])) ⟨hh.push emptyDict, g, d, t, os⟩ := X.new (t := t) (Nat.le_refl _) k1 ⟨[], 0, Heap.get?_push_size (o := emptyDict) _ rfl, .nil⟩
  have f2 : upd μ hh.objs.size (.attrs []) (hh.objs.size + 1) = none := by rw [← sz]; exact X1.fresh (Nat.le_refl _)
  have ev2 : Evo0 (hh.push emptyDict) (upd μ hh.objs.size (.attrs [])) ((hh.push emptyDict).push (instObj C hh.objs.size)) (upd (upd μ hh.objs.size (.attrs [])) (hh.objs.size + 1) (.inst C hh.objs.size)) :=
    keep_new _ (by rw [← sz]; exact Heap.get?_none_of_le (Nat.le_refl _)) k2
  have X2 : S0 c (upd (upd μ hh.objs.size (.attrs [])) (hh.objs.size + 1) (.inst C hh.objs.size)) ⟨(hh.push emptyDict).push (instObj C hh.objs.size), g, d, t, os⟩ := X1.new (t := t) (Nat.le_of_eq sz) k2 (by
    show ((hh.push emptyDict).push (instObj C hh.objs.size)).get? (hh.objs.size + 1) = some (instObj C hh.objs.size)
    rw [← sz]; exact Heap.get?_push_size (o := instObj C hh.objs.size) _ rfl)
  have f3 : μ (hh.objs.size + 1) = none := by
    rw [← f2, upd_ne _ _ (Nat.ne_of_gt (Nat.lt_succ_self _))]
  have rm' : Room (A.under (.builtin "type.__call__" ⟨.ref C :: vs, []⟩)) j := ⟨rm.hand, by
      have := rm.depth; show A.depth + (Code.builtin "type.__call__" ⟨.ref C :: vs, []⟩).weight + 4 * j ≤ 900; rw [weight_make]; lia, by
      have := rm.units; have h2 := units_make C vs; show A.units + (Code.builtin "type.__call__" ⟨.ref C :: vs, []⟩).cUnits + 100 * j ≤ 9000; lia⟩
  refine codeAny_mono (h _ _ _ _ _ _ rm' X2 (.cons (.ref _) (r.mono (ev1.trans ev2).keep)) (hq (hh.objs.size + 1) hh.objs.size f3 f1 (Nat.ne_of_gt (Nat.lt_succ_self _)))) fun rr s' z => ?_
  rcases rr with e | (v | _ | _ | _) <;> first | exact z.elim | skip
  obtain ⟨d', μ', rv, X', ev', rfl, q⟩ := z
  cases rv
  exact ⟨rfl, .ref (hh.objs.size + 1), μ', .ref _, X', (ev1.trans ev2).trans ev', q⟩
noncomputable abbrev MethEq (o : Expr) (name : Str) (apos pos : Pos) (args : List Expr) : Prop := ∀ env, ∃ pl : Sem Bool, eval (.Call (.Attribute o name apos) args [] pos) env = (do
      let ov ← eval o env
      standAt apos.atName
      let (f, first) ← holding [ov] (getMethod ov name pl)
      callWith pos f first (backTo pos (starEach args env)) [])
structure MethOk (c : Cx prog w) (C : Addr) (name : Str) (f : Addr) : Prop where
  plain : plainGet c.K C name = true
  find : findIn c.K (.ref C) name = some (some (.ref f))
  fn : typeIn c.K (.ref f) = some (.type "function")
  keep : keepIn c.K (.ref f) = true
noncomputable def wMeth (name : Str) (ok : Addr → Prop) (P : List MV → W0) (Wo : WE) (Ws : List WE) : WE := fun σ Q => Wo σ fun a σ1 => ∃ C x dd es, InstIn σ1.mu a C x dd es ∧ ok C ∧ es.lookup name = none ∧ wArgs Ws σ1 fun ds σ2 => P (.ref x :: ds) σ2.mu fun d μ' => Q d { σ2 with mu := μ' }
theorem JE.meth {o : Expr} {name : Str} {apos pos : Pos} {args : List Expr} {f : Addr} {P : List MV → W0} {Wo : WE} {Ws : List WE} (ho : JE c k sc o Wo) (ha : JEs c k sc args Ws) (hop : OpN c k (fun vs => PySem.call (.ref f) vs) P) (he : MethEq o name apos pos args) :
    JE c k sc (.Call (.Attribute o name apos) args [] pos) (wMeth name (MethOk c · name f) P Wo Ws) := fun fm A σ Q s e1 fo rm X h => by
  obtain ⟨pl, he⟩ := he fm.env
  refine MethodCall_ (pl := pl) (wpAny_mono (ho fm A σ _ s e1 fo rm X h) ?_ fun _ _ e => e) he
  rintro v s₁ ⟨a, σ1, r, X1, ev, C, x, dd, es, I, ok, hl, q⟩
  obtain ⟨rfl, les, n, IA, AR⟩ := I.at X1.s0 r
  have hx := I.val
  subst hx
  refine method_fn (c.X.keeps X1.s0.base) IA (plainGet_of ok.plain).1 (plainGet_of ok.plain).2 ok.find ok.fn (by show (lookIn name (dictOf les n)).map _ = _; rw [lookIn_dict, AR.find.2 hl]; rfl) ?_
  refine callWith_of (P := fun h => ∀ b o, c.B.get? b = some o → h.get? b = some o) (by rw [ha.plain pos fm.env]; rfl) (fun h hb => by
    refine el1_2 (looks_keep (M := model prog w) ok.keep (c.X.keeps hb)) fun k p q => ?_
    exact ⟨k, p.elim .inl fun e => .inr (.inl e), q⟩) ?_
  refine wpAny_mono (ha.args pos (.ref f) fm A σ1 _ s₁ e1 fo rm X1 q) ?_ fun _ _ e => e
  rintro ⟨vs, kw⟩ s₂ ⟨⟨ds, σ2, r2, X2, ev2, q2⟩, rfl⟩
  exact ⟨X2.s0.base, OKF.from (ev.comp ev2) (lift0 X2 (hop A s₂ σ2.mu (Value.ref x :: vs) (MV.ref x :: ds) _ rm X2.s0 (.cons (Rep.ref x) r2) q2))⟩
end
end Mine
namespace Mine
open Classical
section
variable {prog : Program} {w : World} {c : Cx prog w} {k : Nat} {sc : List (Str × NameKind)}
theorem P0.tup {μ : MHeap} {s : Shared} {Q : MV → MHeap → Prop} {h' : Heap} {t : Nat} {vs : List Value} {ds : List MV} (x : S0 c μ s) (hk : ∀ b o, s.heap.get? b = some o → h'.get? b = some o) (r : RepAll s.heap μ vs ds) (q : Q (.tup ds) μ) :
    P0 c s μ Q (.ref h'.objs.size) { s with heap := h'.push { cls := .type "tuple", data := .seq vs.toArray }, toks := t } := by
  have x1 : S0 c μ { s with heap := h', toks := t } := x.keeps hk
  have hk2 : ∀ b o, s.heap.get? b = some o → (h'.push { cls := .type "tuple", data := .seq vs.toArray }).get? b = some o := fun b o e => Heap.get?_push_of_some _ (hk b o e)
  exact ⟨.tup ds, μ, .tup (x1.fresh (Nat.le_refl _)) (Heap.get?_push_size (o := tupObj vs) _ rfl) (r.mono (Evo0.of_keeps hk2).keep), x.keeps hk2, Evo0.of_keeps hk2, q⟩
theorem P0.flist {μ : MHeap} {s : Shared} {Q : MV → MHeap → Prop} {h' : Heap} {t n : Nat} {a : Addr} {vs : List Value} {ds : List MV} (x : S0 c μ s) (hk : ∀ b o, s.heap.get? b = some o → h'.get? b = some o) (ha : s.heap.objs.size ≤ a) (ho : h'.get? a = some (seqObj "list" vs.toArray n)) (r : RepAll h' μ vs ds) (q : Q (.flist ds) μ) :
    P0 c s μ Q (.ref a) { s with heap := h', toks := t } :=
  ⟨.flist ds, μ, .flist (x.fresh ha) ho r, x.keeps hk, Evo0.of_keeps hk, q⟩
noncomputable def pLen : List MV → W0 := fun ds μ Q => ∃ d l, ds = [d] ∧ seqOf μ d = some l ∧ l.length ≤ 1000000 ∧ Q (.int l.length) μ
theorem op_len {j : Nat} : OpN c j (fun vs => call (.builtin "len") vs) pLen := by
  intro A s μ vs ds Q rm x r hz1
  refine el2_4 hz1 fun d l eqz2 hl hz h => ?_
  subst eqz2
  cases r with | cons r r' => cases r' with | nil =>
  refine el4_5 (seq_at x r hl) fun a its n T eqz3 hT ho rs _ => ?_
  subst eqz3
  have e : (its.toArray.size : Int) = (l.length : Int) := by rw [List.size_toArray, rs.length]
  have fin : ∀ t, P0 c s μ Q (.int (its.toArray.size : Int) t) { s with toks := s.toks + 1 + 1 } := fun t => ⟨.int l.length, μ, by rw [e]; exact .int _ _, x.tok _, Evo0.refl _ _, h⟩
  rcases hT with ⟨rfl, rfl⟩ | rfl
  · exact PyProof.Rows.len_tuple (items := its.toArray) ⟨_, ho, rfl, 0, rfl⟩ (by lia) (fin _)
  · exact call_len_list ⟨_, ho, rfl, n, rfl⟩ (by lia) (fin _)
noncomputable def pAbs : List MV → W0 := fun ds μ Q => ∃ i, ds = [.int i] ∧ Q (.int (if i < 0 then -i else i)) μ
theorem op_abs {j : Nat} : OpN c j (fun vs => call (.builtin "abs") vs) pAbs := by
  intro A s μ vs ds Q rm x r hz4
  refine el1_2 hz4 fun i eqz5 h => ?_
  subst eqz5
  cases r with | cons r r' => cases r' with | nil =>
  obtain ⟨t, rfl⟩ := r.isInt
  exact call_abs_int fun u tk => ok0_int x h u tk
noncomputable def pInt : List MV → W0 := fun ds μ Q => ∃ i, ds = [.int i] ∧ Q (.int i) μ
theorem op_int {j : Nat} : OpN c j (fun vs => call (.type "int") vs) pInt := by
  intro A s μ vs ds Q rm x r hz6
  refine el1_2 hz6 fun i eqz7 h => ?_
  subst eqz7
  cases r with | cons r r' => cases r' with | nil =>
  obtain ⟨t, rfl⟩ := r.isInt
  exact call_int_int (P0.here x (.int _ _) h)
noncomputable def notTup : MV → Prop
  | .tup _ => False
  | _ => True
noncomputable def pTuple : List MV → W0 := fun ds μ Q => ∃ d l, ds = [d] ∧ seqOf μ d = some l ∧ notTup d ∧ l.length ≤ 1000000 ∧ Q (.tup l) μ
theorem op_tuple {j : Nat} : OpN c j (fun vs => call (.type "tuple") vs) pTuple := by
  intro A s μ vs ds Q rm x r hz8
  refine el2_5 hz8 fun d l eqz9 hl hn hz h => ?_
  subst eqz9
  cases r with | cons r r' => cases r' with | nil =>
  refine el4_5 (seq_at x r hl) fun a its n T eqz10 hT ho rs ht => ?_
  subst eqz10
  rcases hT with ⟨rfl, rfl⟩ | rfl
  · rw [ht rfl] at hn; exact hn.elim
  · exact call_tuple_list (items := its.toArray) ⟨_, ho, rfl, n, rfl⟩ (fun h' hk => P0.tup x hk rs h) (by rw [List.size_toArray, rs.length, sizeLine_eq]; lia)
noncomputable def pList : List MV → W0 := fun ds μ Q => ∃ d l, ds = [d] ∧ seqOf μ d = some l ∧ l.length ≤ 1000000 ∧ Q (.flist l) μ
theorem op_list {j : Nat} : OpN c j (fun vs => call (.type "list") vs) pList := by
  intro A s μ vs ds Q rm x r hz11
  refine el2_4 hz11 fun d l eqz12 hl hz h => ?_
  subst eqz12
  cases r with | cons r r' => cases r' with | nil =>
  refine el4_5 (seq_at x r hl) fun a its n T eqz13 hT ho rs ht => ?_
  subst eqz13
  have hT' : T = "list" ∨ T = "tuple" := hT.symm.imp id fun q => q.1
  exact call_list_seq (items := its.toArray) a hT' ho rfl rfl (fun h' c' hk hg => P0.flist x hk (Nat.le_refl _) hg (rs.mono (Evo0.of_keeps hk).keep) h) (by rw [List.size_toArray, rs.length, sizeLine_eq]; lia)
noncomputable def pListKeys : List MV → W0 := fun ds μ Q => ∃ r es, ds = [.ref r] ∧ μ r = some (.idict es) ∧ es.length ≤ 1000000 ∧ Q (.flist (es.map fun e => .int e.1)) μ
theorem keysRepAll {h : Heap} {μ : MHeap} {kvs : List (Int × Value)} {es : List (Int × MV)} (hp : kvs.map (·.1) = es.map (·.1)) {vs : List Value} (hl : vs.length = kvs.length) (hv : ∀ (i : Nat) v, vs[i]? = some v → ∃ k x, kvs[i]? = some (k, x) ∧ Value.isInt k v = true) : RepAll h μ vs (es.map fun e => .int e.1) := by
  induction vs generalizing kvs es with
  | nil =>
    cases kvs with
    | nil => cases es with
      | nil => exact .nil
      | cons _ _ => simp at hp
    | cons _ _ => simp at hl
  | cons v vs ih =>
    cases kvs with
    | nil => simp at hl
    | cons kv kvs =>
      cases es with
      | nil => simp at hp
      | cons e es =>
        simp only [List.map_cons, List.cons.injEq] at hp
        refine el2_2 (hv 0 v rfl) fun k x hk hi => ?_
        simp at hk
        subst hk
        obtain ⟨t, rfl⟩ := Value.isInt_shape hi
        refine .cons (by show Rep h μ (.int k t) (.int e.1); rw [← hp.1]; exact .int _ _) (ih hp.2 (by simpa using hl) fun i v e' => ?_)
        refine el2_2 (hv (i + 1) v (by simpa using e')) fun k' x' hk' hi' => ?_
        exact ⟨k', x', by simpa using hk', hi'⟩
theorem op_listKeys {j : Nat} : OpN c j (fun vs => call (.type "list") vs) pListKeys := by
  intro A s μ vs ds Q rm x r hz14
  refine el2_4 hz14 fun q es eqz15 hm hz h => ?_
  subst eqz15
  cases r with | cons r r' => cases r' with | nil =>
  obtain rfl := r.isRef
  refine el1_2 (x.mu q _ hm) fun kvs inz16 hP => ?_
  refine el3_2 inz16 fun o es' ep ho rD => ?_
  have hD : s.heap.DictAt (intKind prog w) q kvs ep := ⟨o, es', ho, rD⟩
  refine kdl_call (kdl_dict (knd := intKind prog w) (kvs := kvs) (ep := ep) (x.notSys hm)) rm.hand hD (by rw [hP.length, sizeLine_eq]; lia) fun h' tk acc' c' hk hg hacc => ?_
  have hg' : h'.get? s.heap.objs.size = some (seqObj "list" acc'.toList.toArray c') := by rw [hg]
  refine P0.flist x hk (Nat.le_refl _) hg' (keysRepAll (kvs := kvs) hP.keys (by rw [Array.length_toList]; exact hacc.1) fun i v e => ?_) h
  obtain ⟨k, y, e1, e2⟩ := hacc.2 i v (by rw [← Array.getElem?_toList]; exact e)
  exact ⟨k, y, e1, e2⟩
theorem RepAll.ints {h : Heap} {μ : MHeap} {vs : List Value} {is : List Int} (r : RepAll h μ vs (is.map MV.int)) : ∃ xs : Array (Int × Tok), vs.toArray = intItems xs ∧ xs.toList.map (·.1) = is := by
  induction is generalizing vs with
  | nil => cases r; exact ⟨#[], by simp [intItems], rfl⟩
  | cons i is ih =>
    cases r with | cons r rs =>
    obtain ⟨t, rfl⟩ := r.isInt
    refine el1_2 (ih rs) fun xs e1 e2 => ?_
    refine ⟨#[(i, t)] ++ xs, ?_, by simp [e2]⟩
    have h2 := congrArg Array.toList e1
    simp only [intItems, Array.toList_map] at h2
    apply Array.toList_inj.mp
    simp only [intItems, Array.toList_map, Array.toList_append, List.map_append]
    rw [← h2]; rfl
theorem argBest_max (f : Nat → Int) : ∀ n, argBest (fun i j => decide (f i > f j)) n ≤ n ∧ ∀ j ≤ n, f j ≤ f (argBest (fun i j => decide (f i > f j)) n)
  | 0 => ⟨Nat.le_refl _, fun j hj => by
    have : j = 0 := by lia
    subst this; exact Int.le_refl _⟩
  | n + 1 => by
    obtain ⟨h1, h2⟩ := argBest_max f n
    unfold argBest
    split
    · rename_i q
      refine ⟨Nat.le_refl _, fun j hj => ?_⟩
      have q' := of_decide_eq_true q
      rcases Nat.lt_or_ge j (n + 1) with hlt | hge
      · have := h2 j (by lia); lia
      · obtain rfl : j = n + 1 := by lia
        exact Int.le_refl _
    · rename_i q
      refine ⟨by lia, fun j hj => ?_⟩
      have q' : ¬ f (n + 1) > f (argBest (fun i j => decide (f i > f j)) n) := by simpa using q
      rcases Nat.lt_or_ge j (n + 1) with hlt | hge
      · exact h2 j (by lia)
      · obtain rfl : j = n + 1 := by lia
        lia
noncomputable def pMax : List MV → W0 := fun ds μ Q => ∃ d is, ds = [d] ∧ seqOf μ d = some (is.map MV.int) ∧ notTup d ∧ is ≠ [] ∧ ∀ m, m ∈ is → (∀ i ∈ is, i ≤ m) → Q (.int m) μ
theorem op_max {j : Nat} : OpN c j (fun vs => call (.builtin "max") vs) pMax := by
  intro A s μ vs ds Q rm x r hz17
  refine el2_5 hz17 fun d is eqz18 hl hn hne h => ?_
  subst eqz18
  cases r with | cons r r' => cases r' with | nil =>
  refine el4_5 (seq_at x r hl) fun a its n T eqz19 hT ho rs ht => ?_
  subst eqz19
  rcases hT with ⟨rfl, rfl⟩ | rfl
  · rw [ht rfl] at hn; exact hn.elim
  · refine el1_2 (rs.ints) fun xs e1 e2 => ?_
    have hsz : xs.size = is.length := by rw [← e2]; simp
    have hpos : 0 < xs.size := by rw [hsz]; exact List.length_pos_iff.mpr hne
    have num : ∀ i, i < xs.size → is[i]? = some (numAt xs i) := fun i hi => by
      rw [← e2, List.getElem?_map]
      simp [numAt, hi]
    refine max_intList rm.hand (xs := xs) ⟨_, ho, rfl, n, by rw [← e1]⟩ hpos fun v h' tk hv hk => ?_
    obtain ⟨b1, b2⟩ := argBest_max (numAt xs) (xs.size - 1)
    obtain ⟨t, rfl⟩ := intItems_at hv
    refine ⟨.int _, μ, .int _ _, x.keeps hk, Evo0.of_keeps hk, h _ ?_ fun i hi => ?_⟩
    · exact List.mem_of_getElem? (num _ (by lia))
    · obtain ⟨m, hm, e⟩ := List.mem_iff_getElem.mp hi
      have := num m (by lia)
      rw [List.getElem?_eq_getElem hm, e] at this
      rw [Option.some.inj this]
      exact b2 m (by lia)
end
end Mine
namespace Mine
open Classical
section
variable {prog : Program} {w : World} {c : Cx prog w} {k : Nat} {sc : List (Str × NameKind)}
noncomputable def RecvIs (T : String) (μ : MHeap) : MV → Prop := fun a => if T = "list" then ∃ r l, a = .ref r ∧ μ r = some (.list l) else ∃ r, a = .ref r ∧ ((∃ es, μ r = some (.idict es)) ∨ ∃ es, μ r = some (.tdict es))
theorem RecvIs.at {T : String} {μ : MHeap} {s : Shared} {v : Value} {a : MV} (hT : T = "list" ∨ T = "dict") (x : S0 c μ s) (r : Rep s.heap μ v a) (h : RecvIs T μ a) : ∃ q, v = .ref q ∧ s.TypeIs v T ∧ ∃ o, s.heap.get? q = some o ∧ o.dict = none := by
  rcases hT with rfl | rfl
  · refine el2_2 h fun q l eqz1 hm => ?_
    subst eqz1
    obtain rfl := r.isRef
    refine el2_2 (x.mu q _ hm) fun its n ho _ => ?_
    exact ⟨q, rfl, ⟨_, ho, rfl⟩, _, ho, rfl⟩
  · obtain ⟨q, rfl, h⟩ := h
    obtain rfl := r.isRef
    rcases h with ⟨es, hm⟩ | ⟨es, hm⟩
    · obtain ⟨kvs, hD, _⟩ := x.mu q _ hm
      obtain ⟨o, es', ep, ho, hex, _⟩ := id hD
      exact ⟨q, rfl, hD.typeIs, o, ho, hex.2.1⟩
    · obtain ⟨o, tes, ep, xs, ho, hex, _⟩ := x.mu q _ hm
      exact ⟨q, rfl, ⟨o, ho, hex.1⟩, o, ho, hex.2.1⟩
noncomputable def wBMeth (T : String) (P : List MV → W0) (Wo : WE) (Ws : List WE) : WE := fun σ Q => Wo σ fun a σ1 => RecvIs T σ1.mu a ∧ wArgs Ws σ1 fun ds σ2 => P (a :: ds) σ2.mu fun d μ' => Q d { σ2 with mu := μ' }
theorem JE.bmeth {T : String} {id : String} {o : Expr} {name : Str} {apos pos : Pos} {args : List Expr} {P : List MV → W0} {Wo : WE} {Ws : List WE} (hT : T = "list" ∨ T = "dict") (pa : PlainAttrs T) (slot : Slot T name id) (hty : typeOf (.builtin id) = pure (.type "method_descriptor"))
    (ho : JE c k sc o Wo) (ha : JEs c k sc args Ws) (hop : OpN c k (fun vs => PySem.call (.builtin id) vs) P) (he : MethEq o name apos pos args) :
    JE c k sc (.Call (.Attribute o name apos) args [] pos) (wBMeth T P Wo Ws) := fun fm A σ Q s e1 fo rm X h => by
  obtain ⟨pl, he⟩ := he fm.env
  refine MethodCall_ (pl := pl) (wpAny_mono (ho fm A σ _ s e1 fo rm X h) ?_ fun _ _ e => e) he
  intro v s₁ hz3
  refine el2_5 hz3 fun a σ1 r X1 ev hr q => ?_
  obtain ⟨q', rfl, hTy, o', ho', hd'⟩ := RecvIs.at hT X1.s0 r hr
  refine getMethod_builtin hTy pa slot hty (fun b e => by cases e; exact ⟨o', ho', hd'⟩) ?_
  refine callWith_of (P := fun h => ∀ b o, c.B.get? b = some o → h.get? b = some o) (by rw [ha.plain pos fm.env]; rfl) (fun h hb => ⟨.machine, .inr (.inl rfl), Looks.of_pure rfl⟩) ?_
  refine wpAny_mono (ha.args pos (.builtin id) fm A σ1 _ s₁ e1 fo rm X1 q) ?_ fun _ _ e => e
  rintro ⟨vs, kw⟩ s₂ ⟨⟨ds, σ2, r2, X2, ev2, q2⟩, rfl⟩
  exact ⟨X2.s0.base, OKF.from (ev.comp ev2) (lift0 X2 (hop A s₂ σ2.mu (Value.ref q' :: vs) (a :: ds) _ rm X2.s0 (.cons (r.mono (EvoF.keep X1.fr ev2)) r2) q2))⟩
noncomputable def pAppend : List MV → W0 := fun ds μ Q => ∃ r l d, ds = [.ref r, d] ∧ μ r = some (.list l) ∧ l.length ≤ 1000000 ∧ Q .none (upd μ r (.list (l ++ [d])))
theorem op_append {j : Nat} : OpN c j (fun vs => call (.builtin "list.append") vs) pAppend := by
  intro A s μ vs ds Q rm x r hz5
  refine el3_4 hz5 fun q l d eqz6 hm hz h => ?_
  subst eqz6
  cases r with | cons r1 r' => cases r' with | cons r2 r' => cases r' with | nil =>
  obtain rfl := r1.isRef
  refine el2_2 (x.mu q _ hm) fun its n ho rs => ?_
  refine wpAny_list_append_plain (items := its.toArray) ⟨n, ho⟩ (fun h' hl' hs => ?_) (by rw [List.size_toArray, rs.length, sizeLine_eq]; lia)
  have nf : ¬ fixed (some (MObj.list l)) := id
  rename_i v
  have ev : Evo0 s.heap μ h' (upd μ q (.list (l ++ [d]))) := evo_set _ hm nf hs.extBut
  obtain ⟨n', e⟩ := hl'
  refine ⟨.none, _, .none, x.set (t := s.toks) (mo' := .list (l ++ [d])) hm nf hs.extBut ⟨its ++ [v], n', ?_, (rs.mono ev.keep).append (.cons (r2.mono ev.keep) .nil)⟩, ev, h⟩
  rw [e]; simp [seqObj]
noncomputable def pGet : List MV → W0 := fun ds μ Q => (∃ r es i e, ds = [.ref r, .int i, e] ∧ μ r = some (.idict es) ∧ Q ((dget es i).getD e) μ) ∨ ∃ r es ks e, ds = [.ref r, .tup ks, e] ∧ μ r = some (.tdict es) ∧ keys 5 ks = true ∧ Q ((dget es ks).getD e) μ
theorem op_get {j : Nat} : OpN c j (fun vs => call (.builtin "dict.get") vs) pGet := by
  rintro A s μ vs ds Q rm x r (⟨q, es, i, e, rfl, hm, h⟩ | ⟨q, es, ks, e, rfl, hm, hk, h⟩)
  · cases r with | cons r1 r' => cases r' with | cons r2 r' => cases r' with | cons r3 r' => cases r' with | nil =>
    obtain rfl := r1.isRef
    obtain ⟨t, rfl⟩ := r2.isInt
    rename_i v
    refine el1_2 (x.mu q _ hm) fun kvs hD hP => ?_
    refine call_meetsIn PySem.F.slot_dict_get hD.typeIs PySem.F.entry_dict_get (PySem.F.args_dict_get_3 _ _ _) (meets_dict_get_default (intKind prog w) q (intKind_is prog w i t) (x.notSys hm) v) ⟨_, hD.mapOf, ?_⟩
    cases hd : dget es i with
    | some d =>
      refine el1_2 (hP.get hd) fun u hu ru => ?_
      rw [hd] at h
      exact ⟨d, μ, by rw [hu]; exact ru, x.tok _, Evo0.refl _ _, h⟩
    | none =>
      rw [hd] at h
      exact ⟨e, μ, by rw [hP.getNone hd]; exact r3, x.tok _, Evo0.refl _ _, h⟩
  · cases r with | cons r1 r' => cases r' with | cons r2 r' => cases r' with | @cons v3 _ _ _ r3 r' => cases r' with | nil =>
    obtain rfl := r1.isRef
    have hkey := r2.key (n := 6) (by simpa [MV.key] using hk)
    refine el2_4 (r2.isTup) fun p vs eqz7 _ _ _ => ?_
    subst eqz7
    refine el1_3 (x.dictH hm) fun xs hD hK _ => ?_
    have hu : (mvKind prog w).room A.in1 := by have := rm.units; show A.units + 1 + 10 < 9900; lia
    refine call_meetsIn PySem.F.slot_dict_get hD.typeIs PySem.F.entry_dict_get (PySem.F.args_dict_get_3 _ _ _) (meetsH_dict_get_default (mvKind prog w) q p (x.notSys hm) v3) ⟨hu, ks, xs, hkey, hD, ?_⟩
    cases hd : dget es ks with
    | some d =>
      refine el1_2 (hK.get hd) fun u hu ru => ?_
      rw [hd] at h
      exact ⟨d, μ, by rw [hu]; exact ru, x.tok _, Evo0.refl _ _, h⟩
    | none =>
      rw [hd] at h
      exact ⟨e, μ, by rw [hK.getNone hd]; exact r3, x.tok _, Evo0.refl _ _, h⟩
noncomputable def pIndex : List MV → W0 := fun ds μ Q => ∃ r l d i, ds = [.ref r, d] ∧ μ r = some (.list l) ∧ plains l = true ∧ d.plain = true ∧ d.dep ≤ 50 ∧ l.length ≤ 1000000 ∧ l[i]? = some d ∧ (∀ j < i, l[j]? ≠ some d) ∧ Q (.int (i : Nat)) μ
theorem op_index {j : Nat} : OpN c j (fun vs => call (.builtin "list.index") vs) pIndex := by
  intro A s μ vs ds Q rm x r hz8
  refine el4_9 hz8 fun q l d i eqz9 hm hl hd hdep hz hi hno h => ?_
  subst eqz9
  cases r with | cons r1 r' => cases r' with | cons r2 r' => cases r' with | nil =>
  obtain rfl := r1.isRef
  rename_i v
  refine el2_2 (x.mu q _ hm) fun its n ho rs => ?_
  have hlen := rs.length
  have hil : i < l.length := (List.getElem?_eq_some_iff.mp hi).1
  have hrep : ∀ m (hm : m < its.length), Rep s.heap μ its[m] (l[m]'(by lia)) := fun m hm => by
    refine el1_2 (rs.get (i := m) (d := l[m]'(by lia)) (by simp [hlen ▸ hm])) fun u hu ru => ?_
    rw [List.getElem?_eq_getElem hm] at hu
    cases hu; exact ru
  let e : Value → Bool := fun u => decide (Rep s.heap μ u d)
  have inj : ∀ {u : Value} {a b : MV}, a.plain = true → b.plain = true → Rep s.heap μ u a → Rep s.heap μ u b → a = b := by
    intro u a b pa pb ra rb
    obtain ⟨as, p⟩ := ra.reads pa
    obtain ⟨bs, q⟩ := rb.reads pb
    have hh : PyData.eqv a.py a.py = true := (py_eqv pa pa).mpr rfl
    have h1 := (Reads.unique p _ _ q).1
    exact (py_eqv pa pb).mp (h1 ▸ hh)
  have hlp : ∀ m (hm : m < l.length), (l[m]).plain = true := fun m hm => plains_all.mp hl _ (List.getElem_mem _)
  have eval : ∀ m (hm : m < its.length), e its[m] = decide (l[m]'(by lia) = d) := fun m hm => by
    have := hrep m hm
    show decide (Rep s.heap μ its[m] d) = _
    by_cases q : l[m]'(by lia) = d
    · rw [← q]; simp [this]
    · have : ¬ Rep s.heap μ its[m] d := fun r => q (inj (hlp m (by lia)) hd this r)
      simp [q, this]
  refine call_meets PySem.F.slot_list_index ⟨_, ho, rfl⟩ PySem.F.entry_list_index (PySem.F.args_list_index_2 _ _) (SeqAt.list_indexAt q its.toArray n none #[] v e i (by simpa [hlen] using hil) (by lia) ?_ ?_) ⟨ho, fun y hy => ?_, ?_⟩
  · have := eval i (by lia)
    rw [List.getElem?_eq_getElem hil] at hi
    simp only [List.getElem_toArray]
    rw [this, Option.some.inj hi]; simp
  · intro m hm hmi
    simp only [List.size_toArray] at hm
    simp only [List.getElem_toArray]
    rw [eval m hm]
    have := hno m hmi
    rw [List.getElem?_eq_getElem (by lia)] at this
    simpa using this
  · obtain ⟨m, hm, rfl⟩ := List.mem_iff_getElem.mp (show y ∈ its from by simpa using hy)
    intro prog' w' E Q' hq
    obtain ⟨as, p⟩ := (hrep m hm).reads (hlp m (by lia))
    obtain ⟨bs, p2⟩ := r2.reads hd
    refine SeqAt.eqBoolOverData prog' w' A.in1 E s _ _ _ _ as bs Q' p p2 (py_lay (hlp m (by lia))) (py_lay hd) ?_ ?_
    · have := room_units (rm.le (Nat.zero_le _))
      rw [py_depth, py_depth]
      show A.units + 1 + _ < cLine
      lia
    · rw [py_eqv_decide (hlp m (by lia)) hd]
      have := eval m hm
      rw [this] at hq
      exact hq
  · exact ⟨_, μ, .int _ _, x.tok _, Evo0.refl _ _, h⟩
end
end Mine
namespace Mine
open Classical
section
variable {prog : Program} {w : World} {c : Cx prog w} {k : Nat} {sc : List (Str × NameKind)}
noncomputable abbrev WSet := MV → MV → MV → MHeap → (MHeap → Prop) → Prop
noncomputable def OpSet (c : Cx prog w) (P : WSet) : Prop := ∀ (A : Around) (s : Shared) (μ : MHeap) (a b v : Value) (da db dv : MV) (Q : MHeap → Prop), Room A 0 → S0 c μ s → Rep s.heap μ a da → Rep s.heap μ b db → Rep s.heap μ v dv → P da db dv μ Q →
  wpAny (model prog w) A (setItem a b v) (fun _ s' => ∃ μ', S0 c μ' s' ∧ Evo0 s.heap μ s'.heap μ' ∧ Q μ') no s
noncomputable def pSetL : WSet := fun a b v μ Q => ∃ r l i, a = .ref r ∧ μ r = some (.list l) ∧ b = .int i ∧ 0 ≤ i ∧ i < l.length ∧ l.length ≤ 1000000 ∧ Q (upd μ r (.list (l.set i.toNat v)))
noncomputable def pSetI : WSet := fun a b v μ Q => ∃ r es i, a = .ref r ∧ μ r = some (.idict es) ∧ b = .int i ∧ es.length ≤ 1000000 ∧ Q (upd μ r (.idict (dset es i v)))
noncomputable def pSetT : WSet := fun a b v μ Q => ∃ r es ks, a = .ref r ∧ μ r = some (.tdict es) ∧ b = .tup ks ∧ keys 5 ks = true ∧ es.length ≤ 1000000 ∧ Q (upd μ r (.tdict (dset es ks v)))
theorem mapSeq_list (f : Array Value → Array Value) (xs : Array Value) (n : Nat) : ∃ n', Obj.mapSeq f (seqObj "list" xs n) = seqObj "list" (f xs) n' := by
  unfold Obj.mapSeq
  exact ⟨_, rfl⟩
theorem op_setL : OpSet c pSetL := by
  intro A s μ va vb vv a b v Q rm x ra rb rv hz1
  refine el3_7 hz1 fun r l i eqz2 hm eqz3 h0 hi hz h => ?_
  subst eqz2
  subst eqz3
  obtain rfl := ra.isRef
  obtain ⟨t, rfl⟩ := rb.isInt
  refine el2_2 (x.mu r _ hm) fun its n ho rs => ?_
  have hlen := rs.length
  refine ki_setAt (items := its.toArray) (n := n) ho h0 (by lia) (by rw [List.size_toArray]; lia) ?_
  have nf : ¬ fixed (some (MObj.list l)) := id
  have hk : ∀ b o, b ≠ r → s.heap.get? b = some o → (s.heap.update r (Obj.mapSeq (·.setIfInBounds i.toNat vv))).get? b = some o := fun b o q e => (Heap.get?_update_other _ _ (Ne.symm q)).trans e
  have ev : Evo0 s.heap μ (s.heap.update r (Obj.mapSeq (·.setIfInBounds i.toNat vv))) (upd μ r (.list (l.set i.toNat v))) := evo_set _ hm nf hk
  have hg := Heap.get?_update_self (Obj.mapSeq (·.setIfInBounds i.toNat vv)) ho rfl
  obtain ⟨n', e⟩ := mapSeq_list (·.setIfInBounds i.toNat vv) its.toArray n
  refine ⟨_, x.set (t := s.toks) (mo' := .list (l.set i.toNat v)) hm nf hk ⟨its.set i.toNat vv, n', ?_, (rs.mono ev.keep).set (rv.mono ev.keep) _⟩, ev, h⟩
  rw [hg, e]
  simp
theorem dset_keys {K : Type} [DecidableEq K] {es : List (K × MV)} {k : K} {v : MV} : (dset es k v).length ≤ es.length + 1 := by
  unfold dset
  split <;> simp
theorem op_setI : OpSet c pSetI := by
  intro A s μ va vb vv a b v Q rm x ra rb rv hz4
  refine el3_5 hz4 fun r es i eqz5 hm eqz6 hz h => ?_
  subst eqz5
  subst eqz6
  obtain rfl := ra.isRef
  obtain ⟨t, rfl⟩ := rb.isInt
  refine el1_2 (x.mu r _ hm) fun kvs hD hP => ?_
  refine wpAny_setItem_pairs (intKind_is prog w i t) hD (fun h' hD' hs => ?_) (by rw [hP.length, sizeLine_eq]; lia)
  have nf : ¬ fixed (some (MObj.idict es)) := id
  have ev : Evo0 s.heap μ h' (upd μ r (.idict (dset es i v))) := evo_set _ hm nf hs.extBut
  exact ⟨_, x.set (mo' := .idict (dset es i v)) hm nf hs.extBut ⟨_, hD', (hP.mono ev.keep).set i (rv.mono ev.keep)⟩, ev, h⟩
theorem op_setT : OpSet c pSetT := by
  intro A s μ va vb vv a b v Q rm x ra rb rv hz7
  refine el3_6 hz7 fun r es ks eqz8 hm eqz9 hk hz h => ?_
  subst eqz8
  subst eqz9
  obtain rfl := ra.isRef
  have hkey := rb.key (n := 6) (by simpa [MV.key] using hk)
  have hrb := rb
  refine el2_4 (rb.isTup) fun p vs eqz10 _ _ _ => ?_
  subst eqz10
  refine el1_3 (x.dictH hm) fun xs hD hK h5 => ?_
  have hu : (mvKind prog w).room A.in1 := by have := rm.units; show A.units + 1 + 10 < 9900; lia
  refine wpAny_setItem_heap (knd := mvKind prog w) hu hkey hD (fun h' hD' hs => ?_) (by rw [hK.length, sizeLine_eq]; lia)
  have nf : ¬ fixed (some (MObj.tdict es)) := id
  have ev : Evo0 s.heap μ h' (upd μ r (.tdict (dset es ks v))) := evo_set _ hm nf hs.extBut
  refine el3_6 (hD') fun o tes ep ho hex hd hes _ hnd => ?_
  exact ⟨_, x.set (mo' := .tdict (dset es ks v)) hm nf hs.extBut ⟨o, tes, ep, _, ho, hex, hd, hes, hnd, (hK.mono ev.keep).set (hrb.mono ev.keep) (rv.mono ev.keep), storedH_keys hk h5⟩, ev, h⟩
noncomputable def wSub (P : WSet) (Wo Wi : WE) : WA := fun d σ Q => Wo σ fun a σ1 => Wi σ1 fun b σ2 => P a b d σ2.mu fun μ' => Q { σ2 with mu := μ' }
theorem JA.sub {o i : Expr} {pos : Pos} {P : WSet} {Wo Wi : WE} (hop : OpSet c P) (ho : JE c k sc o Wo) (hi : JE c k sc i Wi) : JA c k sc (.Subscript o i pos) (wSub P Wo Wi) := fun f A σ Q s v d e1 fo rm X r h => by
  rw [assign_Subscript]
  refine wpAny_bind (wpAny_holding (wpAny_mono (ho f A σ _ s e1 fo rm X h) ?_ fun _ _ e => e))
  intro ov s₁ hz11
  refine el2_4 hz11 fun a σ1 r1 X1 ev1 h1 => ?_
  refine wpAny_bind (wpAny_holding (wpAny_mono (hi f A σ1 _ s₁ e1 fo rm X1 h1) ?_ fun _ _ e => e))
  intro iv s₂ hz12
  refine el2_4 hz12 fun b σ2 r2 X2 ev2 h2 => ?_
  have ev := ev1.comp ev2
  refine wpAny_bind (wpAny_standAt (wpAny_bind (wpAny_holding (wpAny_mono (hop A s₂ σ2.mu ov iv v a b d _ (rm.le (Nat.zero_le _)) X2.s0 (r1.mono (EvoF.keep X1.fr ev2)) r2 (r.mono (EvoF.keep X.fr ev)) h2) ?_ fun _ _ e => e))))
  rintro _ s₃ ⟨μ', X3, ev3, q⟩
  exact wpAny_release ⟨{ σ2 with mu := μ' }, ⟨X3, X2.fr.evo ev3⟩, ev.comp ev3.toF, q⟩
noncomputable def wNew (mo : MObj) : WE := fun σ Q => pNew mo σ.mu fun d μ' => Q d { σ with mu := μ' }
theorem JE.dictI {pos : Pos} : JE c k sc (.Dict [] [] pos) (wNew (.idict [])) := fun f A σ Q s e1 fo rm X h => by
  refine wpAny_Dict_empty ?_
  have hk : ∀ b o, s.heap.get? b = some o → (s.heap.push { cls := .type "dict", data := .dict #[] }).get? b = some o := fun b o e => Heap.get?_push_of_some _ e
  have ev := keep_new (μ := σ.mu) (.idict []) (Heap.get?_none_of_le (Nat.le_refl s.heap.objs.size)) hk
  exact ⟨.ref s.heap.objs.size, _, .ref _, ⟨X.s0.new (t := s.toks) (mo := .idict []) (Nat.le_refl _) hk ⟨[], Heap.DictOf.new s.heap, .nil⟩, X.fr.evo (s' := { s with heap := _ }) ev⟩, ev.toF, h _ (X.s0.fresh (Nat.le_refl _))⟩
theorem JE.dictT {pos : Pos} : JE c k sc (.Dict [] [] pos) (wNew (.tdict [])) := fun f A σ Q s e1 fo rm X h => by
  refine wpAny_Dict_empty ?_
  have hk : ∀ b o, s.heap.get? b = some o → (s.heap.push { cls := .type "dict", data := .dict #[] }).get? b = some o := fun b o e => Heap.get?_push_of_some _ e
  have ev := keep_new (μ := σ.mu) (.tdict []) (Heap.get?_none_of_le (Nat.le_refl s.heap.objs.size)) hk
  exact ⟨.ref s.heap.objs.size, _, .ref _, ⟨X.s0.new (t := s.toks) (mo := .tdict []) (Nat.le_refl _) hk ⟨_, #[], 0, [], Heap.get?_push_size _ rfl, ⟨rfl, rfl, rfl⟩, rfl, rfl, List.nodup_nil, .nil, fun _ m => nomatch m⟩, X.fr.evo (s' := { s with heap := _ }) ev⟩, ev.toF, h _ (X.s0.fresh (Nat.le_refl _))⟩
noncomputable def wDict1 (Wk Wv : WE) : WE := fun σ Q => Wk σ fun a σ1 => Wv σ1 fun b σ2 => ∃ i, a = .int i ∧ pNew (.idict [(i, b)]) σ2.mu fun d μ' => Q d { σ2 with mu := μ' }
theorem JE.dict1 {ke ve : Expr} {pos : Pos} {Wk Wv : WE} (hk : JE c k sc ke Wk) (hv : JE c k sc ve Wv) : JE c k sc (.Dict [some ke] [ve] pos) (wDict1 Wk Wv) := fun f A σ Q s e1 fo rm X h => by
  refine wpAny_Dict_walk (knd := intKind prog w) (by simp) rfl (by simp) (by simp) ?_
  have kp : ∀ b o, s.heap.get? b = some o → (s.heap.push { cls := .type "dict", data := .dict #[] }).get? b = some o := fun b o e => Heap.get?_push_of_some _ e
  have X0 : S c f σ { s with heap := s.heap.push { cls := .type "dict", data := .dict #[] } } := X.grow kp
  have ev0 : EvoF f s.heap σ.mu (s.heap.push { cls := .type "dict", data := .dict #[] }) σ.mu := (Evo0.of_keeps kp).toF
  refine evalPairs_cons (wpAny_mono (hk f A σ _ _ e1 fo rm X0 h) ?_ fun _ _ e => e)
  intro kv s₁ hz14
  refine el2_4 hz14 fun a σ1 r1 X1 ev1 h1 => ?_
  refine wpAny_bind (wpAny_mono (hv f A σ1 _ s₁ e1 fo rm X1 h1) ?_ fun _ _ e => e)
  rintro vv s₂ ⟨b, σ2, r2, X2, ev2, i, rfl, h2⟩
  refine wpAny_bind (wpAny_standAt (wpAny_pure (evalPairs_nil ?_)))
  have ev := ev1.comp ev2
  have r1' := r1.mono (EvoF.keep X1.fr ev2)
  obtain ⟨t, rfl⟩ := r1'.isInt
  have hnew : (s.heap.push { cls := .type "dict", data := .dict #[] }).get? s.heap.objs.size = some { cls := .type "dict", data := .dict #[] } := Heap.get?_push_size _ rfl
  have hm0 : σ.mu s.heap.objs.size = none := X.s0.fresh (Nat.le_refl _)
  have npr : ¬ f.Priv s.heap.objs.size := by
    rintro (q | ⟨y, l, q⟩)
    · refine el1_2 (X.fr.ns) fun m inz17 _ => ?_
      refine el3_2 inz17 fun o es ep e _ => ?_
      have := Heap.lt_size e; rw [← q] at this; exact Nat.lt_irrefl _ this
    · refine el1_2 (X.fr.cell y _ (.inl l) q) fun ov inz18 _ => ?_
      refine el1_2 inz18 fun o e _ => ?_
      exact Nat.lt_irrefl _ (Heap.lt_size e)
  obtain ⟨hg2, hm2⟩ := EvoF.out (f := f) ev hnew hm0 npr
  refine ⟨[(i, vv)], ⟨intKind_is prog w i t, rfl, trivial⟩, ⟨_, #[], 0, hg2, ⟨rfl, rfl, rfl⟩, rfl, ?_⟩, fun h' hD' hs => ?_⟩
  · refine el3_4 ((Heap.DictOf.new (knd := intKind prog w) s.heap)) fun o es ep ho _ hd r => ?_
    rw [hnew] at ho; cases ho; cases hd; exact r
  · have hnq : ∀ o vs n, s₂.heap.get? s.heap.objs.size = some o → o.data ≠ .seq vs n := fun o vs n e q => by rw [hg2] at e; cases e; cases q
    have hks : KeepS s₂.heap σ2.mu h' (upd σ2.mu s.heap.objs.size (.idict [(i, b)])) := fun b' o vs n m e d => by
      have q : b' ≠ s.heap.objs.size := by rintro rfl; exact hnq _ _ _ e d
      exact ⟨hs.extBut _ _ q e, by rw [upd_ne _ _ q]; exact m⟩
    have hB : c.B.get? s.heap.objs.size = none := X.s0.newB (Nat.le_refl _)
    refine ⟨.ref s.heap.objs.size, { σ2 with mu := upd σ2.mu s.heap.objs.size (.idict [(i, b)]) }, .ref _, ⟨⟨fun b' o e => hs.extBut _ _ ?_ (X2.s0.base _ _ e), X2.s0.gens, X2.s0.os, fun b' mo m => ?_, fun b' o e => ?_, ?_⟩, ⟨?_, fun y b' l q => ?_, X2.fr.dom, ?_, fun y b' l q => ?_⟩⟩, fun b' o e m np => ?_, h2 _ hm2⟩
    · rintro rfl; rw [hB] at e; cases e
    · by_cases q : b' = s.heap.objs.size
      · subst q
        replace m := (upd_self σ2.mu s.heap.objs.size (.idict [(i, b)])).symm.trans m
        cases m
        exact ⟨_, hD', .cons (r2.monoS hks) .nil⟩
      · replace m := (upd_ne σ2.mu (.idict [(i, b)]) q).symm.trans m
        exact (X2.s0.mu b' mo m).monoS hks fun o e => hs.extBut _ _ q e
    · show upd σ2.mu s.heap.objs.size _ b' = none
      rw [upd_ne]; exact X2.s0.muB _ o e
      rintro rfl; rw [hB] at e; cases e
    · show upd σ2.mu s.heap.objs.size _ sysModules = none
      rw [upd_ne]; exact X2.s0.sys
      exact X.s0.newSys (Nat.le_refl _)
    · refine el1_2 (X2.fr.ns) fun m inz19 hmm => ?_
      refine el3_2 inz19 fun o es ep e r' => ?_
      refine ⟨m, ⟨o, es, ep, hs.extBut _ _ (fun q => npr (.inl q.symm)) e, r'⟩, fun y d l v => let ⟨u, p, z⟩ := hmm y d l v; ⟨u, p, z.monoS hks⟩⟩
    · refine el1_2 (X2.fr.cell y b' l q) fun ov inz20 z => ?_
      refine el1_2 inz20 fun o e d => ?_
      refine ⟨ov, ⟨o, hs.extBut _ _ ?_ e, d⟩, fun d' v => let ⟨u, p, z'⟩ := z d' v; ⟨u, p, z'.monoS hks⟩⟩
      rintro rfl
      refine el1_2 (X.fr.cell y _ l q) fun ov' inz21 _ => ?_
      refine el1_2 inz21 fun o' e' _ => ?_
      exact Nat.lt_irrefl _ (Heap.lt_size e')
    · show upd σ2.mu s.heap.objs.size _ f.env.locals = none
      rw [upd_ne]; exact X2.fr.muL
      exact fun q => npr (.inl q.symm)
    · show upd σ2.mu s.heap.objs.size _ b' = none
      rw [upd_ne]; exact X2.fr.muC y b' l q
      rintro rfl
      refine el1_2 (X.fr.cell y _ l q) fun ov' inz22 _ => ?_
      refine el1_2 inz22 fun o' e' _ => ?_
      exact Nat.lt_irrefl _ (Heap.lt_size e')
    · have hlt := Heap.lt_size e
      have q : b' ≠ s.heap.objs.size := Nat.ne_of_lt hlt
      obtain ⟨p, q'⟩ := (ev0.comp ev) b' o e m np
      exact ⟨hs.extBut _ _ q p, by show upd σ2.mu s.heap.objs.size _ b' = _; rw [upd_ne _ _ q]; exact q'⟩
end
end Mine
namespace Mine
open Classical
section
variable {prog : Program} {w : World} {c : Cx prog w} {k : Nat} {sc : List (Str × NameKind)}
noncomputable def pAddT : MV → MV → W0 := fun a b μ Q => ∃ l m, a = .tup l ∧ b = .tup m ∧ l.length + m.length ≤ 1000000 ∧ Q (.tup (l ++ m)) μ
theorem RepAll.nilL {h : Heap} {μ : MHeap} {ds : List MV} (r : RepAll h μ [] ds) : ds = [] := by cases r; rfl
theorem op_addT : Op2 c (binaryOp .Add) pAddT := by
  intro A s μ va vb a b Q rm x r1 r2 hz1
  refine el2_4 hz1 fun l m eqz2 eqz3 hz h => ?_
  subst eqz2
  subst eqz3
  have q1 := r1
  have q2 := r2
  refine el2_4 (r1.isTup) fun t vs eqz4 _ ho rs => ?_
  subst eqz4
  refine el2_4 (r2.isTup) fun u ws eqz5 _ ho2 rs2 => ?_
  subst eqz5
  have e : vs.toArray ++ ws.toArray = (vs ++ ws).toArray := by simp
  by_cases hv : vs = []
  · subst hv
    obtain rfl := rs.nilL
    exact concat_meets ⟨_, ho, rfl⟩ ⟨_, ho2, rfl⟩ noFill_tuple_add seq_tuple_add PySem.F.slot_tuple_add PySem.F.entry_tuple_add (PySem.F.args_tuple_add_2 _ _)
      (tuple_addW0 t u _ ws.toArray 0 0 none none #[] #[] (by simp)) ⟨ho, ho2, P0.here x q2 h⟩
  · by_cases hw : ws = []
    · subst hw
      obtain rfl := rs2.nilL
      rw [List.append_nil] at h
      exact concat_meets ⟨_, ho, rfl⟩ ⟨_, ho2, rfl⟩ noFill_tuple_add seq_tuple_add PySem.F.slot_tuple_add PySem.F.entry_tuple_add (PySem.F.args_tuple_add_2 _ _)
        (tuple_addW1 t u vs.toArray _ 0 0 none none #[] #[] (by simpa using hv) (by simp)) ⟨ho, ho2, P0.here x q1 h⟩
    · refine concat_meets ⟨_, ho, rfl⟩ ⟨_, ho2, rfl⟩ noFill_tuple_add seq_tuple_add PySem.F.slot_tuple_add PySem.F.entry_tuple_add (PySem.F.args_tuple_add_2 _ _)
        (tuple_addW2 t u vs.toArray ws.toArray 0 0 none none #[] #[] (by simpa using hv) (by simpa using hw) (by rw [List.size_toArray, List.size_toArray, rs.length, rs2.length, sizeLine_eq]; lia)) ⟨ho, ho2, ?_⟩
      rw [e]
      exact P0.tup (h' := s.heap) x (fun _ _ e => e) (rs.append rs2) h
noncomputable def pAddL : MV → MV → W0 := fun a b μ Q => ∃ l m, a = .flist l ∧ b = .flist m ∧ l.length + m.length ≤ 1000000 ∧ Q (.flist (l ++ m)) μ
theorem op_addL : Op2 c (binaryOp .Add) pAddL := by
  intro A s μ va vb a b Q rm x r1 r2 hz6
  refine el2_4 hz6 fun l m eqz7 eqz8 hz h => ?_
  subst eqz7
  subst eqz8
  refine el3_4 (r1.isList) fun t vs n eqz9 _ ho rs => ?_
  subst eqz9
  refine el3_4 (r2.isList) fun u ws n2 eqz10 _ ho2 rs2 => ?_
  subst eqz10
  have e : vs.toArray ++ ws.toArray = (vs ++ ws).toArray := by simp
  refine concat_meets ⟨_, ho, rfl⟩ ⟨_, ho2, rfl⟩ noFill_list_add seq_list_add PySem.F.slot_list_add PySem.F.entry_list_add (PySem.F.args_list_add_2 _ _)
    (list_addW t u vs.toArray ws.toArray n n2 none none #[] #[] (by rw [List.size_toArray, List.size_toArray, rs.length, rs2.length, sizeLine_eq]; lia)) ⟨ho, ho2, ?_⟩
  rw [e]
  have hk : ∀ b o, s.heap.get? b = some o → (s.heap.push (seqObj "list" (vs ++ ws).toArray 0)).get? b = some o := fun b o e => Heap.get?_push_of_some _ e
  exact P0.flist (n := 0) x hk (Nat.le_refl _) (Heap.get?_push_size (o := seqObj "list" (vs ++ ws).toArray 0) _ rfl) ((rs.append rs2).mono (Evo0.of_keeps hk).keep) h
theorem foldl_app {α : Type} : ∀ (ls : List (Array α)) (acc : Array α), (ls.foldl (fun x1 x2 => x1 ++ x2) acc).toList = acc.toList ++ (ls.map Array.toList).flatten
  | [], acc => by simp
  | x :: ls, acc => by rw [List.foldl_cons, foldl_app ls]; simp
theorem mul_raw {A : Around} {s : Shared} {l : Addr} {its : List Value} {n : Nat} {x : Int} {u : Tok} {Q : Value → Shared → Prop} {E : Value → Shared → Prop} (hl : s.heap.get? l = some (seqObj "list" its.toArray n)) (h0 : 0 ≤ x) (hz : its.length * x.toNat ≤ 1000000) (h1 : 1 ≤ its.length)
    (h : Q (.ref s.heap.objs.size) { s with heap := s.heap.push (seqObj "list" (List.replicate x.toNat its).flatten.toArray 0) }) : wpAny (model prog w) A (binaryOp .Mult (.ref l) (.int x u)) Q E s := by
  have hx : x.toNat ≤ 1000000 := by
    have : 1 * x.toNat ≤ its.length * x.toNat := Nat.mul_le_mul_right _ h1
    lia
  refine wpAny_binaryOp_repeat_ref (T := "list") (U := "int") (by decide) ⟨_, hl, rfl⟩ (fun s' => typeIs_int s' x u) noFill_list_mul PySem.F.fills_int_mul PySem.F.slot_int_rmul repeat_list PySem.F.slot_int_index.lookup
    (call_meets PySem.F.slot_int_rmul (typeIs_int s x u) PySem.F.entry_int_rmul (PySem.F.args_int_rmul_2 _ _) (int___rmul___int_list x u l its.toArray n)
      ⟨hl, rfl, ⟨_, hl, rfl⟩, call_meets PySem.F.slot_list_mul ⟨_, hl, rfl⟩ PySem.F.entry_list_mul (PySem.F.args_list_mul_2 _ _)
        (AutoListH.list___mul___list_int_3 l its.toArray n x u (by simp [Builtin.List.listFitsIndex]; lia) (by rw [List.size_toArray]; lia) (by simp [Builtin.List.listTooLong, sizeLine]; lia))
        ⟨hl, ?_⟩⟩)
  have e : List.foldl (fun x1 x2 => x1 ++ x2) #[] (List.replicate (if its.toArray.isEmpty = true then 0 else x.toNat) its.toArray) = (List.replicate x.toNat its).flatten.toArray := by
    have hne : its.toArray.isEmpty = false := by
      cases its with
      | nil => simp at h1
      | cons _ _ => rfl
    rw [hne, if_neg (by decide)]
    apply Array.toList_inj.mp
    rw [foldl_app]
    simp
  rw [e]
  exact h
theorem RepAll.rep {h : Heap} {μ : MHeap} {vs : List Value} {ds : List MV} (r : RepAll h μ vs ds) : ∀ n, RepAll h μ (List.replicate n vs).flatten (List.replicate n ds).flatten
  | 0 => .nil
  | n + 1 => by rw [List.replicate_succ, List.replicate_succ, List.flatten_cons, List.flatten_cons]; exact r.append (r.rep n)
noncomputable def pMulF : MV → MV → W0 := fun a b μ Q => ∃ d n, a = .flist [d] ∧ b = .int n ∧ 0 ≤ n ∧ n ≤ 1000000 ∧ Q (.flist (List.replicate n.toNat d)) μ
noncomputable def pMulL : MV → MV → W0 := fun a b μ Q => ∃ d n, a = .flist [d] ∧ b = .int n ∧ 0 ≤ n ∧ n ≤ 1000000 ∧ pNew (.list (List.replicate n.toNat d)) μ Q
theorem flat_one {α : Type} (d : α) : ∀ n, (List.replicate n [d]).flatten = List.replicate n d
  | 0 => rfl
  | n + 1 => by rw [List.replicate_succ, List.flatten_cons, flat_one d n, List.replicate_succ]; rfl
theorem op_mulF : Op2 c (binaryOp .Mult) pMulF := by
  intro A s μ va vb a b Q rm x r1 r2 hz11
  refine el2_5 hz11 fun d i eqz12 eqz13 h0 hz h => ?_
  subst eqz12
  subst eqz13
  refine el3_4 (r1.isList) fun t vs n eqz14 _ ho rs => ?_
  subst eqz14
  obtain ⟨u, rfl⟩ := r2.isInt
  have hl1 : vs.length = 1 := rs.length
  refine mul_raw ho h0 (by rw [hl1]; lia) (by lia) ?_
  have hk : ∀ b o, s.heap.get? b = some o → (s.heap.push (seqObj "list" (List.replicate i.toNat vs).flatten.toArray 0)).get? b = some o := fun b o e => Heap.get?_push_of_some _ e
  have rr := (rs.rep i.toNat).mono (Evo0.of_keeps (μ := μ) hk).keep
  rw [flat_one] at rr
  exact P0.flist (n := 0) x hk (Nat.le_refl _) (Heap.get?_push_size (o := seqObj "list" _ 0) _ rfl) rr h
theorem op_mulL : Op2 c (binaryOp .Mult) pMulL := by
  intro A s μ va vb a b Q rm x r1 r2 hz15
  refine el2_5 hz15 fun d i eqz16 eqz17 h0 hz h => ?_
  subst eqz16
  subst eqz17
  refine el3_4 (r1.isList) fun t vs n eqz18 _ ho rs => ?_
  subst eqz18
  obtain ⟨u, rfl⟩ := r2.isInt
  have hl1 : vs.length = 1 := rs.length
  refine mul_raw ho h0 (by rw [hl1]; lia) (by lia) ?_
  have hk : ∀ b o, s.heap.get? b = some o → (s.heap.push (seqObj "list" (List.replicate i.toNat vs).flatten.toArray 0)).get? b = some o := fun b o e => Heap.get?_push_of_some _ e
  have ev := keep_new (μ := μ) (.list (List.replicate i.toNat d)) (Heap.get?_none_of_le (Nat.le_refl s.heap.objs.size)) hk
  have rr := (rs.rep i.toNat).mono ev.keep
  rw [flat_one] at rr
  exact ⟨.ref s.heap.objs.size, _, .ref _, x.new (t := s.toks) (mo := .list (List.replicate i.toNat d)) (Nat.le_refl _) hk ⟨_, 0, Heap.get?_push_size (o := seqObj "list" _ 0) _ rfl, rr⟩, ev, h _ (x.fresh (Nat.le_refl _))⟩
noncomputable def partI : Option Nat → Option Int
  | none => none
  | some n => some (n : Int)
inductive Part : Value → Option Nat → Prop
  | none : Part .none none
  | int (n : Nat) (t : Tok) : Part (.int n t) (some n)
theorem part_index {A : Around} {E : Value → Shared → Prop} {s : Shared} {v : Value} {p : Option Nat} {Q : Option Int → Shared → Prop} (hp : Part v p) (h : Q (partI p) s) : wpAny (model prog w) A (Builtin.Slice.slicePartIndex v) Q E s := by
  cases hp with
  | none => exact slicePart_none h
  | int n t => exact slicePart_int h
noncomputable def cutFrom (p : Option Nat) (n : Nat) : Nat := min (p.getD 0) n
noncomputable def cutTo (p : Option Nat) (n : Nat) : Nat := min (p.getD n) n
theorem adjust_parts (lo hi : Option Nat) (n : Nat) : Builtin.Slice.sliceAdjust (partI lo) (partI hi) 1 (n : Int) = ((cutFrom lo n : Int), (cutTo hi n : Int)) := by
  unfold Builtin.Slice.sliceAdjust cutFrom cutTo
  have h1 : ¬ ((1 : Int) < 0) := by lia
  have hn : ∀ m : Nat, ¬ ((m : Int) < 0) := fun m => by lia
  cases lo <;> cases hi <;> simp only [h1, hn, if_false, partI, Option.getD_none, Option.getD_some, Prod.mk.injEq] <;> constructor <;> lia
theorem places_parts (a b : Nat) : Builtin.Slice.slicePlaces (a : Int) (b : Int) 1 = b - a := by
  unfold Builtin.Slice.slicePlaces
  have h1 : (1 : Int) > 0 := by lia
  simp only [h1, if_true, Int.ediv_one]
  split <;> lia
theorem pick_parts (xs : List Value) (a n : Nat) : ((List.range n).filterMap fun (k : Nat) => xs.toArray[((a : Int) + (k : Int) * 1).toNat]?).toArray = ((xs.drop a).take n).toArray := by
  have e : (fun (k : Nat) => xs.toArray[((a : Int) + (k : Int) * 1).toNat]?) = fun k => xs.toArray[a + k]? := by
    funext k
    have : ((a : Int) + (k : Int) * 1).toNat = a + k := by lia
    rw [this]
  rw [e]
  have := pick_run xs.toArray a n
  rw [List.filterMap_map] at this
  have e2 : ((fun x => xs.toArray[x]?) ∘ fun x => a + x) = fun k => xs.toArray[a + k]? := rfl
  rw [e2] at this
  rw [this]
theorem tuple_slice {A : Around} {E : Value → Shared → Prop} {s : Shared} {t sl : Addr} {its : List Value} {vl vu : Value} {lo hi : Option Nat} {Q : Value → Shared → Prop} (ht : s.heap.get? t = some (tupObj its)) (hs : s.heap.IsSliceOf sl vl vu .none) (pl : Part vl lo) (pu : Part vu hi) (hz : its.length ≤ 1000000)
    (hsame : (its.drop (cutFrom lo its.length)).take (cutTo hi its.length - cutFrom lo its.length) = its → Q (.ref t) s)
    (h : Q (.ref s.heap.objs.size) { s with heap := s.heap.push (tupObj ((its.drop (cutFrom lo its.length)).take (cutTo hi its.length - cutFrom lo its.length))) }) :
    wpAny (model prog w) A (getItem (.ref t) (.ref sl)) Q E s := by
  have hT : IsTup s.heap t its.toArray := ⟨_, ht, rfl, 0, rfl⟩
  refine el1_3 (id hs) fun os hos hcs hds => ?_
  have hTs : s.TypeIs (.ref sl) "slice" := ⟨os, hos, hcs⟩
  unfold getItem
  try with_reducible refine wpAny_holding ?_
  first | refine wpAny_bind (wpAny_pure ?_) | skip
  refine wpAny_bind (wpAny_sequenceKey (show s.TypeIs (.ref t) "tuple" from ⟨_, ht, rfl⟩) (by decide) ?_)
  refine wpAny_bind (wpAny_callSpecial?_slot (name := Str.ofString "__getitem__") (show s.TypeIs (.ref t) "tuple" from ⟨_, ht, rfl⟩) slot_tuple_getitem
    (wpAny_call_entry slot_tuple_getitem ⟨_, ht, rfl⟩ entry_tuple_getitem ?_ (args_tuple_getitem _ _)))
  show wpAny _ _ (Builtin.Tuple.tupleItemsOf (.ref t) >>= _) _ _ s
  refine wpAny_bind (tupleItemsOf_ hT ?_)
  refine wpAny_bind (wpAny_typeOf hTs ?_)
  rw [if_pos (by decide)]
  refine wpAny_bind (m := Builtin.Slice.sliceApplied (.ref sl) (pure ((its.toArray.size : Nat) : Int))) ?_
  unfold Builtin.Slice.sliceApplied Builtin.Slice.sliceFields
  refine wpAny_bind (wpAny_bind (wpAny_field hos hds (x := vl) rfl (wpAny_bind (wpAny_field hos hds (x := vu) rfl (wpAny_bind (wpAny_field hos hds (x := .none) rfl (wpAny_pure ?_)))))))
  refine wpAny_bind (slicePart_none ?_)
  show wpAny _ _ (if ((1 : Int) == 0) = true then _ else _) _ _ s
  rw [if_neg (by decide)]
  refine wpAny_bind (part_index pl (wpAny_bind (part_index pu (wpAny_bind (wpAny_pure ?_)))))
  have hsz : its.toArray.size = its.length := by simp
  have hadj := adjust_parts lo hi its.length
  rw [hsz]
  show wpAny _ _ (match Builtin.Slice.sliceAdjust (partI lo) (partI hi) 1 (its.length : Int) with | (lo, hi) => pure (lo, (1 : Int), Builtin.Slice.slicePlaces lo hi 1)) _ _ s
  rw [hadj]
  show wpAny _ _ (pure ((cutFrom lo its.length : Int), (1 : Int), Builtin.Slice.slicePlaces (cutFrom lo its.length : Int) (cutTo hi its.length : Int) 1)) _ _ s
  rw [places_parts]
  refine wpAny_pure ?_
  show wpAny _ _ (if ((cutFrom lo its.length : Int) == 0 && (1 : Int) == 1 && (cutTo hi its.length - cutFrom lo its.length) == its.length) = true then _ else _) _ _ s
  have hdrop : sizeOk (.seq ((its.drop (cutFrom lo its.length)).take (cutTo hi its.length - cutFrom lo its.length)).toArray) := by
    show ((its.drop (cutFrom lo its.length)).take (cutTo hi its.length - cutFrom lo its.length)).toArray.size ≤ sizeLine
    rw [List.size_toArray, List.length_take, List.length_drop, sizeLine_eq]
    lia
  split
  · rename_i hq
    simp only [Bool.and_eq_true, beq_iff_eq] at hq
    have e0 : cutFrom lo its.length = 0 := by lia
    have hsm := hsame (by rw [hq.2, e0, List.drop_zero, List.take_length])
    refine wpAny_bind (m := Builtin.Tuple.tupleIsExact _) ?_
    unfold Builtin.Tuple.tupleIsExact
    refine wpAny_bind (wpAny_typeOf (T := "tuple") ⟨_, ht, rfl⟩ (wpAny_pure ?_))
    rw [if_pos (by decide)]
    exact wpAny_bind (wpAny_rule (wpAny_pure ⟨_, rfl, wpAny_pure hsm⟩))
  · rw [pick_parts its (cutFrom lo its.length)]
    exact wpAny_bind (m := Builtin.Tuple.tupleExact _) (wpAny_newObj_type (wpAny_pure ⟨_, rfl, wpAny_pure h⟩) hdrop)
noncomputable def cut {α : Type} (lo hi : Option Nat) (l : List α) : List α := (l.drop (cutFrom lo l.length)).take (cutTo hi l.length - cutFrom lo l.length)
theorem cut_pick (its : List Value) (lo hi : Option Nat) : slicePick its.toArray (partI lo) (partI hi) none = (cut lo hi its).toArray := by
  rw [slicePick_plain]
  have e1 : (partI lo).elim 0 (clipAt its.toArray.size) = cutFrom lo its.length := by
    cases lo with
    | none => simp [partI, cutFrom]
    | some a => simp [partI, cutFrom, clipAt_nat]
  have e2 : (partI hi).elim its.toArray.size (clipAt its.toArray.size) = cutTo hi its.length := by
    cases hi with
    | none => simp [partI, cutTo]
    | some a => simp [partI, cutTo, clipAt_nat]
  rw [e1, e2]
  rfl
theorem cut_same {α β : Type} {lo hi : Option Nat} {vs : List α} {l : List β} (hl : vs.length = l.length) (e : cut lo hi vs = vs) : cut lo hi l = l := by
  have h := congrArg List.length e
  unfold cut at h ⊢
  rw [List.length_take, List.length_drop, hl] at h
  by_cases h0 : l.length = 0
  · obtain rfl := List.length_eq_zero_iff.mp h0
    simp
  · have h1 : cutFrom lo l.length = 0 := by lia
    rw [h1, List.drop_zero]
    exact List.take_of_length_le (by lia)
theorem Part.is {v : Value} {p : Option Nat} (h : Part v p) : IsPart v (partI p) := by
  cases h with
  | none => exact .none
  | int n t => exact .int _ _
theorem RepAll.cut {h : Heap} {μ : MHeap} {vs : List Value} {ds : List MV} (r : RepAll h μ vs ds) (lo hi : Option Nat) : RepAll h μ (Mine.cut lo hi vs) (Mine.cut lo hi ds) := by
  unfold Mine.cut
  rw [r.length]
  exact (r.drop _).take _
noncomputable def wPart : Option WE → St → (Option Nat → St → Prop) → Prop
  | none, σ, Q => Q none σ
  | some W, σ, Q => W σ fun d σ' => ∃ n : Nat, d = .int n ∧ Q (some n) σ'
inductive JPart (c : Cx prog w) (k : Nat) (sc : List (Str × NameKind)) : Option Expr → Option WE → Prop
  | none : JPart c k sc none none
  | some {e : Expr} {W : WE} : JE c k sc e W → JPart c k sc (some e) (some W)
noncomputable def PP (c : Cx prog w) (f : Fm) (s : Shared) (σ : St) (Q : Option Nat → St → Prop) (v : Value) (s' : Shared) : Prop := ∃ p σ', Part v p ∧ S c f σ' s' ∧ EvoF f s.heap σ.mu s'.heap σ'.mu ∧ Q p σ'
theorem JPart.run {x : Option Expr} {W : Option WE} (h : JPart c k sc x W) {f : Fm} {A : Around} {σ : St} {Q : Option Nat → St → Prop} {s : Shared} (e1 : f.sc = sc) (fo : FmOk c f) (rm : Room A k) (X : S c f σ s) (hw : wPart W σ Q) : wpAny (model prog w) A (evalPart x f.env) (PP c f s σ Q) no s := by
  cases h with
  | none => rw [evalPart_none]; exact wpAny_pure ⟨Option.none, σ, .none, X, EvoF.refl _ _ _, hw⟩
  | some h =>
    rw [evalPart_some]
    refine wpAny_mono (h f A σ _ s e1 fo rm X hw) ?_ fun _ _ e => e
    rintro v s' ⟨d, σ', r, X', ev, n, rfl, q⟩
    obtain ⟨t, rfl⟩ := r.isInt
    exact ⟨Option.some n, σ', .int n t, X', ev, q⟩
noncomputable def wSlice (W : WE) (Lo Hi : Option WE) : WE := fun σ Q => W σ fun a σ1 => wPart Lo σ1 fun lo σ2 => wPart Hi σ2 fun hi σ3 => (∃ l, a = .tup l ∧ l.length ≤ 1000000 ∧ Q (.tup (cut lo hi l)) σ3) ∨ (∃ l, a = .flist l ∧ l.length ≤ 1000000 ∧ Q (.flist (cut lo hi l)) σ3)
theorem JE.slice {value : Expr} {lower upper : Option Expr} {p pos : Pos} {W : WE} {Lo Hi : Option WE} (hv : JE c k sc value W) (hl : JPart c k sc lower Lo) (hu : JPart c k sc upper Hi) (ht : ∀ o r, letTemporaryGo value o r = pure ()) : JE c k sc (.Subscript value (.Slice lower upper none p) pos) (wSlice W Lo Hi) := fun f A σ Q s e1 fo rm X h => by
  refine Subscript_ (wpAny_mono (hv f A σ _ s e1 fo rm X h) ?_ fun _ _ e => e)
  intro o s₁ hz21
  refine el2_4 hz21 fun a σ1 r1 X1 ev1 h1 => ?_
  refine wpAny_Slice (wpAny_mono (hl.run e1 fo rm X1 h1) ?_ fun _ _ e => e)
  intro vl s₂ hz22
  refine el2_4 hz22 fun lo σ2 pl X2 ev2 h2 => ?_
  refine wpAny_mono (hu.run e1 fo rm X2 h2) ?_ fun _ _ e => e
  intro vu s₃ hz23
  refine el2_4 hz23 fun hi σ3 pu X3 ev3 h3 => ?_
  rw [evalPart_none]
  refine wpAny_pure ?_
  have ev := (ev1.comp ev2).comp ev3
  have r3 := r1.mono (EvoF.keep X1.fr (ev2.comp ev3))
  have hk : ∀ b o, s₃.heap.get? b = some o → (s₃.heap.push { cls := .type "slice", data := .fields #[vl, vu, .none] }).get? b = some o := fun b o e => Heap.get?_push_of_some _ e
  have X4 : S c f σ3 { s₃ with heap := s₃.heap.push { cls := .type "slice", data := .fields #[vl, vu, .none] } } := X3.grow hk
  have ev4 : EvoF f s₃.heap σ3.mu (s₃.heap.push { cls := .type "slice", data := .fields #[vl, vu, .none] }) σ3.mu := (Evo0.of_keeps hk).toF
  have r4 := r3.mono (EvoF.keep X3.fr ev4)
  have sl := Heap.IsSliceOf.new s₃.heap vl vu .none
  refine wpAny_mono (E := no) (Q := PF c f s σ Q) ?_ (fun _ _ q => q) fun _ _ e => e
  rcases h3 with ⟨l, rfl, hz, q⟩ | ⟨l, rfl, hz, q⟩
  · have r5 := r4
    refine el2_4 (r4.isTup) fun t vs eqz24 _ ho rs => ?_
    subst eqz24
    refine subscriptTail_ops (s := { s₃ with heap := s₃.heap.push { cls := .type "slice", data := .fields #[vl, vu, .none] } }) (T := "tuple") ⟨_, ho, rfl⟩ slot_tuple_getitem.lookup ?_ (by with_unfolding_all rfl) (ht _)
    refine OKF.from (ev.comp ev4) (lift0 X4 (tuple_slice (its := vs) ho sl pl pu (by rw [rs.length]; exact hz) (fun e => ?_) ?_))
    · have e3 : Mine.cut lo hi l = l := cut_same rs.length e
      rw [e3] at q
      exact P0.here X4.s0 r5 q
    · exact P0.tup (h' := s₃.heap.push _) X4.s0 (fun _ _ e => e) (rs.cut lo hi) q
  · refine el3_4 (r4.isList) fun t vs n eqz25 _ ho rs => ?_
    subst eqz25
    refine subscriptTail_ops (s := { s₃ with heap := s₃.heap.push { cls := .type "slice", data := .fields #[vl, vu, .none] } }) (T := "list") ⟨_, ho, rfl⟩ slot_list_getitem.lookup ?_ (by with_unfolding_all rfl) (ht _)
    refine OKF.from (ev.comp ev4) (lift0 X4 (wpAny_getItem_list_slice (items := vs.toArray) ⟨_, ho, rfl, n, rfl⟩ sl pl.is pu.is .none (by simp) ?_ (by rw [List.size_toArray, rs.length, sizeLine_eq]; lia)))
    rw [cut_pick]
    have hk5 : ∀ b o, (s₃.heap.push { cls := .type "slice", data := .fields #[vl, vu, .none] }).get? b = some o → ((s₃.heap.push { cls := .type "slice", data := .fields #[vl, vu, .none] }).push (seqObj "list" (Mine.cut lo hi vs).toArray 0)).get? b = some o := fun b o e => Heap.get?_push_of_some _ e
    exact P0.flist (n := 0) X4.s0 hk5 (Nat.le_refl _) (Heap.get?_push_size (o := seqObj "list" _ 0) _ rfl) ((rs.cut lo hi).mono (Evo0.of_keeps hk5).keep) q
end
end Mine
namespace Mine
open Classical
section
variable {prog : Program} {w : World} {c : Cx prog w} {k : Nat} {sc : List (Str × NameKind)}
noncomputable def pNeD : MV → MV → W0 := fun a b μ Q => ∃ r q es, a = .ref r ∧ b = .ref q ∧ μ r = some (.idict es) ∧ μ q = some (.idict es) ∧ (∀ e ∈ es, e.2.plain = true ∧ e.2.dep ≤ 50) ∧ Q (.bool false) μ
theorem valueAt_nodup {K : Type} [DecidableEq K] {k : K} {v : Value} : ∀ {l : List (K × Value)}, (l.map (·.1)).Nodup → (k, v) ∈ l → valueAt l k = some v
  | [], _, h => nomatch h
  | (a, b) :: l, hn, hm => by
    simp only [List.map_cons, List.nodup_cons] at hn
    unfold valueAt
    rcases List.mem_cons.mp hm with e | m
    · cases e; simp [List.find?_cons]
    · have : a ≠ k := by rintro rfl; exact hn.1 (List.mem_map.mpr ⟨_, m, rfl⟩)
      simp only [List.find?_cons, this, decide_false]
      exact valueAt_nodup hn.2 m
theorem hits_of {A : Around} {s : Shared} {μ : MHeap} {kb : List (Int × Value)} {eb : List (Int × MV)} (hA : A.units + 60 < cLine) (hnb : (kb.map (·.1)).Nodup) (hb : PairsRep s.heap μ kb eb) : ∀ {ka : List (Int × Value)} {ea : List (Int × MV)}, PairsRep s.heap μ ka ea → (∀ e ∈ ea, e ∈ eb) → (∀ e ∈ ea, e.2.plain = true ∧ e.2.dep ≤ 50) → KeqHits A s kb ka true := by
  intro ka ea ha
  induction ha with
  | nil => exact fun _ _ => .nil
  | @cons k v d kvs es r rs ih =>
    intro hsub hp
    have hm : (k, d) ∈ eb := hsub _ List.mem_cons_self
    have key : ∀ {kb : List (Int × Value)} {eb : List (Int × MV)}, PairsRep s.heap μ kb eb → (k, d) ∈ eb → ∃ u, (k, u) ∈ kb ∧ Rep s.heap μ u d := by
      intro kb eb hb hm
      induction hb with
      | nil => cases hm
      | @cons k' u d' kvs es r' _ ih =>
        rcases List.mem_cons.mp hm with e | m
        · cases e; exact ⟨u, List.mem_cons_self, r'⟩
        · refine el1_2 (ih m) fun u' hu ru => ?_
          exact ⟨u', List.mem_cons_of_mem _ hu, ru⟩
    refine el1_2 (key hb hm) fun u hu ru => ?_
    obtain ⟨pl, dp⟩ := hp _ List.mem_cons_self
    have ih := ih (fun e h => hsub e (List.mem_cons_of_mem _ h)) (fun e h => hp e (List.mem_cons_of_mem _ h))
    have heq : SeqAt.EqAt A s v u true := by
      intro prog' w' E Q hq
      obtain ⟨as, p⟩ := r.reads pl
      obtain ⟨bs, q⟩ := ru.reads pl
      refine SeqAt.eqBoolOverData prog' w' A E s _ _ _ _ as bs Q p q (py_lay pl) (py_lay pl) ?_ ?_
      · rw [py_depth]
        have : d.dep ≤ 50 := dp
        lia
      · rw [py_eqv_decide pl pl]; simpa using hq
    have := KeqHits.hit (A := A) (s := s) (kb := kb) (valueAt_nodup hnb hu) heq ih
    simpa using this
theorem op_neD : Op2 c (compareOp .NotEq) pNeD := by
  intro A s μ va vb a b Q rm x r1 r2 hz1
  refine el3_6 hz1 fun r q es eqz2 eqz3 hr hq hp h => ?_
  subst eqz2
  subst eqz3
  obtain rfl := r1.isRef
  obtain rfl := r2.isRef
  refine el1_2 (x.mu r _ hr) fun ka hD hP => ?_
  obtain ⟨kb, hD2, hP2⟩ := x.mu q _ hq
  have hn : (kb.map (·.1)).Nodup := let ⟨_, _, _, _, _, _, _, _, hn⟩ := hD2; hn
  have hu := room_units rm
  refine keq_ne (x.notSys hr) (x.notSys hq) hD hD2 (by lia) (fun _ => hits_of (A := A.in1) (by show A.units + 1 + 60 < cLine; lia) hn hP2 hP (fun e m => m) hp) ?_
  have e : (ka.length == kb.length) = true := by simp [hP.length, hP2.length]
  rw [e]
  exact P0.here x (.bool _) h
theorem keys_missing : typeLookup (.type "list") "keys" = pure none := by rw [typeLookup_type, builtinLookup_eq_fast]; kernel_rfl
theorem sub_attrErr : isSubtype (.type "AttributeError") (.type "AttributeError") = pure true := by rw [isSubtype_type]; kernel_rfl
theorem getAttr?_keys {A : Around} {E : Value → Shared → Prop} {s : Shared} {a : Addr} {xs : Array Value} {n : Nat} {Q : Option Value → Shared → Prop} (hx : s.heap.get? a = some (seqObj "list" xs n)) (hA : A.handled = none)
    (h : ∀ h' tk, (∀ b o, s.heap.get? b = some o → h'.get? b = some o) → Q none { s with heap := h', toks := tk }) : wpAny (model prog w) A (getAttr? (.ref a) "keys") Q E s := by
  obtain ⟨hp, g, d, tk, os⟩ := s
  have hT : ∀ tk', (⟨hp, g, d, tk', os⟩ : Shared).TypeIs (.ref a) "list" := fun _ => ⟨_, hx, rfl⟩
  have f1 := sub_attrErr
  have f3 := F.slot_list_getattribute.lookup
  have f4 := F.slot_list_getattribute.bind (.ref a)
  have f5 := am_list_getattr_none
  unfold getAttr? getAttrBy? getAttrBy
  repeat (any_goals (first | assumption | exact hT _ | ((with_reducible show wpAny _ _ (call (Value.builtin "list.__getattribute__") _ _) _ _ _); refine call_meets F.slot_list_getattribute (hT _) am_entry_list_getattribute (F.args_list_getattribute_2 _ _) (meets_getattribute_miss_list a xs n #[] "keys" _ keys_missing (by decide) (by size_fits)) ⟨hx, hA, fun h' tk' e hx' => ?_⟩) | wp_step))
  refine el2_1 (hx'.there) fun t' u' he => ?_
  show wpAny _ _ (getattributeRaised _ _ _ _ _ _ _) _ _ _
  unfold getattributeRaised
  repeat (any_goals (first | assumption | wp_step))
  exact h h' tk' hx'.keeps
theorem entry_dul : entryFor table "dict.update.loop" = some Builtin.«dict.update.loop» := entryFor_of_tree (by kernel_rfl)
theorem plain_dul : plainId "dict.update.loop" = true := by decide +kernel
theorem iter_src {A : Around} {E : Value → Shared → Prop} {s : Shared} {μ : MHeap} {v : Value} {d : MV} {items : List MV} {need : MHeap → Prop} {Q : Value → Shared → Prop} (x : S0 c μ s) (r : Rep s.heap μ v d) (hs : srcOf μ d = some (items, need))
    (h : ∀ o ok At, Itr c s.heap.objs.size items need ok At → At 0 (s.heap.push o) → ok (s.heap.push o) μ → need μ → Q (.ref s.heap.objs.size) { s with heap := s.heap.push o }) : wpAny (model prog w) A (pyIter v) Q E s := by
  have hk : ∀ (o : Obj) b x, s.heap.get? b = some x → (s.heap.push o).get? b = some x := fun o b x e => Heap.get?_push_of_some _ e
  cases d with
  | tup l =>
    cases hs
    refine el2_4 (r.isTup) fun a vs eqz4 m ho rs => ?_
    subst eqz4
    exact wpAny_pyIter_tuple (items := vs.toArray) ⟨_, ho, rfl, 0, rfl⟩ (h _ _ _ (Itr.tuple a _ _ (Nat.ne_of_lt (Heap.lt_size ho))) ⟨_, Heap.get?_push_size _ rfl, rfl, rfl⟩ (r.mono (Evo0.of_keeps (hk _)).keep) trivial)
  | flist l =>
    cases hs
    refine el3_4 (r.isList) fun a vs n eqz5 m ho rs => ?_
    subst eqz5
    exact wpAny_pyIter_list (items := vs.toArray) ⟨_, ho, rfl, n, rfl⟩ (h _ _ _ (Itr.flist a _ _ (Nat.ne_of_lt (Heap.lt_size ho))) ⟨_, Heap.get?_push_size _ rfl, rfl, rfl⟩ (r.mono (Evo0.of_keeps (hk _)).keep) trivial)
  | ref a =>
    obtain rfl := r.isRef
    simp only [srcOf] at hs
    split at hs
    · rename_i l hm
      cases hs
      refine el2_2 (x.mu a _ hm) fun its n ho rs => ?_
      exact wpAny_pyIter_list (items := its.toArray) ⟨_, ho, rfl, n, rfl⟩ (h _ _ _ (Itr.list a _ _ (Nat.ne_of_lt (Heap.lt_size ho))) ⟨_, Heap.get?_push_size _ rfl, rfl, rfl⟩ trivial hm)
    · cases hs
  | _ => cases hs
noncomputable def SetStep (c : Cx prog w) {K : Type} [DecidableEq K] (mk : List (K × MV) → MObj) (key : K → MV) (good : K → Prop) : Prop :=
  ∀ (A : Around) (s : Shared) (μ : MHeap) (d : Addr) (es : List (K × MV)) (x : K) (kv vv : Value) (dv : MV) (Q : Unit → Shared → Prop) (E : Value → Shared → Prop), A.units ≤ 9500 → S0 c μ s → μ d = some (mk es) → es.length ≤ 1000000 → good x → Rep s.heap μ kv (key x) → Rep s.heap μ vv dv →
    (∀ h' t, S0 c (upd μ d (mk (dset es x dv))) { s with heap := h', toks := t } → Heap.SameBut d s.heap h' → Q () { s with heap := h', toks := t }) → wpAny (model prog w) A (dictSet d kv vv) Q E s
theorem setStepI : SetStep c MObj.idict MV.int (fun _ => True) := by
  intro A s μ d es i kv vv dv Q E rm x hm hz _ rk rv h
  obtain ⟨t, rfl⟩ := rk.isInt
  refine el1_2 (x.mu d _ hm) fun kvs hD hP => ?_
  refine wpAny_dictSet_pairs (intKind_is prog w i t) hD (fun h' hD' hs => h _ _ ?_ hs) (by rw [hP.length, sizeLine_eq]; lia)
  have nf : ¬ fixed (some (MObj.idict es)) := id
  have ev : Evo0 s.heap μ h' (upd μ d (.idict (dset es i dv))) := evo_set _ hm nf hs.extBut
  exact x.set (mo' := .idict (dset es i dv)) hm nf hs.extBut ⟨_, hD', (hP.mono ev.keep).set i (rv.mono ev.keep)⟩
theorem setStepT : SetStep c MObj.tdict MV.tup (fun ks => keys 5 ks = true) := by
  intro A s μ d es ks kv vv dv Q E rm x hm hz hk rk rv h
  have hkey := rk.key (n := 6) (by simpa [MV.key] using hk)
  have hrb := rk
  refine el2_4 (rk.isTup) fun p vs eqz6 _ _ _ => ?_
  subst eqz6
  refine el1_3 (x.dictH hm) fun xs hD hK h5 => ?_
  have hu : (mvKind prog w).room A := by show A.units + 10 < 9900; lia
  refine wpAny_dictSet_heap (knd := mvKind prog w) hu hkey hD (fun h' hD' hs => h _ _ ?_ hs) (by rw [hK.length, sizeLine_eq]; lia)
  have nf : ¬ fixed (some (MObj.tdict es)) := id
  have ev : Evo0 s.heap μ h' (upd μ d (.tdict (dset es ks dv))) := evo_set _ hm nf hs.extBut
  refine el3_6 (hD') fun o tes ep ho hex hd hes _ hnd => ?_
  exact x.set (mo' := .tdict (dset es ks dv)) hm nf hs.extBut ⟨o, tes, ep, _, ho, hex, hd, hes, hnd, (hK.mono ev.keep).set (hrb.mono ev.keep) (rv.mono ev.keep), storedH_keys hk h5⟩
theorem pairItems_two {A : Around} {E : Value → Shared → Prop} {s : Shared} {t : Addr} {vs : List Value} {Q : List Value → Shared → Prop} (ht : s.heap.get? t = some (tupObj vs)) (h : Q vs s) : wpAny (model prog w) A (Builtin.Dict.pairItems (.ref t)) Q E s := by
  unfold Builtin.Dict.pairItems
  refine wpAny_bind (wpAny_typeOf (T := "tuple") ⟨_, ht, rfl⟩ ?_)
  rw [if_pos (by decide)]
  exact wpAny_bind (wpAny_seqItems ht rfl (wpAny_pure (by simpa using h)))
theorem pairs_loop {K : Type} [DecidableEq K] {mk : List (K × MV) → MObj} {key : K → MV} {good : K → Prop} (hset : SetStep c mk key good) (hnf : ∀ es, ¬ fixed (some (mk es))) {d I : Addr} {h₀ : Heap} {μ₀ : MHeap} {ps : List (K × MV)} {need : MHeap → Prop} {ok : Heap → MHeap → Prop} {At : Nat → Heap → Prop}
    (it : Itr c I (ps.map fun p => .tup [key p.1, p.2]) need ok At) (hneed : ∀ es, need (upd μ₀ d (mk es))) (hgood : ∀ p ∈ ps, good p.1) (hz : ps.length ≤ 900000) (hd0 : h₀.get? d = none) (hI0 : h₀.get? I = none) (hdI : d ≠ I) (hB : c.B.get? I = none) (hm0 : μ₀ I = none) {A : Around} (hh : A.handled = none) (hu : A.units ≤ 9400) {R : Result → Shared → Prop}
    (hR : ∀ s', S0 c (upd μ₀ d (mk (ps.foldl (fun es p => dset es p.1 p.2) []))) s' → (∀ b o, h₀.get? b = some o → fixed (μ₀ b) → s'.heap.get? b = some o) → R (.ok (.ret .none)) s') :
    ∀ (rest : List (K × MV)) (i : Nat) (s : Shared), ps.drop i = rest → i ≤ ps.length → S0 c (upd μ₀ d (mk ((ps.take i).foldl (fun es p => dset es p.1 p.2) []))) s → At i s.heap → ok s.heap (upd μ₀ d (mk ((ps.take i).foldl (fun es p => dset es p.1 p.2) []))) → ((ps.take i).foldl (fun es p => dset es p.1 p.2) []).length ≤ i →
      (∀ b o, h₀.get? b = some o → fixed (μ₀ b) → s.heap.get? b = some o) → ∀ (n : Int), codeAny (model prog w) A (.builtin "dict.update.loop" ⟨[.ref d, .ref I, rawInt n, .none], []⟩) R s := by
  intro rest
  have hmI : ∀ es, upd μ₀ d (mk es) I = none := fun es => by rw [upd_ne _ _ (Ne.symm hdI)]; exact hm0
  induction rest with
  | nil =>
    intro i s hdr hi X a k hl hev n
    have hil : i = ps.length := by
      have := congrArg List.length hdr
      rw [List.length_drop, List.length_nil] at this; lia
    subst hil
    rw [List.take_length] at X k
    refine el3_3 (it.shape _ _ a) fun o vs T ho hdd _ => ?_
    refine codeAny_builtin entry_dul ?_
    rw [Around.under_plainId plain_dul _]
    show wpAny _ A.in1 (pyNext (.ref I) >>= _) _ _ s
    refine wpAny_bind (it.done A.in1 s _ _ _ hh X (by rw [List.length_map]; exact a) k (hneed _) fun h' hs => ?_)
    show wpAny _ A.in1 (Builtin.Dict.addKeywords d [] >>= _) _ _ _
    refine wpAny_bind (wpAny_pure (wpAny_pure ?_))
    have hnq : ∀ o vs n, s.heap.get? I = some o → o.data ≠ .seq vs n := fun o' vs n e q => by rw [ho] at e; cases e; rw [hdd] at q; cases q
    exact hR _ (X.other (t := s.toks) hs hB (hmI _) hnq) fun b o e m => hs b o (by rintro rfl; rw [hI0] at e; cases e) (hev b o e m)
  | cons p rest ih =>
    intro i s hdr hi X a k hl hev n
    have hlt := (drop_at hdr).1
    have hget : ps[i]? = some p := (drop_at hdr).2.1
    have hdrop := (drop_at hdr).2.2
    have htake : (ps.take (i + 1)).foldl (fun es p => dset es p.1 p.2) [] = dset ((ps.take i).foldl (fun es p => dset es p.1 p.2) []) p.1 p.2 := by
      rw [List.take_add_one, hget, List.foldl_append]; rfl
    refine el3_3 (it.shape _ _ a) fun o vs T ho hdd _ => ?_
    have hnq : ∀ o vs n, s.heap.get? I = some o → o.data ≠ .seq vs n := fun o' vs n e q => by rw [ho] at e; cases e; rw [hdd] at q; cases q
    refine codeAny_builtin entry_dul ?_
    rw [Around.under_plainId plain_dul _]
    show wpAny _ A.in1 (pyNext (.ref I) >>= _) _ _ s
    refine wpAny_bind (it.item A.in1 i (.tup [key p.1, p.2]) s _ _ _ hh (by rw [List.getElem?_map, hget]; rfl) X a k (hneed _) fun v h' tk rv a' hs => ?_)
    have kp := keep_other (μ := upd μ₀ d (mk ((ps.take i).foldl (fun es p => dset es p.1 p.2) []))) hs.extBut (hmI _) hnq
    have X' := X.other (t := tk) hs.extBut hB (hmI _) hnq
    have rv' := rv.mono kp
    have k' := it.mono _ _ _ _ k kp
    refine el2_4 (rv'.isTup) fun q ws eqz7 _ hq rs => ?_
    subst eqz7
    cases rs with | cons rk rs => cases rs with | cons rd rs => cases rs with | nil =>
    rename_i kv vv
    refine wpAny_bind (wpAny_holding (wpAny_bind (wpAny_tryCatch (pairItems_two (s := { s with heap := h', toks := tk }) hq ?_))))
    refine wpAny_holding (hset A.in1 _ _ d _ p.1 kv vv p.2 _ _ (by show A.units + 1 ≤ 9500; lia) X' (upd_self _ _ _) (by lia) (hgood _ (List.mem_of_getElem? hget)) rk rd fun h'' t'' X'' hs'' => ?_)
    rw [upd_upd, ← htake] at X''
    have hds : ∀ x : K, ∀ dv, (dset ((ps.take i).foldl (fun es p => dset es p.1 p.2) []) x dv).length ≤ i + 1 := fun x dv => by
      have := dset_keys (es := (ps.take i).foldl (fun es p => dset es p.1 p.2) []) (k := x) (v := dv); lia
    refine wpAny_pure ⟨plainId_quiet plain_dul _, ih (i + 1) _ hdrop hlt X'' (it.stay _ _ _ a' fun o e => hs''.extBut _ _ (Ne.symm hdI) e) (it.mono _ _ _ _ k' ?_) (by rw [htake]; exact hds _ _) (fun b o e m => hs''.extBut _ _ (by rintro rfl; rw [hd0] at e; cases e) (hs.extBut b o (by rintro rfl; rw [hI0] at e; cases e) (hev b o e m))) _⟩
    rw [htake]
    have ev : Evo0 h' (upd μ₀ d (mk ((ps.take i).foldl (fun es p => dset es p.1 p.2) []))) h'' (upd (upd μ₀ d (mk ((ps.take i).foldl (fun es p => dset es p.1 p.2) []))) d (mk (dset ((ps.take i).foldl (fun es p => dset es p.1 p.2) []) p.1 p.2))) := evo_set _ (upd_self _ _ _) (hnf _) hs''.extBut
    rw [upd_upd] at ev
    exact ev.keep
noncomputable def pDict {K : Type} [DecidableEq K] (mk : List (K × MV) → MObj) (key : K → MV) (good : K → Prop) : List MV → W0 := fun ds μ Q => ∃ (d : MV) (ps : List (K × MV)) (need : MHeap → Prop), ds = [d] ∧ notTup d ∧ srcOf μ d = some (ps.map (fun p => .tup [key p.1, p.2]), need) ∧ (∀ p ∈ ps, good p.1) ∧ ps.length ≤ 900000 ∧ pNew (mk (ps.foldl (fun es p => dset es p.1 p.2) [])) μ Q
theorem src_upd {μ : MHeap} {d : MV} {l : List MV} {need : MHeap → Prop} {x : Addr} {o : MObj} (hf : μ x = none) (hs : srcOf μ d = some (l, need)) : srcOf (upd μ x o) d = some (l, need) := by
  cases d with
  | ref a =>
    have hne : a ≠ x := by
      rintro rfl
      simp [srcOf, hf] at hs
    simp only [srcOf] at hs ⊢
    rw [upd_ne _ _ hne]; exact hs
  | _ => exact hs
theorem src_need {μ : MHeap} {d : MV} {l : List MV} {need : MHeap → Prop} {x : Addr} {o : MObj} (hf : μ x = none) (hs : srcOf μ d = some (l, need)) : need (upd μ x o) := by
  cases d with
  | ref a =>
    have hne : a ≠ x := by
      rintro rfl
      simp [srcOf, hf] at hs
    simp only [srcOf] at hs
    split at hs
    · rename_i l hm
      cases hs
      exact (upd_ne _ _ hne).trans hm
    · cases hs
  | tup l => cases hs; trivial
  | flist l => cases hs; trivial
  | _ => cases hs
theorem src_seq {μ : MHeap} {d : MV} {l : List MV} {need : MHeap → Prop} (hs : srcOf μ d = some (l, need)) : seqOf μ d = some l := by
  cases d with
  | ref a =>
    simp only [srcOf] at hs
    split at hs
    · rename_i l hm
      cases hs
      simp [seqOf, hm]
    · cases hs
  | tup l => cases hs; rfl
  | flist l => cases hs; rfl
  | _ => cases hs
theorem op_dict {K : Type} [DecidableEq K] {mk : List (K × MV) → MObj} {key : K → MV} {good : K → Prop} (hset : SetStep c mk key good) (hnf : ∀ es, ¬ fixed (some (mk es))) (hnew : ∀ h μ a, h.get? a = some { cls := .type "dict", data := .dict #[] } → MuRep prog w h μ a (mk [])) {j : Nat} :
    OpN c j (fun vs => call (.type "dict") vs) (pDict mk key good) := by
  intro A s μ vs ds Q rm x r hz8
  refine el3_6 hz8 fun d ps need eqz9 hnt hs hg hz h => ?_
  subst eqz9
  cases r with | cons r r' => cases r' with | nil =>
  rename_i v
  refine callType_codes (Q₁ := fun obj s₁ => obj = .ref s.heap.objs.size ∧ s₁ = { s with heap := s.heap.push { cls := .type "dict", data := .dict #[] } }) F.kt_called_dict (F.kt_typeCall_dict_1 _) F.entry_dict_init (kt_code_dict_new _ ⟨rfl, rfl⟩) ?_
  rintro obj s₁ ⟨rfl, rfl⟩
  have hk : ∀ b o, s.heap.get? b = some o → (s.heap.push { cls := .type "dict", data := .dict #[] }).get? b = some o := fun b o e => Heap.get?_push_of_some _ e
  have hT : Shared.TypeIs { s with heap := s.heap.push { cls := .type "dict", data := .dict #[] } } (.ref s.heap.objs.size) "dict" := ⟨_, Heap.get?_push_size _ rfl, rfl⟩
  have ev1 : Evo0 s.heap μ (s.heap.push { cls := .type "dict", data := .dict #[] }) (upd μ s.heap.objs.size (mk [])) := keep_new _ (Heap.get?_none_of_le (Nat.le_refl _)) hk
  have x1 : S0 c (upd μ s.heap.objs.size (mk [])) { s with heap := s.heap.push { cls := .type "dict", data := .dict #[] } } := x.new (t := s.toks) (Nat.le_refl _) hk (hnew _ _ _ (Heap.get?_push_size _ rfl))
  have r1 := r.mono ev1.keep
  have hf : μ s.heap.objs.size = none := x.fresh (Nat.le_refl _)
  have hs1 : srcOf (upd μ s.heap.objs.size (mk [])) d = some (ps.map (fun p => .tup [key p.1, p.2]), need) := src_upd hf hs
  have hneed : ∀ es, need (upd μ s.heap.objs.size (mk es)) := fun es => src_need hf hs
  have hseq : seqOf μ d = some (ps.map fun p => .tup [key p.1, p.2]) := src_seq hs
  refine el4_5 (seq_at x r hseq) fun a its n T eqz11 hT' ho rs ht => ?_
  subst eqz11
  rcases hT' with ⟨rfl, rfl⟩ | rfl
  · rw [ht rfl] at hnt; exact hnt.elim
  refine ⟨hT, PySem.F.args_dict_init_2 _ _, ?_⟩
  unfold Builtin.«dict.__init__»
  refine wpAny_bind ?_
  unfold Builtin.Dict.selfAndRest
  refine wpAny_bind (wpAny_notOrdered_dict hT ?_)
  show wpAny _ _ (pure (s.heap.objs.size, [Value.ref a])) _ _ _
  refine wpAny_pure ?_
  show wpAny _ _ (Builtin.Dict.updateFrom "dict.__init__" s.heap.objs.size (.ref a) [] .none) _ _ _
  unfold Builtin.Dict.updateFrom
  refine wpAny_bind (wpAny_typeOf (T := "list") ⟨_, hk _ _ ho, rfl⟩ ?_)
  rw [if_pos (by decide)]
  refine wpAny_bind (m := getAttr? (.ref a) "keys") (getAttr?_keys (s := { s with heap := s.heap.push { cls := .type "dict", data := .dict #[] } }) (hk _ _ ho) rm.hand fun h' tk hk' => ?_)
  rw [if_pos (show (none : Option Value).isNone = true from rfl)]
  refine wpAny_bind (wpAny_rule ?_)
  have x2 : S0 c (upd μ s.heap.objs.size (mk [])) { s with heap := h', toks := tk } := x1.keeps hk'
  have r2 := r1.mono (Evo0.of_keeps hk').keep
  refine wpAny_bind (iter_src x2 r2 hs1 fun o ok At it a0 k0 n0 => ?_)
  have hk3 : ∀ b p, h'.get? b = some p → (h'.push o).get? b = some p := fun b p e => Heap.get?_push_of_some _ e
  have x3 : S0 c (upd μ s.heap.objs.size (mk [])) { s with heap := h'.push o, toks := tk } := x2.keeps hk3
  have hd' : s.heap.objs.size < h'.objs.size := Heap.lt_size (hk' _ _ (Heap.get?_push_size _ rfl))
  have hlow : ∀ b p, s.heap.get? b = some p → b < s.heap.objs.size := fun b p e => Heap.lt_size e
  refine wpAny_pure ⟨plainId_quiet plain_dul _, ?_⟩
  refine pairs_loop (d := s.heap.objs.size) (I := h'.objs.size) (h₀ := s.heap) (μ₀ := μ) hset hnf it hneed hg hz (Heap.get?_none_of_le (Nat.le_refl _)) (Heap.get?_none_of_le (Nat.le_of_lt hd')) (Nat.ne_of_lt hd') (x2.newB (Nat.le_refl _)) (x.fresh (Nat.le_of_lt hd')) (A := A.in1) rm.hand (by have := rm.units; show A.units + 1 ≤ 9400; lia) ?_ ps 0 _ rfl (Nat.zero_le _) x3 a0 k0 (Nat.le_refl _) (fun b p e m => hk3 _ _ (hk' _ _ (hk _ _ e))) 0
  intro s' X' ev'
  refine ⟨rfl, .ref s.heap.objs.size, _, .ref _, X', fun b p e m => ⟨ev' b p e m, ?_⟩, h _ hf⟩
  rw [upd_ne _ _ (Nat.ne_of_lt (hlow b p e))]
end
end Mine
namespace Mine
noncomputable def kev {α : Type} (r : Nat → Int) : KasT α → α
  | .ret a => a
  | .ask i j k => kev r (k (decide (r i < r j)))
theorem kev_bind {α β : Type} (r : Nat → Int) (f : α → KasT β) : ∀ t : KasT α, kev r (t.bind f) = kev r (f (kev r t))
  | .ret _ => rfl
  | .ask i j k => kev_bind r f (k (decide (r i < r j)))
noncomputable def asksLt {α : Type} (n : Nat) (ok : α → Prop) : KasT α → Prop
  | .ret a => ok a
  | .ask i j k => i < n ∧ j < n ∧ ∀ b, asksLt n ok (k b)
theorem asksLt_bind {α β : Type} {n : Nat} {ok : α → Prop} {ok' : β → Prop} {f : α → KasT β} (hf : ∀ a, ok a → asksLt n ok' (f a)) : ∀ t : KasT α, asksLt n ok t → asksLt n ok' (t.bind f)
  | .ret a, h => hf a h
  | .ask i j k, h => ⟨h.1, h.2.1, fun b => asksLt_bind hf (k b) (h.2.2 b)⟩
theorem kasWp_kev {α : Type} {cmp : Nat → Nat → (Bool → Shared → Prop) → Shared → Prop} {n : Nat} {r : Nat → Int} {ok : α → Prop} {Q : α → Shared → Prop} {s : Shared} (hc : ∀ i j C, i < n → j < n → C (decide (r i < r j)) s → cmp i j C s) :
    ∀ t : KasT α, asksLt n ok t → Q (kev r t) s → t.kasWp cmp Q s
  | .ret a, _, h => h
  | .ask i j k, a, h => hc i j _ a.1 a.2.1 (kasWp_kev hc (k _) (a.2.2 _) h)
theorem getD_q (zs : Array Nat) (k : Nat) : zs.getD k 0 = (zs[k]?).getD 0 := by
  by_cases hk : k < zs.size <;> simp [Array.getD, hk]
noncomputable def Below (n : Nat) (p : Array Nat) : Prop := ∀ i, p.getD i 0 < n
theorem Below.perm {n : Nat} (hn : 0 < n) {p q : Array Nat} (h : Below n p) (hp : q.Perm p) : Below n q := fun i => by
  rw [getD_q]
  by_cases hi : i < q.size
  · have hm : q[i] ∈ p := hp.mem_iff.mp (Array.getElem_mem hi)
    obtain ⟨j, hj, e⟩ := Array.mem_iff_getElem.mp hm
    have := h j
    rw [getD_q, Array.getElem?_eq_getElem hj, e] at this
    rw [Array.getElem?_eq_getElem hi]; exact this
  · rw [Array.getElem?_eq_none (by lia)]; exact hn
theorem rev_perm (p : Array Nat) (i j : Nat) : (kas_rev p i j).Perm p := mirror_perm _ _ _ _
noncomputable def Kr (r : Nat → Int) (p : Array Nat) (i : Nat) : Int := r (p.getD i 0)
theorem Kr_congr {r : Nat → Int} {xs ys : Array Nat} {i j : Nat} (h : xs[i]? = ys[j]?) : Kr r xs i = Kr r ys j := by
  unfold Kr; rw [getD_q, getD_q, h]
theorem Kr_bubble {r : Nat → Int} {p : Array Nat} {src d : Nat} (hs : src < p.size) (hd : d ≤ src) (k : Nat) :
    Kr r (bubble p src d) k = if k = src - d then Kr r p src else if src - d < k ∧ k ≤ src then Kr r p (k - 1) else Kr r p k := by
  have e := getElem?_bubble hs d hd k
  by_cases h1 : k = src - d
  · rw [if_pos h1] at e ⊢; exact Kr_congr e
  · rw [if_neg h1] at e ⊢
    by_cases h2 : src - d < k ∧ k ≤ src
    · rw [if_pos h2] at e ⊢; exact Kr_congr e
    · rw [if_neg h2] at e ⊢; exact Kr_congr e
theorem Kr_rev {r : Nat → Int} {p : Array Nat} {i j : Nat} (hj : j ≤ p.size) (k : Nat) : Kr r (kas_rev p i j) k = if i ≤ k ∧ k < j then Kr r p (i + j - 1 - k) else Kr r p k := by
  have e := getElem?_mirror_all (i := i) hj k
  unfold kas_rev
  by_cases h1 : i ≤ k ∧ k < j
  · rw [if_pos h1] at e ⊢; exact Kr_congr e
  · rw [if_neg h1] at e ⊢; exact Kr_congr e
noncomputable def Up (r : Nat → Int) (p : Array Nat) (k : Nat) : Prop := ∀ i j, i ≤ j → j < k → Kr r p i ≤ Kr r p j
noncomputable def Down (r : Nat → Int) (p : Array Nat) (k : Nat) : Prop := ∀ i j, i ≤ j → j < k → Kr r p j ≤ Kr r p i
theorem Up.succ {r : Nat → Int} {p : Array Nat} {k : Nat} (h : Up r p (k + 1)) (h2 : Kr r p k ≤ Kr r p (k + 1)) : Up r p (k + 2) := fun i j hij hj => by
  rcases Nat.lt_or_ge j (k + 1) with q | q
  · exact h i j hij q
  · have : j = k + 1 := by lia
    subst this
    rcases Nat.lt_or_ge i (k + 1) with z | z
    · exact Int.le_trans (h i k (by lia) (by lia)) h2
    · have : i = k + 1 := by lia
      subst this; exact Int.le_refl _
theorem Down.succ {r : Nat → Int} {p : Array Nat} {k : Nat} (h : Down r p (k + 1)) (h2 : Kr r p (k + 1) ≤ Kr r p k) : Down r p (k + 2) := fun i j hij hj => by
  rcases Nat.lt_or_ge j (k + 1) with q | q
  · exact h i j hij q
  · have : j = k + 1 := by lia
    subst this
    rcases Nat.lt_or_ge i (k + 1) with z | z
    · exact Int.le_trans h2 (h i k (by lia) (by lia))
    · have : i = k + 1 := by lia
      subst this; exact Int.le_refl _
theorem asc_ok {n0 : Nat} {p : Array Nat} (hb : Below n0 p) : ∀ f n, asksLt n0 (fun _ => True) (kas_asc p f n)
  | 0, n => trivial
  | f + 1, n => ⟨hb _, hb _, fun b => by cases b <;> simp only [Bool.false_eq_true, if_false, if_true] <;> first | exact asc_ok hb f (n + 1) | trivial⟩
theorem asc_ev {r : Nat → Int} {p : Array Nat} : ∀ f n, 1 ≤ n → Up r p n → n ≤ kev r (kas_asc p f n) ∧ kev r (kas_asc p f n) ≤ n + f ∧ Up r p (kev r (kas_asc p f n)) ∧ (kev r (kas_asc p f n) < n + f → Kr r p (kev r (kas_asc p f n)) < Kr r p (kev r (kas_asc p f n) - 1))
  | 0, n, h1, hu => ⟨Nat.le_refl _, Nat.le_refl _, hu, fun h => absurd h (Nat.lt_irrefl _)⟩
  | f + 1, n, h1, hu => by
    have e : kev r (kas_asc p (f + 1) n) = kev r (if decide (Kr r p n < Kr r p (n - 1)) = true then KasT.ret n else kas_asc p f (n + 1)) := rfl
    rw [e]
    by_cases q : Kr r p n < Kr r p (n - 1)
    · rw [if_pos (by simpa using q)]
      exact ⟨Nat.le_refl _, by show n ≤ n + (f + 1); lia, hu, fun _ => q⟩
    · rw [if_neg (by simpa using q)]
      obtain ⟨m, rfl⟩ : ∃ m, n = m + 1 := ⟨n - 1, by lia⟩
      refine el0_4 (asc_ev (r := r) (p := p) f (m + 2) (by lia) (hu.succ (by simpa using Int.not_lt.mp q))) fun a1 a2 a3 a4 => ?_
      exact ⟨Nat.le_trans (by lia) a1, Nat.le_trans a2 (by lia), a3, fun h => a4 (Nat.lt_of_lt_of_le h (by lia))⟩
noncomputable def Flat (r : Nat → Int) (p : Array Nat) (n q : Nat) : Prop := ∀ k, n - (q + 1) ≤ k → k < n → Kr r p k = Kr r p (n - 1)
theorem flat0 (r : Nat → Int) (p : Array Nat) (n : Nat) : Flat r p n 0 := fun k h1 h2 => by
  have : k = n - 1 := by lia
  rw [this]
theorem rev_flat {r : Nat → Int} {p : Array Nat} {n q : Nat} (hn : n ≤ p.size) (hq : q < n) (h : Flat r p n q) (k : Nat) : Kr r (kas_rev p (n - (q + 1)) n) k = Kr r p k := by
  rw [Kr_rev hn]
  split
  · rename_i hk
    rw [h k hk.1 hk.2, h _ (by lia) (by lia)]
  · rfl
theorem desc_ok {n0 : Nat} (h0 : 0 < n0) : ∀ f (p : Array Nat) n q, Below n0 p → asksLt n0 (fun x => Below n0 x.1) (kas_desc f p n q)
  | 0, p, n, q, hb => hb
  | f + 1, p, n, q, hb => ⟨hb _, hb _, fun b => by
      cases b with
      | true =>
        simp only [if_true]
        split
        · exact desc_ok h0 f _ _ _ (hb.perm h0 (rev_perm _ _ _))
        · exact desc_ok h0 f _ _ _ hb
      | false =>
        simp only [Bool.false_eq_true, if_false]
        exact ⟨hb _, hb _, fun d => by cases d <;> simp only [Bool.false_eq_true, if_false, if_true] <;> first | exact desc_ok h0 f _ _ _ hb | exact hb⟩⟩
theorem desc_ev {r : Nat → Int} : ∀ f (p : Array Nat) n q, 1 ≤ n → q < n → n + f ≤ p.size → Down r p n → Flat r p n q →
    ∃ p' n' q', kev r (kas_desc f p n q) = (p', n', q') ∧ p'.Perm p ∧ n ≤ n' ∧ n' ≤ n + f ∧ q' < n' ∧ Down r p' n' ∧ Flat r p' n' q'
  | 0, p, n, q, h1, hq, hs, hd, hf => ⟨p, n, q, rfl, Array.Perm.refl _, Nat.le_refl _, Nat.le_refl _, hq, hd, hf⟩
  | f + 1, p, n, q, h1, hq, hs, hd, hf => by
    have e : kev r (kas_desc (f + 1) p n q) = kev r (if decide (Kr r p n < Kr r p (n - 1)) = true then (if q > 0 then kas_desc f (kas_rev p (n - (q + 1)) n) (n + 1) 0 else kas_desc f p (n + 1) 0)
      else .ask (p.getD (n - 1) 0) (p.getD n 0) fun d => if d = true then .ret (p, n, q) else kas_desc f p (n + 1) (q + 1)) := rfl
    rw [e]
    obtain ⟨m, rfl⟩ : ∃ m, n = m + 1 := ⟨n - 1, by lia⟩
    simp only [Nat.add_sub_cancel] at *
    by_cases hlt : Kr r p (m + 1) < Kr r p m
    · rw [if_pos (by simpa using hlt)]
      by_cases hq0 : q > 0
      · rw [if_pos hq0]
        have hsame := rev_flat (r := r) (p := p) (n := m + 1) (q := q) (by lia) hq hf
        have hd' : Down r (kas_rev p (m + 1 - (q + 1)) (m + 1)) (m + 2) := by
          have := hd.succ (Int.le_of_lt hlt)
          intro i j hij hj
          rw [hsame, hsame]; exact this i j hij hj
        have hsz : (kas_rev p (m + 1 - (q + 1)) (m + 1)).size = p.size := (rev_perm _ _ _).size_eq
        refine el3_7 (desc_ev (r := r) f (kas_rev p (m + 1 - (q + 1)) (m + 1)) (m + 2) 0 (by lia) (by lia) (by lia) hd' (flat0 _ _ _)) fun p' n' q' e1 e2 e3 e4 e5 e6 e7 => ?_
        exact ⟨p', n', q', e1, e2.trans (rev_perm _ _ _), by lia, by lia, e5, e6, e7⟩
      · rw [if_neg hq0]
        refine el3_7 (desc_ev (r := r) f p (m + 2) 0 (by lia) (by lia) (by lia) (hd.succ (Int.le_of_lt hlt)) (flat0 _ _ _)) fun p' n' q' e1 e2 e3 e4 e5 e6 e7 => ?_
        exact ⟨p', n', q', e1, e2, by lia, by lia, e5, e6, e7⟩
    · rw [if_neg (by simpa using hlt)]
      have e2 : kev r (KasT.ask (p.getD m 0) (p.getD (m + 1) 0) fun d => if d = true then .ret (p, m + 1, q) else kas_desc f p (m + 1 + 1) (q + 1)) = kev r (if decide (Kr r p m < Kr r p (m + 1)) = true then .ret (p, m + 1, q) else kas_desc f p (m + 1 + 1) (q + 1)) := rfl
      rw [e2]
      by_cases hgt : Kr r p m < Kr r p (m + 1)
      · rw [if_pos (by simpa using hgt)]
        exact ⟨p, m + 1, q, rfl, Array.Perm.refl _, Nat.le_refl _, by lia, hq, hd, hf⟩
      · rw [if_neg (by simpa using hgt)]
        have heq : Kr r p (m + 1) = Kr r p m := by lia
        obtain ⟨p', n', q', e1, e2, e3, e4, e5, e6, e7⟩ := desc_ev (r := r) f p (m + 2) (q + 1) (by lia) (by lia) (by lia) (hd.succ (by lia)) (fun k h1 h2 => by
          by_cases hk : k = m + 1
          · subst hk; rfl
          · show Kr r p k = Kr r p (m + 1)
            rw [heq]; exact hf k (by lia) (by lia))
        exact ⟨p', n', q', e1, e2, by lia, by lia, e5, e6, e7⟩
noncomputable def RunEnd (r : Nat → Int) (nrem : Nat) (p : Array Nat) (x : Nat × Array Nat) : Prop := 1 ≤ x.1 ∧ x.1 ≤ nrem ∧ x.2.Perm p ∧ Up r x.2 x.1
theorem tail3_ok {n0 : Nat} (h0 : 0 < n0) {p : Array Nat} (hb : Below n0 p) (n nrem : Nat) : asksLt n0 (fun x => Below n0 x.2) (kas_tail3 n nrem p) := by
  refine asksLt_bind (ok := fun _ => True) (fun m _ => ?_) _ (asc_ok (hb.perm h0 (rev_perm _ _ _)) _ _)
  exact hb.perm h0 (rev_perm _ _ _)
theorem rev_up {r : Nat → Int} {p : Array Nat} {n : Nat} (hn : n ≤ p.size) (h : Down r p n) : Up r (kas_rev p 0 n) n := fun i j hij hj => by
  rw [Kr_rev hn, Kr_rev hn, if_pos ⟨Nat.zero_le _, by lia⟩, if_pos ⟨Nat.zero_le _, hj⟩]
  exact h _ _ (by lia) (by lia)
theorem tail3_ev {r : Nat → Int} {p : Array Nat} {n nrem : Nat} (h1 : 1 ≤ n) (hn : n ≤ nrem) (hs : nrem ≤ p.size) (h : Down r p n) : RunEnd r nrem p (kev r (kas_tail3 n nrem p)) := by
  unfold kas_tail3
  rw [kev_bind]
  refine el0_4 (asc_ev (r := r) (p := kas_rev p 0 n) (nrem - n) n h1 (rev_up (by lia) h)) fun a1 a2 a3 _ => ?_
  exact ⟨Nat.le_trans h1 a1, Nat.le_trans a2 (by lia), rev_perm _ _ _, a3⟩
theorem descPart_ok {n0 : Nat} (h0 : 0 < n0) {p : Array Nat} (hb : Below n0 p) (n nrem : Nat) : asksLt n0 (fun x => Below n0 x.2) (kas_descPart n nrem p) := by
  refine asksLt_bind (fun x hx => ?_) _ (desc_ok h0 _ _ _ _ hb)
  (try dsimp only)
  split
  · exact tail3_ok h0 (hx.perm h0 (rev_perm _ _ _)) _ _
  · exact tail3_ok h0 hx _ _
theorem RunEnd.perm {r : Nat → Int} {nrem : Nat} {p q : Array Nat} {x : Nat × Array Nat} (h : RunEnd r nrem p x) (hp : p.Perm q) : RunEnd r nrem q x := ⟨h.1, h.2.1, h.2.2.1.trans hp, h.2.2.2⟩
theorem descPart_ev {r : Nat → Int} {p : Array Nat} {n nrem : Nat} (hn : n + 1 ≤ nrem) (hs : nrem ≤ p.size) (h : Down r p (n + 1)) : RunEnd r nrem p (kev r (kas_descPart n nrem p)) := by
  unfold kas_descPart
  rw [kev_bind]
  refine el3_7 (desc_ev (r := r) (nrem - (n + 1)) p (n + 1) 0 (by lia) (by lia) (by lia) h (flat0 _ _ _)) fun p' n' q' e1 e2 e3 e4 e5 e6 e7 => ?_
  rw [e1]
  (try dsimp only)
  have hsz := e2.size_eq
  split
  · have hsame := rev_flat (r := r) (p := p') (n := n') (q := q') (by lia) e5 e7
    have hsz2 : (kas_rev p' (n' - (q' + 1)) n').size = p'.size := (rev_perm _ _ _).size_eq
    refine (tail3_ev (by lia) (by lia) (by lia) (fun i j hij hj => ?_)).perm ((rev_perm _ _ _).trans e2)
    rw [hsame, hsame]; exact e6 i j hij hj
  · exact (tail3_ev (by lia) (by lia) (by lia) e6).perm e2
theorem count_ok {n0 : Nat} (h0 : 0 < n0) {p : Array Nat} (hb : Below n0 p) (nrem : Nat) : asksLt n0 (fun x => Below n0 x.2) (kas_count nrem p) := by
  refine asksLt_bind (fun n _ => ?_) _ (asc_ok hb _ _)
  (try dsimp only)
  split
  · exact hb
  · split
    · exact ⟨hb _, hb _, fun b => by
        cases b
        · simp only [Bool.false_eq_true, if_false]; exact descPart_ok h0 (hb.perm h0 (rev_perm _ _ _)) _ _
        · simp only [if_true]; exact hb⟩
    · exact descPart_ok h0 hb _ _
theorem count_ev {r : Nat → Int} {p : Array Nat} {nrem : Nat} (h1 : 1 ≤ nrem) (hs : nrem ≤ p.size) : RunEnd r nrem p (kev r (kas_count nrem p)) := by
  unfold kas_count
  rw [kev_bind]
  have hu : Up r p 1 := fun i j hij hj => by
    have h1 : i = 0 := by lia
    have h2 : j = 0 := by lia
    rw [h1, h2]; exact Int.le_refl _
  refine el0_4 (asc_ev (r := r) (p := p) (nrem - 1) 1 (Nat.le_refl _) hu) fun a1 a2 a3 a4 => ?_
  generalize kev r (kas_asc p (nrem - 1) 1) = n at a1 a2 a3 a4
  (try dsimp only)
  split
  · exact ⟨a1, by show n ≤ nrem; lia, Array.Perm.refl _, a3⟩
  · rename_i hne
    have hne' : n ≠ nrem := by simpa using hne
    have hlt := a4 (by lia)
    split
    · rename_i hn1
      have e : kev r (KasT.ask (p.getD 0 0) (p.getD (n - 1) 0) fun c => if c = true then KasT.ret (n, p) else kas_descPart n nrem (kas_rev p 0 n)) = kev r (if decide (Kr r p 0 < Kr r p (n - 1)) = true then KasT.ret (n, p) else kas_descPart n nrem (kas_rev p 0 n)) := rfl
      rw [e]
      by_cases q : Kr r p 0 < Kr r p (n - 1)
      · rw [if_pos (by simpa using q)]
        exact ⟨a1, by show n ≤ nrem; lia, Array.Perm.refl _, a3⟩
      · rw [if_neg (by simpa using q)]
        have hall : ∀ k, k < n → Kr r p k = Kr r p 0 := fun k hk => by
          have b1 := a3 0 k (Nat.zero_le _) hk
          have b2 := a3 k (n - 1) (by lia) (by lia)
          lia
        have hsz : (kas_rev p 0 n).size = p.size := (rev_perm _ _ _).size_eq
        have hK : ∀ k, Kr r (kas_rev p 0 n) k = Kr r p k := fun k => by
          rw [Kr_rev (by lia)]
          split
          · rename_i hk; rw [hall _ (by lia), hall _ hk.2]
          · rfl
        refine (descPart_ev (by lia) (by lia) (fun i j hij hj => ?_)).perm (rev_perm _ _ _)
        rw [hK, hK]
        rcases Nat.lt_or_ge j n with z | z
        · rw [hall j z, hall i (by lia)]; exact Int.le_refl _
        · have hj' : j = n := by lia
          subst hj'
          rcases Nat.lt_or_ge i j with y | y
          · rw [hall i y]
            rw [hall (j - 1) (by lia)] at hlt
            lia
          · have : i = j := by lia
            subst this; exact Int.le_refl _
    · rename_i hn1
      have hn : n = 1 := by lia
      subst hn
      refine descPart_ev (by lia) hs (fun i j hij hj => ?_)
      rcases Nat.lt_or_ge j 1 with z | z
      · have h1 : i = 0 := by lia
        have h2 : j = 0 := by lia
        rw [h1, h2]; exact Int.le_refl _
      · have hj' : j = 1 := by lia
        subst hj'
        rcases Nat.lt_or_ge i 1 with y | y
        · have : i = 0 := by lia
          subst this
          exact Int.le_of_lt hlt
        · have : i = 1 := by lia
          subst this; exact Int.le_refl _
theorem place_ok {n0 : Nat} {p : Array Nat} (hb : Below n0 p) (k : Nat) : ∀ f l u, asksLt n0 (fun _ => True) (kas_place p k f l u)
  | 0, l, u => trivial
  | f + 1, l, u => by
    unfold kas_place
    split
    · trivial
    · exact ⟨hb _, hb _, fun b => by cases b <;> simp only [Bool.false_eq_true, if_false, if_true] <;> exact place_ok hb k f _ _⟩
theorem place_ev {r : Nat → Int} {p : Array Nat} {k : Nat} (hu : Up r p k) : ∀ f l u, u - l ≤ f → l ≤ u → u ≤ k → (∀ i, i < l → Kr r p i ≤ Kr r p k) → (∀ i, u ≤ i → i < k → Kr r p k < Kr r p i) →
    kev r (kas_place p k f l u) ≤ k ∧ (∀ i, i < kev r (kas_place p k f l u) → Kr r p i ≤ Kr r p k) ∧ (∀ i, kev r (kas_place p k f l u) ≤ i → i < k → Kr r p k < Kr r p i)
  | 0, l, u, hf, hl, hk, h1, h2 => by
    have : l = u := by lia
    subst this
    exact ⟨hk, h1, h2⟩
  | f + 1, l, u, hf, hl, hk, h1, h2 => by
    have e : kev r (kas_place p k (f + 1) l u) = if l ≥ u then l else kev r (if decide (Kr r p k < Kr r p ((l + u) / 2)) = true then kas_place p k f l ((l + u) / 2) else kas_place p k f ((l + u) / 2 + 1) u) := by
      show kev r (if l ≥ u then KasT.ret l else KasT.ask (p.getD k 0) (p.getD ((l + u) / 2) 0) fun c => if c = true then kas_place p k f l ((l + u) / 2) else kas_place p k f ((l + u) / 2 + 1) u) = _
      split <;> rfl
    rw [e]
    by_cases hlu : l ≥ u
    · rw [if_pos hlu]
      have : l = u := by lia
      subst this
      exact ⟨hk, h1, h2⟩
    · rw [if_neg hlu]
      have hm1 : l ≤ (l + u) / 2 := by lia
      have hm2 : (l + u) / 2 < u := by lia
      by_cases q : Kr r p k < Kr r p ((l + u) / 2)
      · rw [if_pos (by simpa using q)]
        exact place_ev hu f l ((l + u) / 2) (by lia) hm1 (by lia) h1 (fun i hi hik => Int.lt_of_lt_of_le q (hu _ _ hi hik))
      · rw [if_neg (by simpa using q)]
        exact place_ev hu f ((l + u) / 2 + 1) u (by lia) (by lia) hk (fun i hi => Int.le_trans (hu i ((l + u) / 2) (by lia) (by lia)) (Int.not_lt.mp q)) h2
theorem bin_ok {n0 : Nat} (h0 : 0 < n0) : ∀ f (p : Array Nat) k, Below n0 p → asksLt n0 (fun p => Below n0 p) (kas_bin f p k)
  | 0, p, k, hb => hb
  | f + 1, p, k, hb => asksLt_bind (fun l _ => bin_ok h0 f _ _ (hb.perm h0 (bubble_perm _ _ _))) _ (place_ok hb k _ _ _)
theorem bin_ev {r : Nat → Int} : ∀ f (p : Array Nat) k, k + f ≤ p.size → Up r p k → (kev r (kas_bin f p k)).Perm p ∧ Up r (kev r (kas_bin f p k)) (k + f)
  | 0, p, k, hs, hu => ⟨Array.Perm.refl _, hu⟩
  | f + 1, p, k, hs, hu => by
    have e : kev r (kas_bin (f + 1) p k) = kev r (kas_bin f (bubble p k (k - kev r (kas_place p k k 0 k))) (k + 1)) := by
      show kev r ((kas_place p k k 0 k).bind fun l => kas_bin f (bubble p k (k - l)) (k + 1)) = _
      rw [kev_bind]
    rw [e]
    refine el0_3 (place_ev hu k 0 k (by lia) (Nat.zero_le _) (Nat.le_refl _) (fun i hi => absurd hi (Nat.not_lt_zero _)) (fun i hi hik => absurd hik (by lia))) fun c1 c2 c3 => ?_
    generalize kev r (kas_place p k k 0 k) = l at c1 c2 c3
    have hb := Kr_bubble (r := r) (p := p) (src := k) (d := k - l) (by lia) (by lia)
    have hu' : Up r (bubble p k (k - l)) (k + 1) := fun i j hij hj => by
      rw [hb, hb]
      have e0 : k - (k - l) = l := by lia
      rw [e0]
      by_cases i1 : i = l <;> by_cases j1 : j = l
      · rw [if_pos i1, if_pos j1]; exact Int.le_refl _
      · rw [if_pos i1, if_neg j1, if_pos (by lia)]
        exact Int.le_of_lt (c3 _ (by lia) (by lia))
      · rw [if_neg i1, if_pos j1, if_neg (by lia)]
        exact c2 _ (by lia)
      · rw [if_neg i1, if_neg j1]
        by_cases i2 : l < i ∧ i ≤ k <;> by_cases j2 : l < j ∧ j ≤ k
        · rw [if_pos i2, if_pos j2]; exact hu _ _ (by lia) (by lia)
        · exfalso; lia
        · rw [if_neg i2, if_pos j2]; exact hu _ _ (by lia) (by lia)
        · rw [if_neg i2, if_neg j2]; exact hu _ _ (by lia) (by lia)
    obtain ⟨d1, d2⟩ := bin_ev (r := r) f (bubble p k (k - l)) (k + 1) (by rw [bubble_size]; lia) hu'
    exact ⟨d1.trans (bubble_perm _ _ _), by rw [show k + (f + 1) = k + 1 + f by lia]; exact d2⟩
theorem sort_ok {n : Nat} (h : 0 < n) : asksLt n (fun p => Below n p) (kas_sort n) := by
  have hb : Below n (List.toArray (List.range n)) := fun i => by
    rw [getD_q]
    by_cases hi : i < n <;> simp [hi, h]
  refine asksLt_bind (fun x hx => ?_) _ (count_ok h hb n)
  (try dsimp only)
  split
  · exact bin_ok h _ _ _ hx
  · exact hx
theorem sort_ev {r : Nat → Int} {n : Nat} (h : 1 ≤ n) : (kev r (kas_sort n)).toList.Perm (List.range n) ∧ Up r (kev r (kas_sort n)) n := by
  have e : kev r (kas_sort n) = kev r (if (kev r (kas_count n (List.toArray (List.range n)))).1 < n then kas_bin (n - max (kev r (kas_count n (List.toArray (List.range n)))).1 1) (kev r (kas_count n (List.toArray (List.range n)))).2 (max (kev r (kas_count n (List.toArray (List.range n)))).1 1) else .ret (kev r (kas_count n (List.toArray (List.range n)))).2) := by
    unfold kas_sort; rw [kev_bind]
  rw [e]
  refine el0_4 (count_ev (r := r) (p := List.toArray (List.range n)) (nrem := n) h (by simp)) fun a1 a2 a3 a4 => ?_
  generalize kev r (kas_count n (List.toArray (List.range n))) = x at a1 a2 a3 a4
  have hm : max x.1 1 = x.1 := by lia
  have hsz : x.2.size = n := by have := a3.size_eq; simpa using this
  split
  · obtain ⟨b1, b2⟩ := bin_ev (r := r) (n - max x.1 1) x.2 (max x.1 1) (by lia) (by rw [hm]; exact a4)
    refine ⟨?_, by rw [show n = max x.1 1 + (n - max x.1 1) by lia]; simpa [show max x.1 1 + (n - max x.1 1) = n by lia] using b2⟩
    have := (b1.trans a3).toList
    simpa using this
  · have hxn : x.1 = n := by lia
    refine ⟨?_, ?_⟩
    · have := a3.toList
      show x.2.toList.Perm _
      simpa using this
    · rw [hxn] at a4; exact a4
end Mine
namespace Mine
theorem countP_lt {α : Type} {p q : α → Bool} : ∀ {l : List α}, (∀ x ∈ l, p x = true → q x = true) → (∃ x ∈ l, q x = true ∧ p x = false) → l.countP p < l.countP q
  | [], _, h => by obtain ⟨x, hx, _⟩ := h; cases hx
  | y :: l, hpq, ⟨x, hx, hq, hp⟩ => by
    rw [List.countP_cons, List.countP_cons]
    have hle : l.countP p ≤ l.countP q := List.countP_mono_left fun z hz => hpq z (List.mem_cons_of_mem _ hz)
    rcases List.mem_cons.mp hx with rfl | hx'
    · rw [hq, hp]; simp; lia
    · have ih := countP_lt (fun z hz => hpq z (List.mem_cons_of_mem _ hz)) ⟨x, hx', hq, hp⟩
      have hy := hpq y List.mem_cons_self
      by_cases e : p y = true
      · rw [e, hy e]; simp; lia
      · have e : p y = false := by simpa using e
        rw [e]
        simp only [Bool.false_eq_true, if_false]
        lia
structure Weak (n : Nat) (lt : Nat → Nat → Bool) : Prop where
  irrefl : ∀ i, i < n → lt i i = false
  trans : ∀ i j k, i < n → j < n → k < n → lt i j = true → lt j k = true → lt i k = true
  neg : ∀ i j k, i < n → j < n → k < n → lt i k = true → lt i j = true ∨ lt j k = true
noncomputable def rk (n : Nat) (lt : Nat → Nat → Bool) (i : Nat) : Int := ((List.range n).countP fun k => lt k i : Nat)
theorem rk_lt {n : Nat} {lt : Nat → Nat → Bool} (W : Weak n lt) {i j : Nat} (hi : i < n) (hj : j < n) : lt i j = decide (rk n lt i < rk n lt j) := by
  rw [Bool.eq_iff_iff, decide_eq_true_eq]
  unfold rk
  constructor
  · intro h
    have := countP_lt (p := fun k => lt k i) (q := fun k => lt k j) (l := List.range n) (fun k hk e => W.trans k i j (List.mem_range.mp hk) hi hj e h) ⟨i, List.mem_range.mpr hi, h, W.irrefl i hi⟩
    exact_mod_cast this
  · intro h
    apply Classical.byContradiction
    intro hn
    have : (List.range n).countP (fun k => lt k j) ≤ (List.range n).countP fun k => lt k i := List.countP_mono_left fun k hk e => by
      rcases W.neg k i j (List.mem_range.mp hk) hi hj e with h1 | h1
      · exact h1
      · exact absurd h1 hn
    lia
structure SortOut {α : Type} (lt : α → α → Bool) (l r : List α) : Prop where
  perm : r.Perm l
  up : r.Pairwise fun a b => lt b a = false
theorem getD_map_range {α : Type} (d : α) (l : List α) : (List.range l.length).map (fun i => l.getD i d) = l := by
  apply List.ext_getElem
  · simp
  · intro i h1 h2
    simp at h1
    simp [h1]
theorem sort_out {α : Type} {d : α} {l : List α} {lt : α → α → Bool} (h1 : 1 ≤ l.length) (W : Weak l.length fun i j => lt (l.getD i d) (l.getD j d)) :
    SortOut lt l ((kev (rk l.length fun i j => lt (l.getD i d) (l.getD j d)) (kas_sort l.length)).toList.map fun i => l.getD i d) := by
  obtain ⟨hp, hu⟩ := sort_ev (r := rk l.length fun i j => lt (l.getD i d) (l.getD j d)) h1
  generalize hq : kev (rk l.length fun i j => lt (l.getD i d) (l.getD j d)) (kas_sort l.length) = p at hp hu
  have hlen : p.size = l.length := by
    have := hp.length_eq
    simpa using this
  have hmem : ∀ i (h : i < p.size), p[i] < l.length := fun i h => by
    have : p[i] ∈ p.toList := by simp
    exact List.mem_range.mp (hp.mem_iff.mp this)
  refine ⟨?_, ?_⟩
  · have := hp.map fun i => l.getD i d
    rwa [getD_map_range] at this
  · rw [List.pairwise_map, List.pairwise_iff_getElem]
    intro i j hi hj hij
    simp only [Array.length_toList, Array.getElem_toList] at hi hj ⊢
    have hk := hu i j (Nat.le_of_lt hij) (by lia)
    have e : ∀ k (h : k < p.size), p.getD k 0 = p[k] := fun k h => by rw [getD_q, Array.getElem?_eq_getElem h]; rfl
    unfold Kr at hk
    rw [e i hi, e j hj] at hk
    have := rk_lt W (hmem j hj) (hmem i hi)
    rw [this]
    simpa using hk
section
variable {prog : Program} {w : World}
theorem listsort_raw {A : Around} {E : Value → Shared → Prop} {s : Shared} {a : Addr} {vs : List Value} {n : Nat} {κ : SortKind} {r : Nat → Int} {P : PySem.Fin → Shared → Prop} (ho : s.heap.get? a = some (seqObj "list" vs.toArray n)) (h64 : vs.length < 64)
    (hkind : 2 ≤ vs.length → ∀ h' t Q, (∀ b o, b ≠ a → s.heap.get? b = some o → h'.get? b = some o) → Q κ { s with heap := h', toks := t } → wpAny (model prog w) A (keyKind' vs.toArray) Q (fun _ _ => False) { s with heap := h', toks := t })
    (hcmp : 2 ≤ vs.length → ∀ h' t i j C, (∀ b o, b ≠ a → s.heap.get? b = some o → h'.get? b = some o) → i < vs.length → j < vs.length → C (decide (r i < r j)) { s with heap := h', toks := t } → kas_ask prog w A κ vs i j C { s with heap := h', toks := t })
    (h : ∀ h' n', h'.get? a = some (seqObj "list" ((if vs.length < 2 then vs else (kev r (kas_sort vs.length)).toList.map fun i => vs.getD i Value.none)).toArray n') → (∀ b o, b ≠ a → s.heap.get? b = some o → h'.get? b = some o) → P (.done (.ret .none)) { s with heap := h' }) :
    wpAny (model prog w) A (Builtin.«list.sort» ⟨[.ref a], []⟩) P E s := by
  rw [list_sort_plain]
  have ha : a < s.heap.objs.size := Heap.lt_size ho
  refine wpAny_bind (listItems_at ho rfl ?_)
  refine wpAny_bind (listUpdate_at ho rfl ?_ (by rw [List.size_toArray, sizeLine_eq]; lia) (Nat.zero_le _))
  obtain ⟨e1, ho1⟩ : ∃ e1, (s.heap.update a (Obj.mapSeq fun _ => #[])).get? a = some (seqObj "list" #[] e1) := ⟨_, get?_update_seq ho (fun _ => #[])⟩
  refine wpAny_bind (seqEpoch_at ho1 rfl ?_)
  refine wpAny_bind (wpAny_newTuple ?_ (by show vs.length ≤ _; rw [sizeLine_eq]; lia))
  refine wpAny_bind (wpAny_newList ?_ (Nat.zero_le _))
  refine wpAny_holding ?_
  have ho6 : (((s.heap.update a (Obj.mapSeq fun _ => #[])).push (seqObj "tuple" vs.toArray 0)).push (seqObj "list" #[] 0)).get? a = some (seqObj "list" #[] e1) :=
    Heap.get?_push_of_some _ (Heap.get?_push_of_some _ ho1)
  have hk6 : ∀ b o, b ≠ a → s.heap.get? b = some o → (((s.heap.update a (Obj.mapSeq fun _ => #[])).push (seqObj "tuple" vs.toArray 0)).push (seqObj "list" #[] 0)).get? b = some o := fun b o hb e =>
    Heap.get?_push_of_some _ (Heap.get?_push_of_some _ ((Heap.get?_update_other _ _ (Ne.symm hb)).trans e))
  show wpAny (model prog w) A _ P E { s with heap := ((s.heap.update a (Obj.mapSeq fun _ => #[])).push (seqObj "tuple" vs.toArray 0)).push (seqObj "list" #[] 0) }
  generalize ((s.heap.update a (Obj.mapSeq fun _ => #[])).push (seqObj "tuple" vs.toArray 0)).push (seqObj "list" #[] 0) = h6 at ho6 hk6
  dsimp only
  have hsz : vs.toArray.size = vs.length := by simp
  have fin : ∀ (out : List Value) (h' : Heap), h'.get? a = some (seqObj "list" #[] e1) → (∀ b o, b ≠ a → s.heap.get? b = some o → h'.get? b = some o) → out = (if vs.length < 2 then vs else (kev r (kas_sort vs.length)).toList.map fun i => vs.getD i Value.none) →
      P (.done (.ret .none)) { s with heap := h'.update a (Obj.mapSeq fun _ => out.toArray) } := fun out h' hg hk e => by
    subst e
    exact h _ _ (get?_update_seq hg fun _ => _) fun b o hb e => (Heap.get?_update_other _ _ (Ne.symm hb)).trans (hk b o hb e)
  by_cases h2 : vs.length < 2
  · rw [if_pos (by rw [hsz]; exact h2), if_pos (by rw [hsz]; exact h2)]
    refine wpAny_bind (wpAny_pure ?_)
    rw [StateT.run_pure]
    refine wpAny_bind (wpAny_pure ?_)
    dsimp only
    have e : (arrOf (SortSt.mk' general' (vs.toArray.zip vs.toArray) #[] 7 none)).map (·.2) = vs.toArray := by
      show (vs.toArray.zip vs.toArray).map (·.2) = vs.toArray
      apply Array.toList_inj.mp
      simp [List.map_snd_zip]
    rw [e]
    refine wpAny_bind (seqEpoch_at ho6 rfl ?_)
    refine wpAny_bind (listUpdate_at ho6 rfl ?_ (Nat.zero_le _) (by rw [hsz, sizeLine_eq]; lia))
    simp only [bne_self_eq_false, Bool.false_eq_true, if_false]
    exact wpAny_pure (fin vs h6 ho6 hk6 (by rw [if_pos h2]))
  · have h2' : 2 ≤ vs.length := by lia
    rw [if_neg (by rw [hsz]; exact h2), if_neg (by rw [hsz]; exact h2)]
    refine wpAny_bind (wpAny_mono (hkind h2' h6 s.toks _ hk6 ?_) (fun _ _ q => q) fun _ _ e => e.elim)
    refine wpAny_bind (wpAny_mono (kat_run (vs := vs) (ks := vs) (G := fun p s' => p = kev r (kas_sort vs.length) ∧ s' = { s with heap := h6 }) (Q := fun st' s' => ∃ p : Array Nat, p.size = vs.length ∧ arrOf st' = p.map (kas_item (vs.toArray.zip vs.toArray)) ∧ failedOf st' = none ∧ p = kev r (kas_sort vs.length) ∧ s' = { s with heap := h6 })
      rfl h2' h64 (fun p' st' s' a1 a2 a3 a4 => ⟨p', a1, a2, a3, a4⟩) (kasWp_kev (n := vs.length) (r := r) (fun i j C hi hj hC => hcmp h2' h6 s.toks i j C hk6 hi hj hC) _ (sort_ok (by lia)) ⟨rfl, rfl⟩)) ?_ fun _ _ e => e)
    rintro ⟨⟨⟩, st'⟩ s' ⟨p, hp, har, hf, rfl, rfl⟩
    dsimp only
    have hout := kat_snds (ks := vs) (vs := vs) rfl har
    rw [hout]
    have hpl : ((kev r (kas_sort vs.length)).toList.map fun i => vs.getD i Value.none).length = vs.length := by rw [List.length_map, Array.length_toList, hp]
    refine wpAny_bind (seqEpoch_at ho6 rfl ?_)
    refine wpAny_bind (listUpdate_at ho6 rfl ?_ (Nat.zero_le _) (by rw [List.size_toArray, hpl, sizeLine_eq]; lia))
    rw [hf]
    simp only [bne_self_eq_false, Bool.false_eq_true, if_false]
    exact wpAny_pure (fin _ h6 ho6 hk6 (by rw [if_neg h2]))
theorem sorted_raw {A : Around} {E : Value → Shared → Prop} {s : Shared} {v : Value} {PP : List Value → Prop} {κ : SortKind} {r : Nat → Int} {Q : Value → Shared → Prop} (h64 : ∀ vs, PP vs → vs.length < 64)
    (hcol : ∀ (A' : Around) (Q : List Value → Shared → Prop), A'.handled = A.handled → (∀ vs h' t, PP vs → (∀ b o, s.heap.get? b = some o → h'.get? b = some o) → Q vs { s with heap := h', toks := t }) → wpAny (model prog w) A' (collect v) Q E s)
    (hkind : ∀ vs, PP vs → 2 ≤ vs.length → ∀ A' h' t Q, (∀ b o, s.heap.get? b = some o → h'.get? b = some o) → Q κ { s with heap := h', toks := t } → wpAny (model prog w) A' (keyKind' vs.toArray) Q (fun _ _ => False) { s with heap := h', toks := t })
    (hcmp : ∀ vs, PP vs → 2 ≤ vs.length → ∀ A' h' t i j C, A'.units ≤ A.units + 3 → (∀ b o, s.heap.get? b = some o → h'.get? b = some o) → i < vs.length → j < vs.length → C (decide (r i < r j)) { s with heap := h', toks := t } → kas_ask prog w A' κ vs i j C { s with heap := h', toks := t })
    (h : ∀ vs (h1 h' : Heap) t n', PP vs → (∀ b o, s.heap.get? b = some o → h1.get? b = some o) → h'.get? h1.objs.size = some (seqObj "list" ((if vs.length < 2 then vs else (kev r (kas_sort vs.length)).toList.map fun i => vs.getD i Value.none)).toArray n') → (∀ b o, s.heap.get? b = some o → h'.get? b = some o) → Q (.ref h1.objs.size) { s with heap := h', toks := t }) :
    wpAny (model prog w) A (call (.builtin "sorted") [v]) Q E s := by
  refine Calls.call_function_entry kind_sorted plain_sorted entry_sorted (args_sorted1 _) ?_
  unfold Builtin.«sorted»
  refine wpAny_bind (m := checkCount "sorted" 1 1 _) (wpAny_pure ?_)
  refine wpAny_bind (hcol _ _ rfl fun vs h1 t1 hP hk1 => ?_)
  have hz := h64 vs hP
  refine wpAny_bind (wpAny_newList ?_ (by rw [sizeLine_eq]; lia))
  have hg : (h1.push (seqObj "list" vs.toArray 0)).get? h1.objs.size = some (seqObj "list" vs.toArray 0) := Heap.get?_push_size (o := seqObj "list" vs.toArray 0) _ rfl
  have hk2 : ∀ b o, s.heap.get? b = some o → (h1.push (seqObj "list" vs.toArray 0)).get? b = some o := fun b o e => Heap.get?_push_of_some _ (hk1 b o e)
  have hne : ∀ b o, s.heap.get? b = some o → b ≠ h1.objs.size := fun b o e => Nat.ne_of_lt (Heap.lt_size (hk1 b o e))
  show wpAny _ _ _ _ _ { s with heap := h1.push (seqObj "list" vs.toArray 0), toks := t1 }
  refine wpAny_bind (wpAny_holding (wpAny_call_entry slot_list_sort ⟨_, hg, rfl⟩ entry_list_sort (listsort_raw (s := { s with heap := h1.push (seqObj "list" vs.toArray 0), toks := t1 }) (r := r) (κ := κ) hg hz (fun h2 h' t Q hk q => hkind vs hP h2 _ h' t Q (fun b o e => hk b o (hne b o e) (hk2 b o e)) q)
    (fun h2 h' t i j C hk hi hj hC => hcmp vs hP h2 _ h' t i j C ?_ (fun b o e => hk b o (hne b o e) (hk2 b o e)) hi hj hC) fun h' n' hg' hk' => ⟨_, rfl, ?_⟩) (args_list_sort _)))
  · show A.units + 1 + 1 ≤ A.units + 3
    lia
  · exact wpAny_pure ⟨_, rfl, h vs h1 h' t1 n' hP hk1 hg' fun b o e => hk' b o (hne b o e) (hk2 b o e)⟩
end
end Mine
namespace Mine
open Classical
structure Ord {α : Type} (lt : α → α → Bool) : Prop where
  irrefl : ∀ a, lt a a = false
  trans : ∀ a b c, lt a b = true → lt b c = true → lt a c = true
  neg : ∀ a b c, lt a c = true → lt a b = true ∨ lt b c = true
  total : ∀ a b, lt a b = false → lt b a = false → a = b
theorem Ord.weak {α : Type} {lt : α → α → Bool} (O : Ord lt) (l : List α) (d : α) : Weak l.length fun i j => lt (l.getD i d) (l.getD j d) :=
  ⟨fun i _ => O.irrefl _, fun i j k _ _ _ => O.trans _ _ _, fun i j k _ _ _ => O.neg _ _ _⟩
noncomputable def iLt (a b : Int) : Bool := decide (a < b)
theorem ord_int : Ord iLt where
  irrefl := fun a => by simp [iLt]
  trans := fun a b c h1 h2 => by simp only [iLt, decide_eq_true_eq] at *; lia
  neg := fun a b c h => by simp only [iLt, decide_eq_true_eq] at *; lia
  total := fun a b h1 h2 => by simp only [iLt, decide_eq_false_iff_not] at *; lia
noncomputable def lexLt {α : Type} [DecidableEq α] (lt : α → α → Bool) : List α → List α → Bool
  | [], [] => false
  | [], _ :: _ => true
  | _ :: _, [] => false
  | x :: l, y :: m => if x = y then lexLt lt l m else lt x y
theorem ord_lex {α : Type} [DecidableEq α] {lt : α → α → Bool} (O : Ord lt) : Ord (lexLt lt) where
  irrefl := fun a => by
    induction a with
    | nil => rfl
    | cons x l ih => simp [lexLt, ih]
  trans := fun a => by
    induction a with
    | nil => intro b c h1 h2; cases c with
      | nil => cases b <;> simp [lexLt] at h1 h2
      | cons _ _ => rfl
    | cons x l ih =>
      intro b c h1 h2
      cases b with
      | nil => simp [lexLt] at h1
      | cons y m =>
        cases c with
        | nil => simp [lexLt] at h2
        | cons z n =>
          simp only [lexLt] at h1 h2 ⊢
          by_cases e1 : x = y <;> by_cases e2 : y = z
          · subst e1; subst e2; simp only [if_true] at *; exact ih _ _ h1 h2
          · subst e1; simp only [if_true, if_neg e2] at *; exact h2
          · subst e2; simp only [if_true, if_neg e1] at *; exact h1
          · simp only [if_neg e1, if_neg e2] at *
            have := O.trans _ _ _ h1 h2
            by_cases e3 : x = z
            · subst e3; rw [O.irrefl] at this; cases this
            · rw [if_neg e3]; exact this
  neg := fun a => by
    induction a with
    | nil => intro b c h; cases b with
      | nil => right; exact h
      | cons _ _ => left; rfl
    | cons x l ih =>
      intro b c h
      cases c with
      | nil => simp [lexLt] at h
      | cons z n =>
        cases b with
        | nil => right; rfl
        | cons y m =>
          simp only [lexLt] at h ⊢
          by_cases e : x = z
          · subst e
            simp only [if_true] at h
            by_cases e1 : x = y
            · subst e1; simp only [if_true]; exact ih _ _ h
            · rw [if_neg e1, if_neg (Ne.symm e1)]
              cases hq : lt x y with
              | true => left; rfl
              | false =>
                right
                cases hq2 : lt y x with
                | true => rfl
                | false => exact absurd (O.total _ _ hq hq2) e1
          · rw [if_neg e] at h
            rcases O.neg x y z h with h1 | h1
            · left
              by_cases e1 : x = y
              · subst e1; rw [O.irrefl] at h1; cases h1
              · rw [if_neg e1]; exact h1
            · right
              by_cases e1 : y = z
              · subst e1; rw [O.irrefl] at h1; cases h1
              · rw [if_neg e1]; exact h1
  total := fun a => by
    induction a with
    | nil => intro b h1 h2; cases b with
      | nil => rfl
      | cons _ _ => simp [lexLt] at h1
    | cons x l ih =>
      intro b h1 h2
      cases b with
      | nil => simp [lexLt] at h2
      | cons y m =>
        simp only [lexLt] at h1 h2
        by_cases e : x = y
        · subst e; simp only [if_true] at *; rw [ih _ h1 h2]
        · rw [if_neg e] at h1; rw [if_neg (Ne.symm e)] at h2
          exact absurd (O.total _ _ h1 h2) e
noncomputable def pairLt {α β : Type} [DecidableEq α] (la : α → α → Bool) (lb : β → β → Bool) (a b : α × β) : Bool := if a.1 = b.1 then lb a.2 b.2 else la a.1 b.1
theorem ord_pair {α β : Type} [DecidableEq α] {la : α → α → Bool} {lb : β → β → Bool} (A : Ord la) (B : Ord lb) : Ord (pairLt la lb) where
  irrefl := fun a => by simp [pairLt, B.irrefl]
  trans := fun a b c h1 h2 => by
    unfold pairLt at *
    by_cases e1 : a.1 = b.1 <;> by_cases e2 : b.1 = c.1
    · rw [if_pos e1] at h1; rw [if_pos e2] at h2; rw [if_pos (e1.trans e2)]; exact B.trans _ _ _ h1 h2
    · rw [if_neg e2] at h2; rw [e1, if_neg e2]; exact h2
    · rw [if_neg e1] at h1; rw [← e2, if_neg e1]; exact h1
    · rw [if_neg e1] at h1; rw [if_neg e2] at h2
      have := A.trans _ _ _ h1 h2
      by_cases e3 : a.1 = c.1
      · rw [e3, A.irrefl] at this; cases this
      · rw [if_neg e3]; exact this
  neg := fun a b c h => by
    unfold pairLt at *
    by_cases e : a.1 = c.1
    · rw [if_pos e] at h
      by_cases e1 : a.1 = b.1
      · rw [if_pos e1, if_pos (e1.symm.trans e)]; exact B.neg _ _ _ h
      · rw [if_neg e1, if_neg (fun q => e1 (e.trans q.symm))]
        cases hq : la a.1 b.1 with
        | true => left; rfl
        | false =>
          right
          cases hq2 : la b.1 c.1 with
          | true => rfl
          | false => rw [← e] at hq2; exact absurd (A.total _ _ hq hq2) e1
    · rw [if_neg e] at h
      rcases A.neg a.1 b.1 c.1 h with h1 | h1
      · left
        by_cases e1 : a.1 = b.1
        · rw [e1, A.irrefl] at h1; cases h1
        · rw [if_neg e1]; exact h1
      · right
        by_cases e1 : b.1 = c.1
        · rw [e1, A.irrefl] at h1; cases h1
        · rw [if_neg e1]; exact h1
  total := fun a b h1 h2 => by
    unfold pairLt at *
    by_cases e : a.1 = b.1
    · rw [if_pos e] at h1; rw [if_pos e.symm] at h2
      exact Prod.ext e (B.total _ _ h1 h2)
    · rw [if_neg e] at h1; rw [if_neg (Ne.symm e)] at h2
      exact absurd (A.total _ _ h1 h2) e
end Mine
end
section
open PySem PySem.W PySem.Calls PyProof.Rows PyProof PySem.MeetsSeq
namespace Mine
inductive Ints : List Value → List Int → Prop
  | nil : Ints [] []
  | cons {i : Int} {t : Tok} {vs : List Value} {is : List Int} : Ints vs is → Ints (.int i t :: vs) (i :: is)
theorem Ints.length {vs : List Value} {is : List Int} (h : Ints vs is) : vs.length = is.length := by induction h with | nil => rfl | cons _ ih => simp [ih]
theorem tuple_ltAt (l b : Addr) (items items2 : Array Value) (n n2 : Nat) (dd dd2 : Option Addr) (sl sl2 : Array (Option Value)) (is js : List Int) :
    Meets (Builtin.«tuple.__lt__» ⟨[.ref l, .ref b], []⟩)
      (fun A R s => s.heap.get? l = some { cls := .type "tuple", dict := dd, data := .seq items n, slots := sl } ∧ s.heap.get? b = some { cls := .type "tuple", dict := dd2, data := .seq items2 n2, slots := sl2 } ∧
        Ints items.toList is ∧ Ints items2.toList js ∧ R (.ok (.ret (.bool (lexLt iLt is js)))) s) :=
  .of_wp fun prog w A R s h => by
    obtain ⟨hp, g, d, tk, os⟩ := s; obtain ⟨hl, hb, hi, hj, h⟩ := h
    have f2 := AutoSeq1.sub_tuple_tuple
    wp_walk using wpAny_loadPart' hl, wpAny_loadPart' hb, wpAny_forIn_list _ (fun rest b s' => b.1 = none ∧ s' = ⟨hp, g, d, tk, os⟩ ∧ ∃ i vs ws is' js', rest = List.zip vs ws ∧ Ints vs is' ∧ Ints ws js' ∧ items.size = i + is'.length ∧ items2.size = i + js'.length ∧
      R (.ok (.ret (.bool (lexLt iLt is' js')))) ⟨hp, g, d, tk, os⟩) _
    case turn =>
      rintro ⟨y, x⟩ rest b s' ⟨hb', rfl, i, vs, ws, is', js', hz, h1, h2, h3, h4, hR⟩
      cases h1 with
      | nil => simp at hz
      | @cons p t vs is' h1 =>
      cases h2 with
      | nil => simp at hz
      | @cons q u ws js' h2 =>
      simp only [List.zip_cons_cons, List.cons.injEq, Prod.mk.injEq] at hz
      obtain ⟨⟨rfl, rfl⟩, rfl⟩ := hz
      simp only [lexLt] at hR
      refine wpAny_bind (EqGives.int p q t u prog w _ _ _ _ ?_)
      by_cases e : p = q
      · rw [if_pos e] at hR
        subst e
        simp only [beq_self_eq_true]
        wp_walk
        exact ⟨rfl, rfl, i + 1, vs, ws, is', js', rfl, h1, h2, by simp at h3; lia, by simp at h4; lia, hR⟩
      · rw [if_neg e] at hR
        rw [beq_false_of_ne e]
        simp only [Bool.not_false, if_true]
        refine wpAny_bind (wpAny_rule (wpAny_bind ?_))
        show wpAny _ _ (compareOp .Lt _ _) _ _ _
        refine P.lt_int ?_
        exact wpAny_bind (wpAny_pure (wpAny_pure (wpAny_pure ⟨_, rfl, hR⟩)))
    case fin =>
      rintro ⟨b1, b2⟩ s' ⟨hb', rfl, i, vs, ws, is', js', hz, h1, h2, h3, h4, hR⟩
      simp only at hb'
      subst hb'
      refine wpAny_pure ⟨_, rfl, ?_⟩
      have e : decide (items.size < items2.size) = lexLt iLt is' js' := by
        rw [h3, h4]
        cases h1 with
        | nil => cases h2 with
          | nil => simp [lexLt]
          | cons h2 => simp [lexLt]
        | cons h1 => cases h2 with
          | nil => simp [lexLt]
          | cons h2 => simp at hz
      rw [← e] at hR
      simpa [Builtin.Tuple.tupleCompareSizes] using hR
    case h =>
      exact ⟨rfl, rfl, 0, _, _, is, js, rfl, hi, hj, by have := hi.length; simpa using this, by have := hj.length; simpa using this, h⟩
theorem pw_short {α : Type} {R : α → α → Prop} {l : List α} (h : l.length < 2) : l.Pairwise R := by
  cases l with
  | nil => exact .nil
  | cons x l =>
    cases l with
    | nil => exact List.pairwise_singleton _ _
    | cons y l => exact absurd (Nat.le_of_lt_succ (Nat.lt_of_succ_lt_succ h)) (Nat.not_succ_le_zero _)
section
variable {prog : Program} {w : World} {c : Cx prog w} {k : Nat} {sc : List (Str × NameKind)}
theorem RepAll.isInts {h : Heap} {μ : MHeap} {vs : List Value} {is : List Int} (r : RepAll h μ vs (is.map MV.int)) : Ints vs is := by
  induction is generalizing vs with
  | nil => cases r; exact .nil
  | cons i is ih =>
    cases r with | cons r rs =>
    obtain ⟨t, rfl⟩ := r.isInt
    exact .cons (ih rs)
noncomputable def itup (is : List Int) : MV := .tup (is.map MV.int)
theorem lt_itup {A : Around} {s : Shared} {μ : MHeap} {va vb : Value} {is js : List Int} {Q : Value → Shared → Prop} {E : Value → Shared → Prop} (hu : A.units < cLine) (ra : Rep s.heap μ va (itup is)) (rb : Rep s.heap μ vb (itup js)) (h : Q (.bool (lexLt iLt is js)) s) :
    wpAny (model prog w) A (compareOp .Lt va vb) Q E s := by
  refine el2_4 (ra.isTup) fun a vs eqz1 _ ho rs => ?_
  subst eqz1
  refine el2_4 (rb.isTup) fun b ws eqz2 _ ho2 rs2 => ?_
  subst eqz2
  exact richCompare_meets_room (op := .Lt) ⟨_, ho, rfl⟩ ⟨_, ho2, rfl⟩ PySem.F.slot_tuple_lt PySem.F.entry_tuple_lt (PySem.F.args_tuple_lt_2 _ _) (tuple_ltAt a b vs.toArray ws.toArray 0 0 none none #[] #[] is js)
    ⟨ho, ho2, by simpa using rs.isInts, by simpa using rs2.isInts, show Value.bool (lexLt iLt is js) ≠ Value.notImplemented ∧ Q (.bool (lexLt iLt is js)) s from ⟨(fun x => nomatch x), h⟩⟩ hu
theorem sorted_out {α : Type} {lt : α → α → Bool} (O : Ord lt) (d : α) (emb : α → MV) {l : List α} {A : Around} {s : Shared} {μ : MHeap} {v : Value} {κ : SortKind} {Q : MV → MHeap → Prop} (x : S0 c μ s) (h64 : l.length < 64)
    (hcol : ∀ (A' : Around) (Q : List Value → Shared → Prop), A'.handled = A.handled → (∀ vs h' t, RepAll s.heap μ vs (l.map emb) → (∀ b o, s.heap.get? b = some o → h'.get? b = some o) → Q vs { s with heap := h', toks := t }) → wpAny (model prog w) A' (collect v) Q no s)
    (hkind : ∀ vs (A' : Around) (s' : Shared) (Q : SortKind → Shared → Prop), RepAll s'.heap μ vs (l.map emb) → 2 ≤ vs.length → Q κ s' → wpAny (model prog w) A' (keyKind' vs.toArray) Q (fun _ _ => False) s')
    (hcmp : ∀ a b va vb (A' : Around) (s' : Shared) (C : Bool → Shared → Prop), a ∈ l → b ∈ l → A'.units ≤ A.units + 3 → Rep s'.heap μ va (emb a) → Rep s'.heap μ vb (emb b) → C (lt a b) s' → wpAny (model prog w) A' (keyLt' κ va vb) C (fun _ _ => False) s')
    (h : ∀ r, SortOut lt l r → Q (.flist (r.map emb)) μ) : OK0 c A (call (.builtin "sorted") [v]) μ s Q := by
  have W := O.weak l d
  have get : ∀ {hh : Heap} {vs : List Value}, RepAll hh μ vs (l.map emb) → ∀ i, i < vs.length → Rep hh μ (vs.getD i Value.none) (emb (l.getD i d)) ∧ l.getD i d ∈ l := fun {hh vs} r i hi => by
    have hl : i < l.length := by have := r.length; rw [List.length_map] at this; lia
    refine el1_2 (r.get (i := i) (d := emb (l.getD i d)) (by simp [hl])) fun u hu ru => ?_
    have e1 : vs.getD i Value.none = u := by simp [hu]
    exact ⟨e1 ▸ ru, by simp [hl]⟩
  have mono : ∀ {h' : Heap} {vs : List Value}, (∀ b o, s.heap.get? b = some o → h'.get? b = some o) → RepAll s.heap μ vs (l.map emb) → RepAll h' μ vs (l.map emb) := fun hk r => r.mono (Evo0.of_keeps hk).keep
  refine sorted_raw (PP := fun vs => RepAll s.heap μ vs (l.map emb)) (κ := κ) (r := rk l.length fun i j => lt (l.getD i d) (l.getD j d)) (fun vs r => by have := r.length; rw [List.length_map] at this; lia) hcol
    (fun vs r h2 A' h' t Q hk q => hkind vs A' _ Q (mono hk r) h2 q) (fun vs r h2 A' h' t i j C hu hk hi hj hC => ?_) ?_
  · have r' := mono hk r
    have hl : vs.length = l.length := by have := r.length; rwa [List.length_map] at this
    obtain ⟨r1, m1⟩ := get r' i hi
    obtain ⟨r2, m2⟩ := get r' j hj
    unfold kas_ask
    refine hcmp _ _ _ _ A' _ C m1 m2 hu r1 r2 ?_
    rw [rk_lt W (by lia) (by lia)]
    exact hC
  · intro vs h1 h' t n' r hk1 hg hk
    have hl : vs.length = l.length := by have := r.length; rwa [List.length_map] at this
    have r' := mono hk r
    have hm0 : μ h1.objs.size = none := by
      cases e : μ h1.objs.size with
      | none => rfl
      | some mo =>
        obtain ⟨o, ho⟩ := (x.mu _ mo e).there
        exact absurd (Heap.lt_size (hk1 _ _ ho)) (Nat.lt_irrefl _)
    have fin : ∀ {ws : List Value} {rs : List α}, h'.get? h1.objs.size = some (seqObj "list" ws.toArray n') → RepAll h' μ ws (rs.map emb) → SortOut lt l rs → P0 c s μ Q (.ref h1.objs.size) { s with heap := h', toks := t } := fun hg rr so =>
      ⟨_, μ, .flist hm0 hg rr, x.keeps hk, Evo0.of_keeps hk, h _ so⟩
    by_cases h2 : vs.length < 2
    · rw [if_pos h2] at hg
      refine fin hg r' ⟨List.Perm.refl _, ?_⟩
      rw [hl] at h2
      exact pw_short h2
    · rw [if_neg h2] at hg
      have so := sort_out (d := d) (l := l) (lt := lt) (by lia) W
      have hp := (sort_ev (r := rk l.length fun i j => lt (l.getD i d) (l.getD j d)) (n := l.length) (by lia)).1
      rw [hl] at hg
      generalize kev (rk l.length fun i j => lt (l.getD i d) (l.getD j d)) (kas_sort l.length) = p at hg so hp
      refine fin hg ?_ so
      have hm : ∀ i ∈ p.toList, i < vs.length := fun i m => by rw [hl]; exact List.mem_range.mp (hp.mem_iff.mp m)
      clear hp so hg
      generalize p.toList = q at hm ⊢
      induction q with
      | nil => exact .nil
      | cons i q ih => exact .cons (get r' i (hm i List.mem_cons_self)).1 (ih fun j m => hm j (List.mem_cons_of_mem _ m))
end
end Mine
end
section
open PySem PySem.W PySem.Calls PyProof.Rows
namespace Mine
open Classical
noncomputable def insL {α : Type} (lt : α → α → Bool) (a : α) : List α → List α
  | [] => [a]
  | b :: l => if lt b a then b :: insL lt a l else a :: b :: l
noncomputable def srt {α : Type} (lt : α → α → Bool) : List α → List α
  | [] => []
  | a :: l => insL lt a (srt lt l)
theorem insL_perm {α : Type} (lt : α → α → Bool) (a : α) : ∀ l, (insL lt a l).Perm (a :: l)
  | [] => List.Perm.refl _
  | b :: l => by
    unfold insL
    split
    · exact ((insL_perm lt a l).cons b).trans (List.Perm.swap a b l)
    · exact List.Perm.refl _
theorem srt_perm {α : Type} (lt : α → α → Bool) : ∀ l, (srt lt l).Perm l
  | [] => List.Perm.refl _
  | a :: l => (insL_perm lt a _).trans ((srt_perm lt l).cons a)
noncomputable def Upw {α : Type} (lt : α → α → Bool) (l : List α) : Prop := l.Pairwise fun a b => lt b a = false
theorem insL_up {α : Type} {lt : α → α → Bool} (O : Ord lt) (a : α) : ∀ l, Upw lt l → Upw lt (insL lt a l)
  | [], _ => List.pairwise_singleton _ _
  | b :: l, h => by
    unfold insL
    obtain ⟨h1, h2⟩ := List.pairwise_cons.mp h
    cases e : lt b a with
    | true =>
      rw [if_pos rfl]
      refine List.pairwise_cons.mpr ⟨fun x hx => ?_, insL_up O a l h2⟩
      rcases List.mem_cons.mp ((insL_perm lt a l).mem_iff.mp hx) with rfl | hx
      · cases q : lt x b with
        | false => rfl
        | true => have := O.trans _ _ _ e q; rw [O.irrefl] at this; cases this
      · exact h1 x hx
    | false =>
      rw [if_neg Bool.false_ne_true]
      refine List.pairwise_cons.mpr ⟨fun x hx => ?_, h⟩
      rcases List.mem_cons.mp hx with rfl | hx
      · exact e
      · cases q : lt x a with
        | false => rfl
        | true =>
          rcases O.neg x b a q with q' | q'
          · rw [h1 x hx] at q'; cases q'
          · rw [e] at q'; cases q'
theorem srt_up {α : Type} {lt : α → α → Bool} (O : Ord lt) : ∀ l, Upw lt (srt lt l)
  | [] => .nil
  | a :: l => insL_up O a _ (srt_up O l)
theorem up_unique {α : Type} {lt : α → α → Bool} (O : Ord lt) : ∀ {l r : List α}, l.Perm r → Upw lt l → Upw lt r → l = r
  | [], r, p, _, _ => (List.Perm.nil_eq p)
  | a :: l, [], p, _, _ => absurd p.length_eq (by simp)
  | a :: l, b :: r, p, h1, h2 => by
    obtain ⟨p1, p2⟩ := List.pairwise_cons.mp h1
    obtain ⟨q1, q2⟩ := List.pairwise_cons.mp h2
    have e : a = b := by
      have ha : a ∈ b :: r := p.mem_iff.mp List.mem_cons_self
      have hb : b ∈ a :: l := p.mem_iff.mpr List.mem_cons_self
      rcases List.mem_cons.mp ha with rfl | ha
      · rfl
      · rcases List.mem_cons.mp hb with rfl | hb
        · rfl
        · exact O.total _ _ (q1 a ha) (p1 b hb)
    subst e
    rw [up_unique O (p.cons_inv) p2 q2]
theorem SortOut.eq {α : Type} {lt : α → α → Bool} (O : Ord lt) {l r : List α} (h : SortOut lt l r) : r = srt lt l := up_unique O (h.perm.trans (srt_perm lt l).symm) h.up (srt_up O l)
theorem srt_congr {α : Type} {lt : α → α → Bool} (O : Ord lt) {l r : List α} (h : l.Perm r) : srt lt l = srt lt r := up_unique O ((srt_perm lt l).trans (h.trans (srt_perm lt r).symm)) (srt_up O l) (srt_up O r)
section
variable {prog : Program} {w : World} {c : Cx prog w} {k : Nat} {sc : List (Str × NameKind)}
theorem plains_ints (is : List Int) : plains (is.map MV.int) = true := plains_all.mpr fun d m => by
  obtain ⟨i, _, rfl⟩ := List.mem_map.mp m; rfl
theorem plain_itup (is : List Int) : (itup is).plain = true := by
  unfold itup; simp only [MV.plain]; exact plains_ints is
theorem deps_ints : ∀ is : List Int, deps (is.map MV.int) = 0
  | [] => rfl
  | i :: is => by simp [deps, MV.dep, deps_ints is]
theorem dep_itup (is : List Int) : (itup is).dep = 1 := by simp [itup, MV.dep, deps_ints]
theorem itup_inj {is js : List Int} : itup is = itup js ↔ is = js := by
  constructor
  · intro h
    unfold itup at h
    injection h with h
    exact (List.map_inj_right fun a b e => by injection e).mp h
  · rintro rfl; rfl
theorem eqBool_rep {A : Around} {E : Value → Shared → Prop} {s : Shared} {μ : MHeap} {va vb : Value} {a b : MV} {C : Bool → Shared → Prop} (ra : Rep s.heap μ va a) (rb : Rep s.heap μ vb b) (pa : a.plain = true) (pb : b.plain = true) (ha : a.dep ≤ 50) (hu : A.units ≤ 9100)
    (h : C (decide (a = b)) s) : wpAny (model prog w) A (eqBool va vb) C E s := by
  obtain ⟨as, p⟩ := ra.reads pa
  obtain ⟨bs, p2⟩ := rb.reads pb
  refine SeqAt.eqBoolOverData prog w A E s _ _ _ _ as bs C p p2 (py_lay pa) (py_lay pb) ?_ ?_
  · rw [py_depth, py_depth]
    show A.units + _ < cLine
    have : cLine = 9900 := rfl
    lia
  · rw [py_eqv_decide pa pb]; exact h
theorem Rep.isPair {h : Heap} {μ : MHeap} {v : Value} {a b : MV} (r : Rep h μ v (.tup [a, b])) : ∃ p x y, v = .ref p ∧ h.get? p = some (tupObj [x, y]) ∧ Rep h μ x a ∧ Rep h μ y b := by
  refine el2_4 (r.isTup) fun p vs eqz1 _ ho rs => ?_
  subst eqz1
  cases rs with | cons r1 rs => cases rs with | cons r2 rs => cases rs with | nil =>
  exact ⟨p, _, _, rfl, ho, r1, r2⟩
theorem pairs_kind {A : Around} {s : Shared} {μ : MHeap} {Q : SortKind → Shared → Prop} {E : Value → Shared → Prop} {T : Value} (hT2 : (T == T) = true) {l : List (MV × MV)} {vs : List Value} (r : RepAll s.heap μ vs (l.map fun p => .tup [p.1, p.2]))
    (hT : ∀ p ∈ l, ∀ v, Rep s.heap μ v p.1 → Looks (model prog w) s.heap (typeOf v) T) (h0 : 0 < vs.length) (h : Q (tuples' (T != Value.type "tuple")) s) : wpAny (model prog w) A (keyKind' vs.toArray) Q E s := by
  have key : ∃ fs, KatTups s.heap vs fs ∧ fs.length = vs.length ∧ ∀ v ∈ fs, Looks (model prog w) s.heap (typeOf v) T := by
    clear h h0
    induction l generalizing vs with
    | nil => cases r; exact ⟨[], .nil, rfl, fun _ m => nomatch m⟩
    | cons p l ih =>
      cases r with | cons r rs =>
      refine el3_4 (r.isPair) fun q x y eqz2 ho r1 r2 => ?_
      subst eqz2
      refine el1_3 (ih rs fun p' m => hT p' (List.mem_cons_of_mem _ m)) fun fs k1 k2 k3 => ?_
      refine ⟨x :: fs, .cons ho rfl rfl (by simp) k1, by simp [k2], fun v m => ?_⟩
      rcases List.mem_cons.mp m with rfl | m
      · exact hT p List.mem_cons_self _ r1
      · exact k3 v m
  refine el1_3 key fun fs k1 k2 k3 => ?_
  exact kat_kind k1 (by lia) k3 hT2 h
theorem looks_int {h : Heap} {i : Int} {t : Tok} : Looks (model prog w) h (typeOf (.int i t)) (.type "int") := Looks.of_pure rfl
theorem looks_tup {h : Heap} {μ : MHeap} {v : Value} {is : List Int} (r : Rep h μ v (itup is)) : Looks (model prog w) h (typeOf v) (.type "tuple") := by
  refine el2_4 (r.isTup) fun a vs eqz3 _ ho _ => ?_
  subst eqz3
  exact (Looks.ld ho).andThen .now
theorem pairs_lt {A : Around} {s : Shared} {μ : MHeap} {va vb : Value} {a a' b b' : MV} {fl lt1 lt2 : Bool} {C : Bool → Shared → Prop} (ra : Rep s.heap μ va (.tup [a, b])) (rb : Rep s.heap μ vb (.tup [a', b']))
    (p1 : a.plain = true) (p2 : a'.plain = true) (p3 : b.plain = true) (p4 : b'.plain = true) (d1 : a.dep ≤ 50) (d2 : b.dep ≤ 50) (hu : A.units ≤ 9100)
    (h1 : ∀ x y C, Rep s.heap μ x a → Rep s.heap μ y a' → C lt1 s → wpAny (model prog w) A (oneLt' fl x y) C (fun _ _ => False) s)
    (h2 : ∀ x y C, Rep s.heap μ x b → Rep s.heap μ y b' → C lt2 s → wpAny (model prog w) A (oneLt' false x y) C (fun _ _ => False) s)
    (h3 : b = b' → lt2 = false) (h : C (if a = a' then lt2 else lt1) s) : wpAny (model prog w) A (keyLt' (tuples' fl) va vb) C (fun _ _ => False) s := by
  refine el3_4 (ra.isPair) fun p x y eqz4 ho r1 r2 => ?_
  subst eqz4
  refine el3_4 (rb.isPair) fun q x' y' eqz5 ho' r1' r2' => ?_
  subst eqz5
  refine kat_lt ho rfl ho' rfl ?_
  simp only [List.zip_cons_cons, List.zip_nil_right]
  refine kat_cons (eqBool_rep r1 r1' p1 p2 d1 hu ?_)
  by_cases e : a = a'
  · rw [decide_eq_true e]
    rw [if_pos e] at h
    refine kat_yes (kat_cons (eqBool_rep r2 r2' p3 p4 d2 hu ?_))
    by_cases e2 : b = b'
    · rw [decide_eq_true e2]
      refine kat_yes (kat_nil ?_)
      rw [h3 e2] at h
      simpa using h
    · rw [decide_eq_false e2]
      refine kat_no ?_
      have : (fl && (0 + 1 == 0)) = false := by simp
      rw [this]
      exact h2 _ _ _ r2 r2' h
  · rw [decide_eq_false e]
    rw [if_neg e] at h
    refine kat_no ?_
    have : (fl && (0 == 0)) = fl := by simp
    rw [this]
    exact h1 _ _ _ r1 r1' h
theorem one_itup {A : Around} {s : Shared} {μ : MHeap} {x y : Value} {is js : List Int} {C : Bool → Shared → Prop} (hu : A.units < cLine) (r1 : Rep s.heap μ x (itup is)) (r2 : Rep s.heap μ y (itup js)) (h : C (lexLt iLt is js) s) : wpAny (model prog w) A (oneLt' false x y) C (fun _ _ => False) s :=
  kat_one _ _ (lt_itup hu r1 r2 h)
theorem one_int {A : Around} {s : Shared} {μ : MHeap} {x y : Value} {i j : Int} {C : Bool → Shared → Prop} (r1 : Rep s.heap μ x (.int i)) (r2 : Rep s.heap μ y (.int j)) (h : C (iLt i j) s) : wpAny (model prog w) A (oneLt' false x y) C (fun _ _ => False) s := by
  obtain ⟨t, rfl⟩ := r1.isInt
  obtain ⟨u, rfl⟩ := r2.isInt
  exact kat_one _ _ (P.lt_int h)
theorem one_intT {A : Around} {s : Shared} {μ : MHeap} {x y : Value} {i j : Int} {C : Bool → Shared → Prop} (r1 : Rep s.heap μ x (.int i)) (r2 : Rep s.heap μ y (.int j)) (h : C (iLt i j) s) : wpAny (model prog w) A (oneLt' true x y) C (fun _ _ => False) s := by
  obtain ⟨t, rfl⟩ := r1.isInt
  obtain ⟨u, rfl⟩ := r2.isInt
  exact oneLt_int h
noncomputable def wordLt : List Int × Int → List Int × Int → Bool := pairLt (lexLt iLt) iLt
noncomputable def startLt : Int × List Int → Int × List Int → Bool := pairLt iLt (lexLt iLt)
noncomputable def embW (p : List Int × Int) : MV := .tup [itup p.1, .int p.2]
noncomputable def embS (p : Int × List Int) : MV := .tup [.int p.1, itup p.2]
theorem ord_word : Ord wordLt := ord_pair (ord_lex ord_int) ord_int
theorem ord_start : Ord startLt := ord_pair ord_int (ord_lex ord_int)
theorem kind_words {A : Around} {s : Shared} {μ : MHeap} {Q : SortKind → Shared → Prop} {l : List (List Int × Int)} {vs : List Value} (r : RepAll s.heap μ vs (l.map embW)) (h0 : 0 < vs.length) (h : Q (tuples' false) s) : wpAny (model prog w) A (keyKind' vs.toArray) Q (fun _ _ => False) s :=
  pairs_kind (T := .type "tuple") (l := l.map fun p => (itup p.1, .int p.2)) (by rfl) (by rw [List.map_map]; exact r) (fun p m v rv => by obtain ⟨q, _, rfl⟩ := List.mem_map.mp m; exact looks_tup rv) h0 h
theorem kind_starts {A : Around} {s : Shared} {μ : MHeap} {Q : SortKind → Shared → Prop} {l : List (Int × List Int)} {vs : List Value} (r : RepAll s.heap μ vs (l.map embS)) (h0 : 0 < vs.length) (h : Q (tuples' true) s) : wpAny (model prog w) A (keyKind' vs.toArray) Q (fun _ _ => False) s :=
  pairs_kind (T := .type "int") (l := l.map fun p => (.int p.1, itup p.2)) (by rfl) (by rw [List.map_map]; exact r) (fun p m v rv => by
    refine el1_2 (List.mem_map.mp m) fun q _ eqz6 => ?_
    subst eqz6
    obtain ⟨t, rfl⟩ := Rep.isInt rv
    exact looks_int) h0 h
theorem lt_words {A : Around} {s : Shared} {μ : MHeap} {va vb : Value} {a b : List Int × Int} {C : Bool → Shared → Prop} (hu : A.units ≤ 9100) (ra : Rep s.heap μ va (embW a)) (rb : Rep s.heap μ vb (embW b)) (h : C (wordLt a b) s) : wpAny (model prog w) A (keyLt' (tuples' false) va vb) C (fun _ _ => False) s := by
  have hu' : A.units < cLine := Nat.lt_of_le_of_lt hu (by decide)
  refine pairs_lt (lt1 := lexLt iLt a.1 b.1) (lt2 := iLt a.2 b.2) ra rb (plain_itup _) (plain_itup _) rfl rfl (by rw [dep_itup]; decide) (Nat.zero_le _) hu (fun x y C r1 r2 h => one_itup hu' r1 r2 h) (fun x y C r1 r2 h => one_int r1 r2 h) (fun e => by injection e with e; rw [e]; exact ord_int.irrefl _) ?_
  simp only [itup_inj]
  unfold wordLt pairLt at h
  by_cases e : a.1 = b.1
  · rw [if_pos e] at h ⊢; exact h
  · rw [if_neg e] at h ⊢; exact h
theorem lt_starts {A : Around} {s : Shared} {μ : MHeap} {va vb : Value} {a b : Int × List Int} {C : Bool → Shared → Prop} (hu : A.units ≤ 9100) (ra : Rep s.heap μ va (embS a)) (rb : Rep s.heap μ vb (embS b)) (h : C (startLt a b) s) : wpAny (model prog w) A (keyLt' (tuples' true) va vb) C (fun _ _ => False) s := by
  have hu' : A.units < cLine := Nat.lt_of_le_of_lt hu (by decide)
  refine pairs_lt (lt1 := iLt a.1 b.1) (lt2 := lexLt iLt a.2 b.2) ra rb rfl rfl (plain_itup _) (plain_itup _) (Nat.zero_le _) (by rw [dep_itup]; decide) hu (fun x y C r1 r2 h => one_intT r1 r2 h) (fun x y C r1 r2 h => one_itup hu' r1 r2 h) (fun e => by rw [itup_inj.mp e]; exact (ord_lex ord_int).irrefl _) ?_
  simp only [MV.int.injEq]
  unfold startLt pairLt at h
  by_cases e : a.1 = b.1
  · rw [if_pos e] at h ⊢; exact h
  · rw [if_neg e] at h ⊢; exact h
noncomputable def pSortK : List MV → W0 := fun ds μ Q => ∃ r es, ds = [.ref r] ∧ μ r = some (.idict es) ∧ es.length < 64 ∧ Q (.flist ((srt iLt (es.map (·.1))).map MV.int)) μ
theorem op_sortK {j : Nat} : OpN c j (fun vs => call (.builtin "sorted") vs) pSortK := by
  intro A s μ vs ds Q rm x r hz7
  refine el2_4 hz7 fun q es eqz8 hm hz h => ?_
  subst eqz8
  cases r with | cons r r' => cases r' with | nil =>
  obtain rfl := r.isRef
  refine el1_2 (x.mu q _ hm) fun kvs inz9 hP => ?_
  refine el3_2 inz9 fun o es' ep ho rD => ?_
  have hD : s.heap.DictAt (intKind prog w) q kvs ep := ⟨o, es', ho, rD⟩
  refine sorted_out (κ := oneType') ord_int 0 MV.int (l := es.map (·.1)) x (by rw [List.length_map]; exact hz) (fun A' Q' hA hq => ?_) (fun vs A' s' Q' r h2 hq => ?_) (fun a b va vb A' s' C _ _ hu ra rb hc => ?_) fun out so => ?_
  · refine kdu_collect (kdl_dict (knd := intKind prog w) (kvs := kvs) (ep := ep) (x.notSys hm)) (hA.trans rm.hand) hD (by rw [hP.length, sizeLine_eq]; lia) fun h' tk acc hk hacc => ?_
    refine hq acc.toList h' tk ?_ hk
    rw [List.map_map]
    refine keysRepAll (kvs := kvs) hP.keys (by rw [Array.length_toList]; exact hacc.1) fun i v e => ?_
    obtain ⟨k, y, e1, e2⟩ := hacc.2 i v (by rw [← Array.getElem?_toList]; exact e)
    exact ⟨k, y, e1, e2⟩
  · refine kas_kind (T := .type "int") h2 (fun v m => ?_) (by decide) (by rfl) hq
    obtain ⟨i, hi, e⟩ := List.mem_iff_getElem.mp m
    refine el1_2 (r.get' (i := i) (v := v) (by rw [List.getElem?_eq_getElem hi, e])) fun d hd rd => ?_
    rw [List.getElem?_map, Option.map_eq_some_iff] at hd
    refine el1_2 hd fun z _ eqz10 => ?_
    subst eqz10
    obtain ⟨t, rfl⟩ := rd.isInt
    exact looks_int
  · obtain ⟨t, rfl⟩ := Rep.isInt ra
    obtain ⟨u, rfl⟩ := Rep.isInt rb
    exact kat_lt_int hc
  · rw [so.eq ord_int]; exact h
noncomputable def pSortW : List MV → W0 := fun ds μ Q => ∃ l : List (List Int × Int), ds = [.flist (l.map embW)] ∧ l.length < 64 ∧ Q (.flist ((srt wordLt l).map embW)) μ
theorem op_sortW {j : Nat} : OpN c j (fun vs => call (.builtin "sorted") vs) pSortW := by
  intro A s μ vs ds Q rm x r hz11
  refine el1_3 hz11 fun l eqz12 hz h => ?_
  subst eqz12
  cases r with | cons r r' => cases r' with | nil =>
  refine el3_4 (r.isList) fun a its n eqz13 _ ho rs => ?_
  subst eqz13
  have hu := rm.units
  refine sorted_out (κ := tuples' false) ord_word ([], 0) embW (l := l) x hz (fun A' Q' hA hq => ?_) (fun vs A' s' Q' r h2 hq => kind_words r (by lia) hq) (fun a b va vb A' s' C _ _ hu' ra rb hc => lt_words (by lia) ra rb hc) fun out so => ?_
  · refine collect_list ⟨_, ho, rfl, n, rfl⟩ ?_ (by have := rs.length; rw [List.length_map] at this; rw [sizeLine_eq]; lia)
    exact hq its _ s.toks rs fun b o e => (Heap.get?_update_other _ _ (Ne.symm (Nat.ne_of_lt (Heap.lt_size e)))).trans (Heap.get?_push_of_some _ e)
  · rw [so.eq ord_word]; exact h
end
end Mine
namespace Mine
open Classical
noncomputable def run (mask i : Nat) : List Nat := (List.range (SetTable.runEnd mask i + 1 - i)).map (i + ·)
noncomputable def walkL (mask : Nat) : Nat → Nat → Nat → List Nat
  | 0, _, _ => []
  | T + 1, i, p => run mask i ++ walkL mask T (SetTable.leap mask i p).1 (SetTable.leap mask i p).2
noncomputable def pathL (mask : Nat) (h : Int) : List Nat := walkL mask (SetTable.turns mask) (SetTable.bits h % (mask + 1)) (SetTable.bits h)
noncomputable def goodMask (mask : Nat) : Prop := mask = 7 ∨ mask = 31 ∨ mask = 127
theorem runEnd_ge (mask i : Nat) : i ≤ SetTable.runEnd mask i ∧ SetTable.runEnd mask i ≤ i + 9 ∧ (i ≤ mask → SetTable.runEnd mask i ≤ mask) := by
  unfold SetTable.runEnd
  split <;> lia
theorem run_len (mask i : Nat) : (run mask i).length ≤ 10 := by
  have := runEnd_ge mask i
  simp [run]; lia
theorem self_run (mask i : Nat) : i ∈ run mask i := by
  have := runEnd_ge mask i
  simp only [run, List.mem_map, List.mem_range]
  exact ⟨0, by lia, by lia⟩
theorem run_le {mask i j : Nat} (hi : i ≤ mask) (h : j ∈ run mask i) : j ≤ mask := by
  have := runEnd_ge mask i
  simp only [run, List.mem_map, List.mem_range] at h
  refine el1_2 h fun a ha eqz1 => ?_
  subst eqz1
  have := this.2.2 hi
  lia
theorem leap_le (mask i p : Nat) : (SetTable.leap mask i p).1 ≤ mask := by
  unfold SetTable.leap
  have : (i * 5 + 1 + p / 32) % (mask + 1) < mask + 1 := Nat.mod_lt _ (by lia)
  dsimp only
  lia
theorem walkL_len (mask : Nat) : ∀ T i p, (walkL mask T i p).length ≤ 10 * T
  | 0, _, _ => by simp [walkL]
  | T + 1, i, p => by
    have h1 := run_len mask i
    have h2 := walkL_len mask T (SetTable.leap mask i p).1 (SetTable.leap mask i p).2
    simp only [walkL, List.length_append]; lia
theorem walkL_le {mask : Nat} : ∀ {T i p j}, i ≤ mask → j ∈ walkL mask T i p → j ≤ mask
  | 0, _, _, _, _, h => by simp [walkL] at h
  | T + 1, i, p, j, hi, h => by
    simp only [walkL, List.mem_append] at h
    rcases h with h | h
    · exact run_le hi h
    · exact walkL_le (leap_le _ _ _) h
theorem pathL_le {mask : Nat} {h : Int} {j : Nat} (hj : j ∈ pathL mask h) : j ≤ mask :=
  walkL_le (by have : SetTable.bits h % (mask + 1) < mask + 1 := Nat.mod_lt _ (by lia); lia) hj
theorem pathL_len (mask : Nat) (h : Int) : (pathL mask h).length ≤ 10 * SetTable.turns mask := walkL_len _ _ _ _
noncomputable def turnAt (mask : Nat) : Nat → Nat × Nat → Nat × Nat
  | 0, q => q
  | t + 1, q => turnAt mask t (SetTable.leap mask q.1 q.2)
theorem turnAt_mem (mask : Nat) : ∀ T t i p, t < T → (turnAt mask t (i, p)).1 ∈ walkL mask T i p
  | 0, _, _, _, h => absurd h (Nat.not_lt_zero _)
  | T + 1, 0, i, p, _ => List.mem_append_left _ (self_run mask i)
  | T + 1, t + 1, i, p, h => List.mem_append_right _ (turnAt_mem mask T t _ _ (by lia))
theorem turnAt_add (mask : Nat) : ∀ t u q, turnAt mask (t + u) q = turnAt mask u (turnAt mask t q)
  | 0, u, q => by rw [Nat.zero_add]; rfl
  | t + 1, u, q => by
    rw [Nat.add_right_comm]
    exact turnAt_add mask t u _
theorem turnAt_snd (mask : Nat) : ∀ t q, (turnAt mask t q).2 = q.2 / 32 ^ t
  | 0, q => by simp [turnAt]
  | t + 1, q => by
    rw [turnAt, turnAt_snd mask t]
    show q.2 / 32 / 32 ^ t = _
    rw [Nat.div_div_eq_div_mul, Nat.pow_succ, Nat.mul_comm]
theorem turnAt_le (mask : Nat) : ∀ t q, q.1 ≤ mask → (turnAt mask t q).1 ≤ mask
  | 0, _, h => h
  | t + 1, q, _ => turnAt_le mask t _ (leap_le _ _ _)
noncomputable def orb (mask : Nat) (n : Nat) : Nat := (turnAt mask n (0, 0)).1
theorem turnAt_zero (mask : Nat) : ∀ n, turnAt mask n (0, 0) = (orb mask n, 0) := fun n => by
  have := turnAt_snd mask n (0, 0)
  simp only [Nat.zero_div] at this
  exact Prod.ext rfl this
theorem orb_add (mask m n : Nat) : turnAt mask n (orb mask m, 0) = (orb mask (m + n), 0) := by
  rw [← turnAt_zero mask m, ← turnAt_add, turnAt_zero]
noncomputable def orbL (mask : Nat) : Nat → Nat → List Nat
  | 0, _ => []
  | n + 1, i => i :: orbL mask n ((i * 5 + 1) % (mask + 1))
theorem orbL_spec (mask : Nat) : ∀ n m, orbL mask n (orb mask m) = (List.range n).map fun k => orb mask (m + k)
  | 0, _ => rfl
  | n + 1, m => by
    have e : (orb mask m * 5 + 1) % (mask + 1) = orb mask (m + 1) := by
      have := orb_add mask m 1
      have h := congrArg Prod.fst this
      simpa [turnAt, SetTable.leap] using h
    rw [orbL, e, orbL_spec mask n (m + 1), List.range_succ_eq_map, List.map_cons, List.map_map]
    congr 1
    apply List.map_congr_left
    intro k _
    show orb mask (m + 1 + k) = orb mask (m + (k + 1))
    congr 1; lia
theorem orb_full {mask : Nat} (g : goodMask mask) : orb mask (mask + 1) = 0 ∧ ∀ j ≤ mask, ∃ n ≤ mask, orb mask n = j := by
  have key : orb mask (mask + 1) = 0 ∧ ((List.range (mask + 1)).all fun j => (orbL mask (mask + 1) 0).contains j) = true := by
    rcases g with rfl | rfl | rfl <;> exact ⟨by decide +kernel, by decide +kernel⟩
  refine ⟨key.1, fun j hj => ?_⟩
  have h := List.all_eq_true.mp key.2 j (List.mem_range.mpr (by lia))
  have e := orbL_spec mask (mask + 1) 0
  rw [show orb mask 0 = 0 from rfl] at e
  rw [e, List.contains_iff_mem, List.mem_map] at h
  refine el1_2 h fun n hn eqz2 => ?_
  subst eqz2
  exact ⟨n, by have := List.mem_range.mp hn; lia, by rw [Nat.zero_add]⟩
theorem orb_per {mask : Nat} (g : goodMask mask) (n : Nat) : orb mask (mask + 1 + n) = orb mask n := by
  have h1 := orb_add mask (mask + 1) n
  rw [(orb_full g).1] at h1
  have h2 := orb_add mask 0 n
  rw [show orb mask 0 = 0 from rfl, h1, Nat.zero_add] at h2
  exact (Prod.mk.injEq _ _ _ _ ▸ h2).1
theorem cover0 {mask : Nat} (g : goodMask mask) {i j : Nat} (hi : i ≤ mask) (hj : j ≤ mask) : ∃ n ≤ mask, (turnAt mask n (i, 0)).1 = j := by
  refine el1_2 ((orb_full g).2 i hi) fun a ha eqz3 => ?_
  subst eqz3
  refine el1_2 ((orb_full g).2 j hj) fun b hb eqz4 => ?_
  subst eqz4
  by_cases h : a ≤ b
  · exact ⟨b - a, by lia, by rw [orb_add, show a + (b - a) = b by lia]⟩
  · exact ⟨mask + 1 + b - a, by lia, by rw [orb_add, show a + (mask + 1 + b - a) = mask + 1 + b by lia, orb_per g]⟩
theorem bits_lt (h : Int) : SetTable.bits h < 2 ^ 64 := by
  unfold SetTable.bits
  have h1 := Int.emod_lt_of_pos h (show (0 : Int) < 2 ^ 64 by decide)
  have h2 := Int.emod_nonneg h (show (2 ^ 64 : Int) ≠ 0 by decide)
  lia
theorem cover {mask : Nat} (g : goodMask mask) (h : Int) {j : Nat} (hj : j ≤ mask) : j ∈ pathL mask h := by
  have e : turnAt mask 13 (SetTable.bits h % (mask + 1), SetTable.bits h) = ((turnAt mask 13 (SetTable.bits h % (mask + 1), SetTable.bits h)).1, 0) := by
    refine Prod.ext rfl ?_
    rw [turnAt_snd]
    exact Nat.div_eq_of_lt (Nat.lt_of_lt_of_le (bits_lt h) (by decide))
  have hi : (turnAt mask 13 (SetTable.bits h % (mask + 1), SetTable.bits h)).1 ≤ mask := turnAt_le _ _ _ (by have : SetTable.bits h % (mask + 1) < mask + 1 := Nat.mod_lt _ (by lia); exact Nat.le_of_lt_succ this)
  refine el1_2 (cover0 g hi hj) fun n hn hq => ?_
  rw [← e, ← turnAt_add] at hq
  rw [← hq]
  exact turnAt_mem _ _ _ _ _ (by unfold SetTable.turns; lia)
noncomputable def Rest (mask : Nat) (p : SetTable.Probe) (T : Nat) : List Nat := (List.range (p.more + 1)).map (p.j + ·) ++ walkL mask T (SetTable.leap mask p.i p.perturb).1 (SetTable.leap mask p.i p.perturb).2
noncomputable def IsRest (mask : Nat) (p : SetTable.Probe) (R : List Nat) : Prop := ∃ T, Rest mask p T = R
theorem rest_start (t : SetTable) (h : Int) : IsRest t.mask (t.probeStart h) (pathL t.mask h) := by
  refine ⟨t.mask + 14, ?_⟩
  have := runEnd_ge t.mask (SetTable.bits h % (t.mask + 1))
  unfold Rest SetTable.probeStart pathL
  dsimp only
  rw [show SetTable.turns t.mask = t.mask + 14 + 1 from rfl, walkL, run]
  congr 2
  congr 1
  lia
theorem rest_head {mask : Nat} {p : SetTable.Probe} {R : List Nat} (h : IsRest mask p R) : ∃ R', R = p.j :: R' := by
  obtain ⟨T, rfl⟩ := h
  unfold Rest
  rw [List.range_succ_eq_map, List.map_cons, List.cons_append]
  exact ⟨_, rfl⟩
theorem rest_next {t : SetTable} {p : SetTable.Probe} {j : Nat} {R : List Nat} (h : IsRest t.mask p (j :: R)) (hn : R ≠ []) : IsRest t.mask (t.advance p) R := by
  obtain ⟨T, e⟩ := h
  unfold SetTable.advance
  by_cases hm : p.more > 0
  · rw [if_pos hm]
    refine ⟨T, ?_⟩
    obtain ⟨m, e2⟩ : ∃ m, p.more = m + 1 := ⟨p.more - 1, by lia⟩
    unfold Rest at e ⊢
    dsimp only
    rw [e2, List.range_succ_eq_map, List.map_cons, List.cons_append] at e
    have e3 := congrArg List.tail e
    simp only [List.tail_cons] at e3
    rw [e2, show m + 1 - 1 = m from rfl, ← e3, List.map_map]
    congr 1
    apply List.map_congr_left
    intro a _
    show p.j + 1 + a = p.j + (a + 1)
    lia
  · rw [if_neg hm]
    have e2 : p.more = 0 := by lia
    unfold Rest at e
    rw [e2] at e
    cases T with
    | zero =>
      simp [walkL] at e
      exact absurd e.2 hn
    | succ T =>
      refine ⟨T, ?_⟩
      have e3 := congrArg List.tail e
      simp only [List.tail_cons, Nat.zero_add, List.range_one, List.map_cons, List.map_nil, List.cons_append, List.nil_append] at e3
      rw [← e3]
      unfold Rest
      dsimp only
      rw [walkL, run]
      have := runEnd_ge t.mask (SetTable.leap t.mask p.i p.perturb).1
      congr 2
      congr 1
      lia
theorem advance_dummy (t : SetTable) (p : SetTable.Probe) : (t.advance p).dummy = p.dummy := by
  unfold SetTable.advance
  split <;> rfl
inductive Probed (t : SetTable) (hashAt : Nat → Int) (h : Int) (R : List Nat) : Option SetTable.Met → Prop
  | empty (pre : List Nat) (j : Nat) (post : List Nat) : R = pre ++ j :: post → (∀ j' ∈ pre, ∃ i, t.slot j' = .live i ∧ hashAt i ≠ h) → t.slot j = .empty → Probed t hashAt h R (some (.empty j none))
  | cand (pre : List Nat) (j : Nat) (post : List Nat) (i : Nat) (next : SetTable.Probe) : R = pre ++ j :: post → (∀ j' ∈ pre, ∃ i, t.slot j' = .live i ∧ hashAt i ≠ h) → t.slot j = .live i → hashAt i = h →
      (post ≠ [] → IsRest t.mask next post) → next.dummy = none → Probed t hashAt h R (some (.candidate j i next))
theorem probed {t : SetTable} {hashAt : Nat → Int} {h : Int} (hd : ∀ j, t.slot j ≠ .dummy) : ∀ (fuel : Nat) (R : List Nat) (p : SetTable.Probe), IsRest t.mask p R → R.length ≤ fuel → (∃ j ∈ R, t.slot j = .empty) → p.dummy = none →
    Probed t hashAt h R (SetTable.probe.go t hashAt h fuel p)
  | 0, R, p, hr, hf, ⟨j, hj, _⟩, _ => by
    have : R = [] := List.length_eq_zero_iff.mp (by lia)
    rw [this] at hj; cases hj
  | fuel + 1, R, p, hr, hf, he, hpd => by
    obtain ⟨R', rfl⟩ := rest_head hr
    unfold SetTable.probe.go
    cases hs : t.slot p.j with
    | empty => simp only [hpd]; exact .empty [] p.j R' rfl (fun _ m => nomatch m) hs
    | dummy => exact absurd hs (hd _)
    | live i =>
      dsimp only
      by_cases hh : hashAt i = h
      · rw [if_pos (by simp [hh])]
        exact .cand [] p.j R' i _ rfl (fun _ m => nomatch m) hs hh (fun hn => rest_next hr hn) (by rw [advance_dummy, hpd])
      · rw [if_neg (by simp [hh])]
        have he' : ∃ j ∈ R', t.slot j = .empty := by
          refine el1_2 he fun j hj hq => ?_
          rcases List.mem_cons.mp hj with rfl | hj
          · rw [hs] at hq; cases hq
          · exact ⟨j, hj, hq⟩
        have hn : R' ≠ [] := by
          refine el1_2 (he') fun j hj _ => ?_
          rintro rfl; cases hj
        have ih := probed (hashAt := hashAt) (h := h) hd fuel R' _ (rest_next hr hn) (by simp at hf; lia) he' (by rw [advance_dummy, hpd])
        generalize SetTable.probe.go t hashAt h fuel (t.advance p) = m at ih
        cases ih with
        | empty pre j post e1 e2 e3 => exact .empty (p.j :: pre) j post (by rw [e1]; rfl) (fun j' m => (List.mem_cons.mp m).elim (fun e => by rw [e]; exact ⟨i, hs, hh⟩) (e2 j')) e3
        | cand pre j post i' next e1 e2 e3 e4 e5 e6 => exact .cand (p.j :: pre) j post i' next (by rw [e1]; rfl) (fun j' m => (List.mem_cons.mp m).elim (fun e => by rw [e]; exact ⟨i, hs, hh⟩) (e2 j')) e3 e4 e5 e6
end Mine
namespace Mine
open Classical
noncomputable abbrev Cell := Nat × Int × Value
noncomputable def isAt (L : List Cell) (j : Nat) : Prop := ∃ e ∈ L, e.1 = j
structure Tab (t : SetTable) (es : Array (Int × Value)) (L : List Cell) : Prop where
  mask : goodMask t.mask
  dum : t.dummies = #[]
  place : t.place.toList = L.map (·.1)
  items : es.toList = L.map (·.2)
  up : L.Pairwise fun a b => a.1 < b.1
  le : ∀ e ∈ L, e.1 ≤ t.mask
  reach : ∀ e ∈ L, ∃ pre post, pathL t.mask e.2.1 = pre ++ e.1 :: post ∧ ∀ j ∈ pre, isAt L j
structure BelowAt (xs : Array Nat) (j p : Nat) : Prop where
  le : p ≤ xs.size
  lo : ∀ i, i < p → xs.getD i 0 < j
  hi : ∀ i, p ≤ i → i < xs.size → j ≤ xs.getD i 0
theorem below_go {xs : Array Nat} {j : Nat} (up : ∀ a b, a < b → b < xs.size → xs.getD a 0 < xs.getD b 0) : ∀ fuel lo hi, hi - lo ≤ fuel → lo ≤ hi → hi ≤ xs.size → (∀ i, i < lo → xs.getD i 0 < j) → (∀ i, hi ≤ i → i < xs.size → j ≤ xs.getD i 0) →
    BelowAt xs j (SetTable.below.go xs j fuel lo hi)
  | 0, lo, hi, hf, hl, hs, h1, h2 => by
    unfold SetTable.below.go
    have : lo = hi := by lia
    subst this
    exact ⟨hs, h1, h2⟩
  | fuel + 1, lo, hi, hf, hl, hs, h1, h2 => by
    unfold SetTable.below.go
    by_cases h : lo < hi
    · rw [if_pos h]
      dsimp only
      have ed : xs.getD ((lo + hi) / 2) j = xs.getD ((lo + hi) / 2) 0 := by
        rw [Array.getD_eq_getD_getElem?, Array.getD_eq_getD_getElem?, Array.getElem?_eq_getElem (by lia)]; rfl
      rw [ed]
      by_cases hq : xs.getD ((lo + hi) / 2) 0 < j
      · rw [if_pos hq]
        refine below_go up fuel _ hi (by lia) (by lia) hs (fun i hi' => ?_) h2
        by_cases e : i = (lo + hi) / 2
        · rw [e]; exact hq
        · exact Nat.lt_trans (up i ((lo + hi) / 2) (by lia) (by lia)) hq
      · rw [if_neg hq]
        refine below_go up fuel lo _ (by lia) (by lia) (by lia) h1 (fun i hi' hz => ?_)
        by_cases e : i = (lo + hi) / 2
        · rw [e]; lia
        · have := up ((lo + hi) / 2) i (by lia) hz
          lia
    · rw [if_neg h]
      have : lo = hi := by lia
      subst this
      exact ⟨hs, h1, h2⟩
theorem below_spec {xs : Array Nat} {j : Nat} (up : ∀ a b, a < b → b < xs.size → xs.getD a 0 < xs.getD b 0) : BelowAt xs j (SetTable.below xs j) :=
  below_go up xs.size 0 xs.size (by lia) (by lia) (Nat.le_refl _) (fun i h => absurd h (Nat.not_lt_zero _)) (fun i h1 h2 => by lia)
section
variable {t : SetTable} {es : Array (Int × Value)} {L : List Cell}
theorem Tab.size (T : Tab t es L) : t.place.size = L.length := by
  rw [← Array.length_toList, T.place, List.length_map]
theorem Tab.esSize (T : Tab t es L) : es.size = L.length := by
  rw [← Array.length_toList, T.items, List.length_map]
theorem Tab.getD (T : Tab t es L) {i : Nat} (h : i < L.length) : t.place.getD i 0 = (L[i]).1 := by
  have e : t.place[i]? = some (L[i]).1 := by rw [← Array.getElem?_toList, T.place]; simp [h]
  rw [Array.getD_eq_getD_getElem?, e]; rfl
theorem Tab.rising (T : Tab t es L) : ∀ a b, a < b → b < t.place.size → t.place.getD a 0 < t.place.getD b 0 := fun a b hab hb => by
  rw [T.size] at hb
  rw [T.getD hb, T.getD (by lia : a < L.length)]
  exact List.pairwise_iff_getElem.mp T.up a b (by lia) hb hab
theorem Tab.get? (T : Tab t es L) (i : Nat) : t.place[i]? = (L[i]?).map (·.1) := by
  rw [← Array.getElem?_toList, T.place, List.getElem?_map]
theorem Tab.es? (T : Tab t es L) (i : Nat) : es[i]? = (L[i]?).map (·.2) := by
  rw [← Array.getElem?_toList, T.items, List.getElem?_map]
theorem Tab.below (T : Tab t es L) (j : Nat) : BelowAt t.place j (SetTable.below t.place j) := below_spec T.rising
theorem Tab.live (T : Tab t es L) {i : Nat} {e : Cell} (h : L[i]? = some e) : t.slot e.1 = .live i := by
  have hi : i < L.length := (List.getElem?_eq_some_iff.mp h).1
  have B := T.below e.1
  have hg : t.place.getD i 0 = e.1 := by
    rw [T.getD hi]; rw [List.getElem?_eq_getElem hi] at h; rw [Option.some.inj h]
  have hp : SetTable.below t.place e.1 = i := by
    apply Nat.le_antisymm
    · apply Nat.le_of_not_lt
      intro q
      have := B.lo i q
      lia
    · apply Nat.le_of_not_lt
      intro q
      have h1 := B.hi _ (Nat.le_refl _) (by rw [T.size]; lia)
      have h2 := T.rising _ i q (by rw [T.size]; exact hi)
      lia
  unfold SetTable.slot
  dsimp only
  rw [hp, if_pos]
  rw [T.get?, h]
  simp
theorem Tab.empty (T : Tab t es L) {j : Nat} (h : ¬ isAt L j) : t.slot j = .empty := by
  unfold SetTable.slot
  dsimp only
  rw [if_neg, if_neg]
  · rw [T.dum]; simp [SetTable.has]
  · rw [T.get?]
    intro q
    simp only [beq_iff_eq] at q
    rw [Option.map_eq_some_iff] at q
    refine el1_2 q fun e he eqz1 => ?_
    subst eqz1
    exact h ⟨e, List.mem_of_getElem? he, rfl⟩
theorem Tab.slot (T : Tab t es L) (j : Nat) : (¬ isAt L j ∧ t.slot j = .empty) ∨ ∃ i e, L[i]? = some e ∧ e.1 = j ∧ t.slot j = .live i := by
  by_cases h : isAt L j
  · obtain ⟨e, he, rfl⟩ := h
    obtain ⟨i, hi⟩ := List.getElem?_of_mem he
    exact .inr ⟨i, e, hi, rfl, T.live hi⟩
  · exact .inl ⟨h, T.empty h⟩
theorem Tab.noDummy (T : Tab t es L) (j : Nat) : t.slot j ≠ .dummy := by
  rcases T.slot j with ⟨_, h⟩ | ⟨_, _, _, _, h⟩ <;> rw [h] <;> exact fun q => nomatch q
theorem Tab.uniq (T : Tab t es L) {i i' : Nat} {e e' : Cell} (h : L[i]? = some e) (h' : L[i']? = some e') (q : e.1 = e'.1) : i = i' := by
  have h1 := T.live h
  have h2 := T.live h'
  rw [q, h2] at h1
  injection h1 with h1
  exact h1.symm
theorem free_slot {L : List Cell} {mask : Nat} (h : L.length ≤ mask) : ∃ j ≤ mask, ¬ isAt L j := by
  apply Classical.byContradiction
  intro hn
  have hall : ∀ j ≤ mask, j ∈ L.map (·.1) := fun j hj => by
    apply Classical.byContradiction
    intro q
    exact hn ⟨j, hj, fun ⟨e, he, hq⟩ => q (List.mem_map.mpr ⟨e, he, hq⟩)⟩
  have h1 : (List.range (mask + 1)).length ≤ (L.map (·.1)).length := List.nodup_range.length_le_of_subset fun j hj => hall j (by have := List.mem_range.mp hj; lia)
  simp at h1
  lia
theorem path_free (T : Tab t es L) (hl : L.length ≤ t.mask) (h : Int) : ∃ j ∈ pathL t.mask h, t.slot j = .empty := by
  obtain ⟨j, hj, hn⟩ := free_slot hl
  exact ⟨j, cover T.mask h hj, T.empty hn⟩
theorem Tab.put (T : Tab t es L) {j : Nat} {h : Int} {x : Value} {pre post : List Nat} (hj : ¬ isAt L j) (hp : pathL t.mask h = pre ++ j :: post) (hpre : ∀ j' ∈ pre, isAt L j') :
    ∃ L', Tab (t.put j).1 (SetTable.insertAt es (t.put j).2 (h, x)) L' ∧ L'.Perm ((j, h, x) :: L) ∧ (t.put j).1.led = t.led ∧ (t.put j).1.plain = t.plain ∧ (t.put j).1.moves = t.moves ∧ (t.put j).1.mask = t.mask := by
  have B := T.below j
  have hsz : SetTable.below t.place j ≤ L.length := by rw [← T.size]; exact B.le
  have hdum : SetTable.has t.dummies j = false := by rw [T.dum]; simp [SetTable.has]
  have perm : (L.take (SetTable.below t.place j) ++ (j, h, x) :: L.drop (SetTable.below t.place j)).Perm ((j, h, x) :: L) := by
    refine List.perm_middle.trans ?_
    rw [List.take_append_drop]
  have mono : ∀ {j'}, isAt L j' → isAt (L.take (SetTable.below t.place j) ++ (j, h, x) :: L.drop (SetTable.below t.place j)) j' := fun ⟨e, he, q⟩ => ⟨e, perm.mem_iff.mpr (List.mem_cons_of_mem _ he), q⟩
  refine ⟨L.take (SetTable.below t.place j) ++ (j, h, x) :: L.drop (SetTable.below t.place j), ⟨T.mask, ?_, ?_, ?_, ?_, ?_, ?_⟩, perm, rfl, rfl, rfl, rfl⟩
  · show (if SetTable.has t.dummies j = true then _ else t.dummies) = #[]
    rw [hdum]; exact T.dum
  · show (SetTable.insertAt t.place _ j).toList = _
    rw [SetTable.toList_insertAt, T.place, List.map_append, List.map_cons, List.map_take, List.map_drop]
  · show (SetTable.insertAt es _ (h, x)).toList = _
    rw [SetTable.toList_insertAt, T.items, List.map_append, List.map_cons, List.map_take, List.map_drop]
    rfl
  · rw [List.pairwise_append, List.pairwise_cons]
    have split := List.pairwise_append.mp ((List.take_append_drop (SetTable.below t.place j) L).symm ▸ T.up)
    have hlo : ∀ a ∈ L.take (SetTable.below t.place j), a.1 < j := fun a ha => by
      obtain ⟨i, hi, rfl⟩ := List.mem_iff_getElem.mp ha
      rw [List.length_take] at hi
      have := B.lo i (by lia)
      rw [T.getD (by lia)] at this
      simpa using this
    have hhi : ∀ a ∈ L.drop (SetTable.below t.place j), j < a.1 := fun a ha => by
      obtain ⟨i, hi, rfl⟩ := List.mem_iff_getElem.mp ha
      rw [List.length_drop] at hi
      have := B.hi (SetTable.below t.place j + i) (by lia) (by rw [T.size]; lia)
      rw [T.getD (by lia)] at this
      rw [List.getElem_drop]
      refine Nat.lt_of_le_of_ne this fun q => hj ⟨_, List.getElem_mem (by lia), q.symm⟩
    refine ⟨split.1, ⟨hhi, split.2.1⟩, fun a ha b hb => ?_⟩
    rcases List.mem_cons.mp hb with rfl | hb
    · exact hlo a ha
    · exact split.2.2 a ha b hb
  · intro e he
    rcases List.mem_cons.mp (perm.mem_iff.mp he) with rfl | he
    · exact pathL_le (mask := t.mask) (h := h) (by rw [hp]; simp)
    · exact T.le e he
  · intro e he
    rcases List.mem_cons.mp (perm.mem_iff.mp he) with rfl | he
    · exact ⟨pre, post, hp, fun j' m => mono (hpre j' m)⟩
    · refine el2_2 (T.reach e he) fun pr po e1 e2 => ?_
      exact ⟨pr, po, e1, fun j' m => mono (e2 j' m)⟩
end
structure Own (mask : Nat) (hs : List Int) (owner : Array (Option Nat)) (S : List Nat) : Prop where
  size : owner.size = mask + 1
  len : S.length = hs.length
  le : ∀ j ∈ S, j ≤ mask
  own : ∀ j k, j ≤ mask → (owner.getD j none = some k ↔ S[k]? = some j)
  reach : ∀ (k : Nat) (h : Int) j, hs[k]? = some h → S[k]? = some j → ∃ pre post, pathL mask h = pre ++ j :: post ∧ ∀ j' ∈ pre, j' ∈ S
theorem free_walk {mask : Nat} {owner : Array (Option Nat)} : ∀ T i p, SetTable.layClean.free mask owner T i p = (walkL mask T i p).find? fun j => (owner.getD j (some 0)).isNone
  | 0, i, p => rfl
  | T + 1, i, p => by
    unfold SetTable.layClean.free
    rw [walkL, List.find?_append]
    have e : (run mask i).find? (fun j => (owner.getD j (some 0)).isNone) = ((List.range (SetTable.runEnd mask i + 1 - i)).find? fun k => (owner.getD (i + k) (some 0)).isNone).map (i + ·) := by
      rw [run, List.find?_map]; rfl
    rw [e]
    cases (List.range (SetTable.runEnd mask i + 1 - i)).find? fun k => (owner.getD (i + k) (some 0)).isNone with
    | some k => simp
    | none => simpa using free_walk T _ _
theorem Own.nil (mask : Nat) : Own mask [] (Array.replicate (mask + 1) none) [] where
  size := by simp
  len := rfl
  le := fun _ m => nomatch m
  own := fun j k hj => by
    rw [Array.getD_eq_getD_getElem?, Array.getElem?_eq_getElem (by simp; lia)]
    simp
  reach := fun k h j e => by simp at e
theorem Own.free {mask : Nat} {hs : List Int} {owner : Array (Option Nat)} {S : List Nat} (O : Own mask hs owner S) {j : Nat} (hj : j ≤ mask) : (owner.getD j (some 0)).isNone = true ↔ j ∉ S := by
  have hlt : j < owner.size := by rw [O.size]; lia
  have e1 : ∀ d, owner.getD j d = owner[j] := fun d => by rw [Array.getD_eq_getD_getElem?, Array.getElem?_eq_getElem hlt]; rfl
  have hk := O.own j
  rw [e1] at *
  constructor
  · intro h m
    obtain ⟨k, hk'⟩ := List.getElem?_of_mem m
    have := (hk k hj).mpr hk'
    rw [this] at h; cases h
  · intro h
    cases q : owner[j] with
    | none => rfl
    | some k => exact absurd (List.mem_of_getElem? ((hk k hj).mp q)) h
theorem Own.step {mask : Nat} (g : goodMask mask) {hs : List Int} {owner : Array (Option Nat)} {S : List Nat} (O : Own mask hs owner S) (hl : hs.length ≤ mask) (h : Int) :
    ∃ j, SetTable.layClean.free mask owner (SetTable.turns mask) (SetTable.bits h % (mask + 1)) (SetTable.bits h) = some j ∧ Own mask (hs ++ [h]) (owner.setIfInBounds j (some hs.length)) (S ++ [j]) := by
  rw [free_walk]
  show ∃ j, (pathL mask h).find? _ = some j ∧ _
  have hex : ∃ j ∈ pathL mask h, (owner.getD j (some 0)).isNone = true := by
    obtain ⟨j, hj, hn⟩ := free_slot (L := S.map fun j => (j, (0 : Int), Value.none)) (mask := mask) (by rw [List.length_map, O.len]; exact hl)
    refine ⟨j, cover g h hj, (O.free hj).mpr fun m => hn ⟨(j, 0, Value.none), List.mem_map.mpr ⟨j, m, rfl⟩, rfl⟩⟩
  cases hf : (pathL mask h).find? fun j => (owner.getD j (some 0)).isNone with
  | none =>
    refine el1_2 hex fun j hj hq => ?_
    have := List.find?_eq_none.mp hf j hj
    exact absurd hq this
  | some j =>
    obtain ⟨hq, pre, post, hp, hpre⟩ := List.find?_eq_some_iff_append.mp hf
    have hjm : j ≤ mask := pathL_le (by rw [hp]; simp)
    have hjS : j ∉ S := (O.free hjm).mp hq
    have hpreS : ∀ j' ∈ pre, j' ∈ S := fun j' m => by
      have h1 := hpre j' m
      apply Classical.byContradiction
      intro q
      have := (O.free (pathL_le (by rw [hp]; simp [m]))).mpr q
      rw [this] at h1; simp at h1
    refine ⟨j, rfl, ?_, ?_, ?_, ?_, ?_⟩
    · rw [Array.size_setIfInBounds]; exact O.size
    · simp [O.len]
    · intro j' m
      rcases List.mem_append.mp m with m | m
      · exact O.le j' m
      · rw [List.mem_singleton.mp m]; exact hjm
    · intro j' k hj'
      have hlt : j' < owner.size := by rw [O.size]; lia
      have hk := O.own j' k hj'
      rw [Array.getD_eq_getD_getElem?] at hk ⊢
      by_cases e : j' = j
      · subst e
        rw [Array.getElem?_setIfInBounds_self_of_lt hlt]
        simp only [Option.getD_some, Option.some.injEq]
        constructor
        · rintro rfl
          rw [List.getElem?_append_right (by rw [O.len]; exact Nat.le_refl _), O.len]
          simp
        · intro h1
          by_cases hk' : k < S.length
          · rw [List.getElem?_append_left hk'] at h1
            exact absurd (List.mem_of_getElem? h1) hjS
          · have := (List.getElem?_eq_some_iff.mp h1).1
            rw [List.length_append, List.length_singleton] at this
            rw [← O.len]; lia
      · rw [Array.getElem?_setIfInBounds_ne (Ne.symm e)]
        rw [hk]
        constructor
        · intro h1
          rw [List.getElem?_append_left (List.getElem?_eq_some_iff.mp h1).1]; exact h1
        · intro h1
          by_cases hk' : k < S.length
          · rwa [List.getElem?_append_left hk'] at h1
          · rw [List.getElem?_append_right (by lia)] at h1
            have hz := (List.getElem?_eq_some_iff.mp h1).1
            rw [List.length_singleton] at hz
            have : k - S.length = 0 := by lia
            rw [this] at h1
            simp at h1
            exact absurd h1.symm e
    · intro k h' j' e1 e2
      by_cases hk : k < hs.length
      · rw [List.getElem?_append_left hk] at e1
        rw [List.getElem?_append_left (by rw [O.len]; exact hk)] at e2
        refine el2_2 (O.reach k h' j' e1 e2) fun pr po q1 q2 => ?_
        exact ⟨pr, po, q1, fun x m => List.mem_append_left _ (q2 x m)⟩
      · have hz := (List.getElem?_eq_some_iff.mp e1).1
        rw [List.length_append, List.length_singleton] at hz
        have hk' : k = hs.length := by lia
        subst hk'
        rw [List.getElem?_append_right (Nat.le_refl _)] at e1
        rw [List.getElem?_append_right (by rw [O.len]; exact Nat.le_refl _), O.len] at e2
        simp at e1 e2
        subst e1; subst e2
        exact ⟨pre, post, hp, fun x m => List.mem_append_left _ (hpreS x m)⟩
theorem layClean_own {mask : Nat} (g : goodMask mask) (hashes : Array Int) (hl : hashes.size ≤ mask) : ∃ owner S, SetTable.layClean mask hashes = some owner ∧ Own mask hashes.toList owner S := by
  have key : ∀ (rest hs : List Int) (owner : Array (Option Nat)) (S : List Nat), hs.length + rest.length ≤ mask → Own mask hs owner S →
      ∃ owner' S', rest.foldl (fun acc h => (do let (owner, k) ← acc; let j ← SetTable.layClean.free mask owner (SetTable.turns mask) (SetTable.bits h % (mask + 1)) (SetTable.bits h); pure (owner.setIfInBounds j (some k), k + 1) : Option _)) (some (owner, hs.length)) = some (owner', (hs ++ rest).length) ∧ Own mask (hs ++ rest) owner' S' := by
    intro rest
    induction rest with
    | nil => intro hs owner S _ O; exact ⟨owner, S, by simp, by simpa using O⟩
    | cons h rest ih =>
      intro hs owner S hlen O
      simp only [List.length_cons] at hlen
      refine el1_2 (O.step g (by lia) h) fun j e O' => ?_
      obtain ⟨ow, S', e2, O2⟩ := ih (hs ++ [h]) _ _ (by simp; lia) O'
      refine ⟨ow, S', ?_, by simpa using O2⟩
      rw [List.foldl_cons]
      have : (do let (owner, k) ← some (owner, hs.length); let j ← SetTable.layClean.free mask owner (SetTable.turns mask) (SetTable.bits h % (mask + 1)) (SetTable.bits h); pure (owner.setIfInBounds j (some k), k + 1) : Option _) = some (owner.setIfInBounds j (some hs.length), (hs ++ [h]).length) := by
        simp [e]
      rw [this, e2]
      simp
  refine el2_2 (key hashes.toList [] _ _ (by simpa using hl) (Own.nil mask)) fun owner S e O => ?_
  refine ⟨owner, S, ?_, by simpa using O⟩
  unfold SetTable.layClean
  rw [← Array.foldl_toList]
  have e' := e
  simp only [List.length_nil] at e'
  rw [e']
  rfl
end Mine
namespace Mine
open Classical
theorem laid_tab {mask : Nat} (g : goodMask mask) {es : Array (Int × Value)} (hl : es.size ≤ mask) (finger moves : Nat) (led plain : Bool) :
    ∃ t order L', SetTable.laid mask finger moves led plain (es.map (·.1)) = some (t, order) ∧ Tab t (order.filterMap (es[·]?)) L' ∧ (L'.map (·.2)).Perm es.toList ∧ t.mask = mask ∧ t.led = led ∧ t.plain = plain := by
  refine el2_2 (layClean_own g (es.map (·.1)) (by simpa using hl)) fun owner S e O => ?_
  let live := (List.range (mask + 1)).filterMap fun j => (owner.getD j none).map (j, ·)
  let L' : List Cell := live.filterMap fun p => (es[p.2]?).map fun x => (p.1, x.1, x.2)
  have hS : S.length = es.size := by rw [O.len]; simp
  have hlive : ∀ j k, (j, k) ∈ live ↔ S[k]? = some j := fun j k => by
    simp only [live, List.mem_filterMap, List.mem_range, Option.map_eq_some_iff, Prod.mk.injEq]
    constructor
    · rintro ⟨j', hj', k', hk', rfl, rfl⟩
      exact (O.own j' k' (by lia)).mp hk'
    · intro h
      have hj := O.le j (List.mem_of_getElem? h)
      exact ⟨j, by lia, k, (O.own j k hj).mpr h, rfl, rfl⟩
  have hk : ∀ p ∈ live, p.2 < es.size := fun p hp => by
    have := (hlive p.1 p.2).mp hp
    rw [← hS]; exact (List.getElem?_eq_some_iff.mp this).1
  have hmem : ∀ j k (x : Int × Value), S[k]? = some j → es[k]? = some x → (j, x.1, x.2) ∈ L' := fun j k x h1 h2 => by
    refine List.mem_filterMap.mpr ⟨(j, k), (hlive j k).mpr h1, ?_⟩
    show Option.map (fun x : Int × Value => ((j, x.1, x.2) : Cell)) es[k]? = some (j, x.1, x.2)
    rw [h2]; rfl
  have hfst : ∀ l : List (Nat × Nat), (∀ p ∈ l, p.2 < es.size) → (l.filterMap fun p => (es[p.2]?).map fun x => ((p.1, x.1, x.2) : Cell)).map (·.1) = l.map (·.1) := fun l => by
    induction l with
    | nil => exact fun _ => rfl
    | cons p l ih =>
      intro h
      have h1 := h p List.mem_cons_self
      rw [List.filterMap_cons, Array.getElem?_eq_getElem h1]
      simp only [Option.map_some, List.map_cons]
      rw [ih fun q m => h q (List.mem_cons_of_mem _ m)]
  have hsnd : L'.map (·.2) = live.filterMap fun p => es[p.2]? := by
    simp only [L', List.map_filterMap, Option.map_map]
    congr 1
    funext p
    cases es[p.2]? <;> rfl
  have hpw : live.Pairwise fun a b => a.1 < b.1 := by
    refine List.Pairwise.filterMap (R := fun a b : Nat => a < b) _ (fun a a' h b hb b' hb' => ?_) List.pairwise_lt_range
    refine el1_2 (Option.map_eq_some_iff.mp hb) fun k _ eqz4 => ?_
    subst eqz4
    refine el1_2 (Option.map_eq_some_iff.mp hb') fun k' _ eqz5 => ?_
    subst eqz5
    exact h
  refine ⟨{ mask, place := (live.map (·.1)).toArray, dummies := #[], finger, led, moves, plain }, (live.map (·.2)).toArray, L', ?_, ⟨g, rfl, ?_, ?_, ?_, ?_, ?_⟩, ?_, rfl, rfl, rfl⟩
  · unfold SetTable.laid
    rw [e]; rfl
  · exact (hfst live hk).symm
  · rw [hsnd]
    simp [List.filterMap_map, Function.comp_def]
  · have h1 : (live.map (·.1)).Pairwise (· < ·) := List.pairwise_map.mpr hpw
    rw [← hfst live hk] at h1
    exact List.pairwise_map.mp h1
  · intro c hc
    refine el1_2 (List.mem_filterMap.mp hc) fun p hp hq => ?_
    refine el1_2 (Option.map_eq_some_iff.mp hq) fun x hx eqz6 => ?_
    subst eqz6
    exact O.le _ (List.mem_of_getElem? ((hlive p.1 p.2).mp hp))
  · intro c hc
    refine el1_2 (List.mem_filterMap.mp hc) fun p hp hq => ?_
    refine el1_2 (Option.map_eq_some_iff.mp hq) fun x hx eqz7 => ?_
    subst eqz7
    refine el2_2 (O.reach p.2 x.1 p.1 (by simp [hx]) ((hlive p.1 p.2).mp hp)) fun pre post e1 e2 => ?_
    refine ⟨pre, post, e1, fun j' m => ?_⟩
    obtain ⟨k', hk'⟩ := List.getElem?_of_mem (e2 j' m)
    have hz : k' < es.size := by rw [← hS]; exact (List.getElem?_eq_some_iff.mp hk').1
    exact ⟨_, hmem j' k' es[k'] hk' (Array.getElem?_eq_getElem hz), rfl⟩
  · rw [hsnd, ← filterMap_getElem?_range es]
    have hp : (live.map (·.2)).Perm (List.range es.size) := by
      refine (List.perm_ext_iff_of_nodup ?_ List.nodup_range).mpr fun k => ?_
      · refine List.pairwise_map.mpr (List.pairwise_iff_forall_sublist.mpr fun {a b} hsub => ?_)
        have hab := List.pairwise_iff_forall_sublist.mp hpw hsub
        have ha := (hlive a.1 a.2).mp (hsub.subset (by simp))
        have hb := (hlive b.1 b.2).mp (hsub.subset (by simp))
        intro q
        rw [q, hb] at ha
        injection ha with ha
        lia
      · rw [List.mem_map, List.mem_range]
        constructor
        · rintro ⟨p, hp, rfl⟩; exact hk p hp
        · intro h
          obtain ⟨j, hj⟩ : ∃ j, S[k]? = some j := ⟨S[k]'(by lia), List.getElem?_eq_getElem (by lia)⟩
          exact ⟨(j, k), (hlive j k).mpr hj, rfl⟩
    have := hp.filterMap (fun k => es[k]?)
    rwa [List.filterMap_map] at this
end Mine
namespace Mine
open Classical
section
variable {prog : Program} {w : World} {E : Value → Shared → Prop}
mutual
theorem ofClass_T : ∀ {n : Nat} {v : Value} {d : MV} {A : Around} {s : Shared} {m : Nat} {Q : Bool → Shared → Prop}, TRep s.heap n v d → n ≤ m → Q false s → wpAny (model prog w) A (ofAClassStatement m v) Q E s
  | _, _, _, _, _, m, _, .int _ i t, _, h => by
    cases m <;> (unfold ofAClassStatement; exact wpAny_pure h)
  | n + 1, _, _, A, s, 0, Q, .tup (a := a) (vs := vs) t r, hm, h => by lia
  | n + 1, _, _, A, s, m + 1, Q, .tup (a := a) (vs := vs) t r, hm, h => by
    have hT : s.TypeIs (.ref a) "tuple" := ⟨_, t, rfl⟩
    unfold ofAClassStatement
    refine wpAny_bind (wpAny_typeOf hT ?_)
    dsimp only
    rw [if_pos (by decide)]
    refine wpAny_bind (wpAny_pure ?_)
    simp only [Bool.not_true, Bool.false_eq_true, if_false]
    refine wpAny_bind (wpAny_seqItems t rfl ?_)
    dsimp only
    refine wpAny_bind ?_
    rw [← Array.forIn_toList]
    exact ofClassLoop_T r (by lia) (wpAny_pure h)
theorem ofClassLoop_T : ∀ {n : Nat} {vs : List Value} {ds : List MV} {A : Around} {s : Shared} {m : Nat} {Q : Option Bool × PUnit → Shared → Prop}, TRepAll s.heap n vs ds → n ≤ m → Q (none, ⟨⟩) s →
    wpAny (model prog w) A (forIn vs (none, PUnit.unit) fun y _ => do
      let __do_lift ← ofAClassStatement m y
      if __do_lift = true then pure (ForInStep.done (some true, PUnit.unit)) else do pure PUnit.unit; pure (ForInStep.yield (none, PUnit.unit))) Q E s
  | _, _, _, _, _, _, _, .nil _, _, h => wpAny_pure h
  | _, _, _, A, s, m, Q, .cons x r, hm, h => by
    rw [List.forIn_cons]
    refine wpAny_bind (wpAny_bind (ofClass_T x hm ?_))
    simp only [Bool.false_eq_true, if_false]
    refine wpAny_bind (wpAny_pure (wpAny_pure ?_))
    exact ofClassLoop_T r hm h
end
mutual
theorem hashVal_T : ∀ {n : Nat} {v : Value} {d : MV} {A : Around} {s : Shared} {m : Nat} {Q : Bool → Shared → Prop}, TRep s.heap n v d → n ≤ m → Q true s → wpAny (model prog w) A (hashByValue m v) Q E s
  | _, _, _, _, _, m, _, .int _ i t, _, h => by
    cases m <;> (unfold hashByValue; exact wpAny_pure h)
  | n + 1, _, _, A, s, 0, Q, .tup (a := a) (vs := vs) t r, hm, h => by lia
  | n + 1, _, _, A, s, m + 1, Q, .tup (a := a) (vs := vs) t r, hm, h => by
    have hT : s.TypeIs (.ref a) "tuple" := ⟨_, t, rfl⟩
    unfold hashByValue
    refine wpAny_bind (wpAny_specialOf hT F.slot_tuple_hash.lookup ?_)
    show wpAny _ _ (seqItems? (.ref a) >>= _) _ _ s
    refine wpAny_bind (wpAny_seqItems t rfl ?_)
    refine wpAny_bind ?_
    show wpAny _ _ (forIn (vs.toArray : Array Value) _ _) _ _ s
    rw [← Array.forIn_toList]
    exact hashValLoop_T r (by lia) (wpAny_pure h)
theorem hashValLoop_T : ∀ {n : Nat} {vs : List Value} {ds : List MV} {A : Around} {s : Shared} {m : Nat} {Q : Option Bool × PUnit → Shared → Prop}, TRepAll s.heap n vs ds → n ≤ m → Q (none, ⟨⟩) s →
    wpAny (model prog w) A (forIn vs (none, PUnit.unit) fun y _ => do
      let __do_lift ← hashByValue m y
      if (!__do_lift) = true then pure (ForInStep.done (some false, PUnit.unit)) else do pure PUnit.unit; pure (ForInStep.yield (none, PUnit.unit))) Q E s
  | _, _, _, _, _, _, _, .nil _, _, h => wpAny_pure h
  | _, _, _, A, s, m, Q, .cons x r, hm, h => by
    rw [List.forIn_cons]
    refine wpAny_bind (wpAny_bind (hashVal_T x hm ?_))
    simp only [Bool.not_true, Bool.false_eq_true, if_false]
    refine wpAny_bind (wpAny_pure (wpAny_pure ?_))
    exact hashValLoop_T r hm h
end
noncomputable abbrev KeyAt (h : Heap) (k : List MV) (a : Addr) : Prop := TRep h 6 (.ref a) (.tup k)
noncomputable def hashT (k : List MV) : Int := (MV.tup k).hash
inductive CK (h : Heap) : List Cell → List (List MV) → Prop
  | nil : CK h [] []
  | cons {j : Nat} {p : Addr} {k : List MV} {L : List Cell} {ks : List (List MV)} : KeyAt h k p → CK h L ks → CK h ((j, hashT k, .ref p) :: L) (k :: ks)
theorem CK.mem {h : Heap} {L : List Cell} {ks : List (List MV)} (C : CK h L ks) {e : Cell} (m : e ∈ L) : ∃ k p, k ∈ ks ∧ e.2.1 = hashT k ∧ e.2.2 = .ref p ∧ KeyAt h k p := by
  induction C with
  | nil => cases m
  | cons r _ ih =>
    rcases List.mem_cons.mp m with rfl | m
    · exact ⟨_, _, List.mem_cons_self, rfl, rfl, r⟩
    · refine el2_2 (ih m) fun k p a b => ?_
      exact ⟨k, p, List.mem_cons_of_mem _ a, b⟩
theorem CK.memK {h : Heap} {L : List Cell} {ks : List (List MV)} (C : CK h L ks) {k : List MV} (m : k ∈ ks) : ∃ e p, e ∈ L ∧ e.2.1 = hashT k ∧ e.2.2 = .ref p ∧ KeyAt h k p := by
  induction C with
  | nil => cases m
  | cons r _ ih =>
    rcases List.mem_cons.mp m with rfl | m
    · exact ⟨_, _, List.mem_cons_self, rfl, rfl, r⟩
    · refine el2_2 (ih m) fun e p a b => ?_
      exact ⟨e, p, List.mem_cons_of_mem _ a, b⟩
theorem CK.length {h : Heap} {L : List Cell} {ks : List (List MV)} (C : CK h L ks) : L.length = ks.length := by
  induction C with
  | nil => rfl
  | cons _ _ ih => simp [ih]
theorem CK.keeps {h h' : Heap} {L : List Cell} {ks : List (List MV)} (C : CK h L ks) (hk : ∀ k p, KeyAt h k p → KeyAt h' k p) : CK h' L ks := by
  induction C with
  | nil => exact .nil
  | cons r _ ih => exact .cons (hk _ _ r) ih
theorem CK.perm {h : Heap} {xs ys : List (Int × Value)} (p : xs.Perm ys) : ∀ {L L' : List Cell} {ks : List (List MV)}, L.map (·.2) = xs → L'.map (·.2) = ys → CK h L ks → ∃ ks', CK h L' ks' ∧ ks'.Perm ks := by
  induction p with
  | nil =>
    intro L L' ks e1 e2 C
    obtain rfl := List.map_eq_nil_iff.mp e1
    obtain rfl := List.map_eq_nil_iff.mp e2
    cases C
    exact ⟨[], .nil, List.Perm.refl _⟩
  | cons x _ ih =>
    intro L L' ks e1 e2 C
    cases C with
    | nil => simp at e1
    | @cons j q k L ks r C =>
      simp only [List.map_cons, List.cons.injEq] at e1
      cases L' with
      | nil => simp at e2
      | cons c L' =>
        obtain ⟨j', c2⟩ := c
        simp only [List.map_cons, List.cons.injEq] at e2
        refine el1_2 (ih e1.2 e2.2 C) fun ks' C' p' => ?_
        obtain rfl : c2 = (hashT k, .ref q) := e2.1.trans e1.1.symm
        exact ⟨k :: ks', .cons r C', p'.cons k⟩
  | swap x y l =>
    intro L L' ks e1 e2 C
    cases C with
    | nil => simp at e1
    | @cons j q k L ks r C =>
      cases C with
      | nil => simp at e1
      | @cons j2 q2 k2 L ks r2 C =>
        simp only [List.map_cons, List.cons.injEq] at e1
        refine el0_3 e1 fun eqz1 eqz2 eqz3 => ?_
        subst eqz1
        subst eqz2
        subst eqz3
        match L', e2 with
        | (a, b) :: (a2, b2) :: L', e2 =>
          simp only [List.map_cons, List.cons.injEq] at e2
          obtain ⟨rfl, rfl, e2⟩ := e2
          have key : ∀ {L L' : List Cell} {ks : List (List MV)}, L'.map (·.2) = L.map (·.2) → CK h L ks → CK h L' ks := by
            intro L L' ks e C
            induction C generalizing L' with
            | nil => obtain rfl := List.map_eq_nil_iff.mp e; exact .nil
            | cons r _ ih =>
              cases L' with
              | nil => simp at e
              | cons c L' =>
                obtain ⟨j', c2⟩ := c
                simp only [List.map_cons, List.cons.injEq] at e
                obtain ⟨rfl, e⟩ := e
                exact .cons r (ih e)
          exact ⟨k2 :: k :: ks, .cons r2 (.cons r (key e2 C)), List.Perm.swap _ _ _⟩
  | trans _ _ ih1 ih2 =>
    intro L L' ks e1 e2 C
    rename_i l1 l2 l3 _ _
    obtain ⟨ks1, C1, p1⟩ := ih1 (L' := l2.map fun x => (0, x)) e1 (by rw [List.map_map]; exact List.map_id _) C
    obtain ⟨ks2, C2, p2⟩ := ih2 (by rw [List.map_map]; exact List.map_id _) e2 C1
    exact ⟨ks2, C2, p2.trans p1⟩
theorem seen_false {A : Around} {s : Shared} {k : List MV} {p : Addr} {Q : Bool → Shared → Prop} (hx : KeyAt s.heap k p) : ∀ (ys : List Value), (∀ y ∈ ys, ∃ k' q, y = .ref q ∧ KeyAt s.heap k' q) → Q false s → wpAny (model prog w) A (searchCouldBeSeen (.ref p) ys) Q E s := by
  intro ys hy h
  unfold searchCouldBeSeen
  refine wpAny_bind ?_
  have key : ∀ ys : List Value, (∀ y ∈ ys, ∃ k' q, y = .ref q ∧ KeyAt s.heap k' q) → ∀ (R : Option Bool × PUnit → Shared → Prop), R (none, ⟨⟩) s → wpAny (model prog w) A (forIn ys (none, PUnit.unit) fun y (_ : Option Bool × PUnit) => do
      let very := match (Value.ref p), y with
        | .ref a, .ref b => a == b
        | _, _ => false
      if (very || (carriedByValue (.ref p) && carriedByValue y)) = true then pure (ForInStep.yield (none, PUnit.unit)) else
      let b1 ← eqIsQuiet 8 (.ref p)
      if (!b1) = true then pure (ForInStep.done (some true, PUnit.unit)) else
      let b2 ← eqIsQuiet 8 y
      if (!b2) = true then pure (ForInStep.done (some true, PUnit.unit)) else
      let b3 ← ofAClassStatement 8 (.ref p)
      if b3 = true then pure (ForInStep.done (some true, PUnit.unit)) else
      let b4 ← ofAClassStatement 8 y
      if b4 = true then pure (ForInStep.done (some true, PUnit.unit)) else
      pure (ForInStep.yield (none, PUnit.unit))) R E s := by
    intro ys
    induction ys with
    | nil => intro _ R h; exact wpAny_pure h
    | cons y ys ih =>
      intro hy R h
      rw [List.forIn_cons]
      refine el2_2 (hy y List.mem_cons_self) fun k' q eqz6 hq => ?_
      subst eqz6
      have ih' := ih (fun y m => hy y (List.mem_cons_of_mem _ m)) R h
      dsimp only
      by_cases e : p = q
      · subst e
        rw [if_pos (by simp)]
        exact wpAny_bind (wpAny_pure ih')
      · rw [if_neg (by simp [carriedByValue, e])]
        refine wpAny_bind (wpAny_bind (eqIsQuiet_T hx (by lia) ?_))
        simp only [Bool.not_true, Bool.false_eq_true, if_false]
        refine wpAny_bind (eqIsQuiet_T hq (by lia) ?_)
        simp only [Bool.not_true, Bool.false_eq_true, if_false]
        refine wpAny_bind (ofClass_T hx (by lia) ?_)
        simp only [Bool.false_eq_true, if_false]
        refine wpAny_bind (ofClass_T hq (by lia) ?_)
        simp only [Bool.false_eq_true, if_false]
        exact wpAny_pure ih'
  exact key ys hy _ (wpAny_pure h)
end
end Mine
namespace Mine
open Classical
section
variable {prog : Program} {w : World} {E : Value → Shared → Prop}
theorem Tab.fits {t : SetTable} {es : Array (Int × Value)} {L : List Cell} (T : Tab t es L) (hl : L.length ≤ t.mask) : t.fits es.size = true := by
  simp only [SetTable.fits, Bool.and_eq_true, beq_iff_eq, decide_eq_true_eq]
  refine ⟨by rw [T.size, T.esSize], ?_⟩
  unfold SetTable.fill
  rw [T.size, T.dum]; simpa using hl
theorem goodMask.odd {m : Nat} (g : goodMask m) : m % 2 = 1 := by rcases g with rfl | rfl | rfl <;> rfl
theorem goodMask.le {m : Nat} (g : goodMask m) : m ≤ 127 := by rcases g with rfl | rfl | rfl <;> lia
theorem split_two {α : Type} {a b : α} {p1 p2 q1 q2 : List α} (h : p1 ++ a :: q1 = p2 ++ b :: q2) (ha : a ∉ p2) (hb : b ∉ p1) : a = b := by
  have e1 : (p1 ++ a :: q1)[p1.length]? = some a := by simp
  have e2 : (p2 ++ b :: q2)[p2.length]? = some b := by simp
  rcases Nat.lt_trichotomy p1.length p2.length with l | l | l
  · rw [h, List.getElem?_append_left l] at e1
    exact absurd (List.mem_of_getElem? e1) ha
  · rw [h, l, e2] at e1
    exact (Option.some.inj e1).symm
  · rw [← h, List.getElem?_append_left l] at e2
    exact absurd (List.mem_of_getElem? e2) hb
theorem search_at {A : Around} {s : Shared} {a : Addr} {o : Obj} {es : Array (Int × Value)} {ep : Nat} {t : SetTable} {L : List Cell} {ks : List (List MV)} {k : List MV} {x : Addr} {Q : SetFound → Shared → Prop}
    (hu : A.units ≤ 9100) (ho : s.heap.get? a = some o) (hd : o.data = .set es ep t) (T : Tab t es L) (hl : L.length ≤ t.mask) (C : CK s.heap L ks) (hx : KeyAt s.heap k x)
    (h1 : k ∈ ks → Q (.there none) s) (h2 : k ∉ ks → ∀ j pre post, pathL t.mask (hashT k) = pre ++ j :: post → (∀ j' ∈ pre, isAt L j') → ¬ isAt L j → Q (.free j false) s) :
    wpAny (model prog w) A (setSearch a (.ref x) (hashT k) true) Q E s := by
  have hf := T.fits hl
  have hcl : A.units + 6 < cLine := by show _ < 9900; lia
  have key : ∀ (fuel : Nat) (R pre0 : List Nat) (stand : Option SetTable.Probe), pathL t.mask (hashT k) = pre0 ++ R → (∀ j ∈ pre0, ∃ e ∈ L, e.1 = j ∧ ∀ p, e.2.2 = .ref p → ¬ KeyAt s.heap k p) → R.length < fuel →
      IsRest t.mask (stand.getD (t.probeStart (hashT k))) R → (stand.getD (t.probeStart (hashT k))).dummy = none → wpAny (model prog w) A (setSearchFrom a (.ref x) (hashT k) true fuel stand) Q E s := by
    intro fuel
    induction fuel with
    | zero => intro R pre0 stand _ _ h; lia
    | succ fuel ih =>
      intro R pre0 stand hp hpre hR hrest hdum
      have hempty : ∃ j ∈ R, t.slot j = .empty := by
        refine el1_2 (path_free T hl (hashT k)) fun j hj hq => ?_
        rw [hp] at hj
        rcases List.mem_append.mp hj with m | m
        · refine el1_3 (hpre j m) fun e he eqz1 _ => ?_
          subst eqz1
          obtain ⟨i, hi⟩ := List.getElem?_of_mem he
          rw [T.live hi] at hq; cases hq
        · exact ⟨j, m, hq⟩
      unfold setSearchFrom
      refine wpAny_bind (wpAny_setState_of ho hd hf ?_)
      dsimp only
      have hodd : t.gaveWay = false := by
        unfold SetTable.gaveWay
        rw [T.mask.odd]; rfl
      rw [hodd]
      simp only [Bool.false_eq_true, if_false]
      have hfuel : R.length ≤ 10 * SetTable.turns t.mask := by
        have := pathL_len t.mask (hashT k)
        rw [hp, List.length_append] at this; lia
      have pr := probed (t := t) (hashAt := fun i => (es[i]?.map (·.1)).getD 0) (h := hashT k) T.noDummy _ R _ hrest hfuel hempty hdum
      show wpAny _ _ (match SetTable.probe.go t (fun i => (es[i]?.map (·.1)).getD 0) (hashT k) (10 * SetTable.turns t.mask) (stand.getD (t.probeStart (hashT k))) with | some met => _ | _ => _) _ _ s
      generalize SetTable.probe.go t (fun i => (es[i]?.map (·.1)).getD 0) (hashT k) (10 * SetTable.turns t.mask) (stand.getD (t.probeStart (hashT k))) = met at pr
      have other : ∀ j' i, t.slot j' = .live i → (es[i]?.map (·.1)).getD 0 ≠ hashT k → ∃ e ∈ L, e.1 = j' ∧ ∀ p, e.2.2 = .ref p → ¬ KeyAt s.heap k p := fun j' i hs hh => by
        rcases T.slot j' with ⟨_, hq⟩ | ⟨i', e, hi, rfl, hq⟩
        · rw [hs] at hq; cases hq
        · rw [hs] at hq; injection hq with hq; subst hq
          refine ⟨e, List.mem_of_getElem? hi, rfl, fun p hp hk => hh ?_⟩
          refine el2_4 (C.mem (List.mem_of_getElem? hi)) fun k' q _ e1 e2 e3 => ?_
          rw [hp] at e2; cases e2
          have : k' = k := by have := e3.inj hk; simpa using this
          subst this
          rw [T.es?, hi]; exact e1
      cases pr with
      | empty pre j post e1 e2 e3 =>
        dsimp only
        refine wpAny_pure ?_
        have hj : ¬ isAt L j := by
          intro hz2
          refine el1_2 hz2 fun e he eqz3 => ?_
          subst eqz3
          obtain ⟨i, hi⟩ := List.getElem?_of_mem he
          rw [T.live hi] at e3; cases e3
        have hall : ∀ j' ∈ pre0 ++ pre, ∃ e ∈ L, e.1 = j' ∧ ∀ p, e.2.2 = .ref p → ¬ KeyAt s.heap k p := fun j' m => by
          rcases List.mem_append.mp m with m | m
          · exact hpre j' m
          · refine el1_2 (e2 j' m) fun i q1 q2 => ?_
            exact other j' i q1 q2
        refine h2 (fun hk => ?_) j (pre0 ++ pre) post (by rw [hp, e1, List.append_assoc]) (fun j' m => let ⟨e, he, q, _⟩ := hall j' m; ⟨e, he, q⟩) hj
        refine el2_4 (C.memK hk) fun e p he q1 q2 q3 => ?_
        refine el2_2 (T.reach e he) fun pr po r1 r2 => ?_
        rw [q1, hp, e1, ← List.append_assoc] at r1
        have := split_two r1.symm (a := e.1) (b := j) (fun m => ?_) (fun m => hj (r2 j m))
        · exact hj ⟨e, he, this⟩
        · refine el1_3 (hall _ m) fun e' he' w1 w2 => ?_
          obtain ⟨i, hi⟩ := List.getElem?_of_mem he
          obtain ⟨i', hi'⟩ := List.getElem?_of_mem he'
          have := T.uniq hi' hi w1
          subst this
          rw [hi] at hi'
          cases hi'
          exact w2 p q2 q3
      | cand pre j post i next e1 e2 e3 e4 e5 e6 =>
        dsimp only
        obtain ⟨e, hi, hej⟩ : ∃ e, L[i]? = some e ∧ e.1 = j := by
          rcases T.slot j with ⟨_, hq⟩ | ⟨i', e, hi, hj, hq⟩
          · rw [e3] at hq; cases hq
          · rw [e3] at hq; injection hq with hq; subst hq; exact ⟨e, hi, hj⟩
        refine el2_4 (C.mem (List.mem_of_getElem? hi)) fun k' q hk' c1 c2 c3 => ?_
        have hei : es[i]? = some (hashT k', .ref q) := by
          rw [T.es?, hi, ← c1, ← c2]; rfl
        have main : wpAny (model prog w) A (do
            let some (_, y) := es[i]? | unsupported "internal:set-entry"
            let equal ← holding [y] (eqBool y (.ref x))
            let (es', _, t') ← setState a
            if true && equal then return .there none
            let some same := t'.sameMemory t.moves t.mask | unsupported "set.changed-during-lookup:is-the-new-block-at-the-old-address"
            let still ← match (if same then t'.slot j else .empty) with
              | .live i' => match es'[i']? with
                | some (_, y') => do pure (if ← isSame y' y then some i' else none)
                | none => pure none
              | _ => pure none
            match still with
            | none => rule "set.search.anew"; setSearchFrom a (.ref x) (hashT k) true fuel none
            | some i' => if equal then return .there (some i') else setSearchFrom a (.ref x) (hashT k) true fuel (some next)) Q E s := by
          rw [hei]
          dsimp only
          refine wpAny_bind (wpAny_holding (eqBool_T c3 hx hcl ?_))
          rw [py_eqv_decide (key_plain c3.key) (key_plain hx.key)]
          refine wpAny_bind (wpAny_setState_of ho hd hf ?_)
          dsimp only
          by_cases e : k' = k
          · subst e
            rw [decide_eq_true rfl]
            simp only [Bool.and_self, if_true]
            exact wpAny_pure (h1 hk')
          · have hne : ¬ MV.tup k' = MV.tup k := fun q => e (by injection q)
            rw [decide_eq_false hne]
            simp only [Bool.and_false, Bool.false_eq_true, if_false]
            have hsm : t.sameMemory t.moves t.mask = some true := by unfold SetTable.sameMemory; rw [if_pos (by simp)]
            rw [hsm]
            dsimp only
            rw [if_pos rfl, e3]
            dsimp only
            rw [hei]
            dsimp only
            refine wpAny_bind ?_
            unfold isSame
            dsimp only
            rw [if_pos (by simp)]
            refine wpAny_pure (wpAny_bind (wpAny_pure ?_))
            simp only [if_true]
            have hpost : post ≠ [] := by
              refine el1_2 hempty fun j0 m0 z0 => ?_
              rw [e1] at m0
              rcases List.mem_append.mp m0 with m0 | m0
              · refine el1_2 (e2 j0 m0) fun i0 z1 _ => ?_
                rw [z0] at z1; cases z1
              · rcases List.mem_cons.mp m0 with rfl | m0
                · rw [z0] at e3; cases e3
                · rintro rfl; cases m0
            refine ih post (pre0 ++ pre ++ [j]) (some next) (by rw [hp, e1]; simp) (fun j' m => ?_) (by rw [e1] at hR; simp at hR; lia) (e5 hpost) e6
            rcases List.mem_append.mp m with m | m
            · rcases List.mem_append.mp m with m | m
              · exact hpre j' m
              · refine el1_2 (e2 j' m) fun i0 z1 z2 => ?_
                exact other j' i0 z1 z2
            · rw [List.mem_singleton.mp m]
              refine ⟨_, List.mem_of_getElem? hi, hej, fun p hp' hk => e ?_⟩
              rw [c2] at hp'; cases hp'
              have := c3.inj hk; simpa using this
        cases hled : t.led with
        | true =>
          simp only [Bool.not_true, Bool.false_eq_true, if_false]
          exact main
        | false =>
          simp only [Bool.not_false, if_true]
          refine wpAny_bind (seen_false hx _ (fun y hy => ?_) ?_)
          · simp only [List.mem_map, Array.mem_toList_iff, Array.mem_filter] at hy
            refine el1_2 hy fun z inz4 eqz5 => ?_
            subst eqz5
            obtain ⟨hz, _⟩ := inz4
            have hz' : z ∈ L.map (·.2) := by rw [← T.items]; simpa using hz
            refine el1_2 (List.mem_map.mp hz') fun e he eqz6 => ?_
            subst eqz6
            refine el2_4 (C.mem he) fun k' q _ _ c2 c3 => ?_
            exact ⟨k', q, c2, c3⟩
          · simp only [Bool.false_eq_true, if_false]
            exact main
  unfold setSearch
  refine key 100000 (pathL t.mask (hashT k)) [] none rfl (fun _ m => nomatch m) ?_ (rest_start t _) rfl
  have h1 := pathL_len t.mask (hashT k)
  have h2 := T.mask.le
  unfold SetTable.turns at h1
  lia
end
end Mine
namespace Mine
open Classical
section
variable {prog : Program} {w : World} {E : Value → Shared → Prop}
noncomputable abbrev setObj (es : Array (Int × Value)) (ep : Nat) (t : SetTable) : Obj := { cls := .type "set", dict := none, data := .set es ep t }
noncomputable def SetAt (led : Bool) (h : Heap) (a : Addr) (ks : List (List MV)) : Prop :=
  ∃ es ep t L, h.get? a = some (setObj es ep t) ∧ Tab t es L ∧ L.length * 5 < t.mask * 3 ∧ t.plain = true ∧ t.led = led ∧ CK h L ks ∧ ks.Nodup
theorem keyAt_same {h h' : Heap} {a : Addr} {es ep t} (ho : h.get? a = some (setObj es ep t)) (hs : ∀ b o, b ≠ a → h.get? b = some o → h'.get? b = some o) : ∀ k p, KeyAt h k p → KeyAt h' k p := fun k p x =>
  x.keeps fun b vs e => hs b _ (by rintro rfl; rw [ho] at e; have q := congrArg Obj.data (Option.some.inj e); cases q) e
theorem tooFull_eq {t : SetTable} {es : Array (Int × Value)} {L : List Cell} (T : Tab t es L) : t.tooFull = decide (L.length * 5 ≥ t.mask * 3) := by
  unfold SetTable.tooFull SetTable.fill
  rw [T.size, T.dum]; simp
theorem relay_at {A : Around} {s : Shared} {a : Addr} {es : Array (Int × Value)} {ep : Nat} {t : SetTable} {L : List Cell} {n : Nat} {Q : Unit → Shared → Prop} (ho : s.heap.get? a = some (setObj es ep t)) (T : Tab t es L) (hl : L.length ≤ t.mask) {m : Nat} (hm : SetTable.sizeAbove n = m + 1) (g : goodMask m)
    (hz : es.size ≤ m) (h : ∀ t' es' L', Tab t' es' L' → (L'.map (·.2)).Perm es.toList → t'.mask = m → t'.led = t.led → t'.plain = t.plain → Q () { s with heap := s.heap.update a (Obj.putSet es' t') }) : wpAny (model prog w) A (setRelay a n) Q E s := by
  unfold setRelay
  refine wpAny_bind (wpAny_setState_of ho rfl (T.fits hl) ?_)
  dsimp only
  rw [hm]
  have h127 := g.le
  rw [if_neg (by rw [sizeLine_eq]; lia)]
  refine el3_6 (laid_tab g hz t.finger (t.movedTo m) t.led t.plain) fun t' order L' e T' hp e1 e2 e3 => ?_
  have er : t.relaid (es.map (·.1)) n = some (t', order) := by
    unfold SetTable.relaid
    rw [hm]; exact e
  rw [er]
  refine wpAny_bind ?_
  show wpAny _ _ (if ((order.filterMap (es[·]?)).size != es.size) = true then unsupported "internal:set-table-lost-an-element" else pure (order.filterMap (es[·]?), t')) _ _ s
  have hsz : (order.filterMap (es[·]?)).size = es.size := by
    have := hp.length_eq
    rw [List.length_map] at this
    rw [T'.esSize, this, Array.length_toList]
  rw [if_neg (by rw [hsz]; simp)]
  refine wpAny_pure ?_
  refine wpAny_storeSet_of ho rfl (h t' _ L' T' hp e1 e2 e3) (by rw [hsz, sizeLine_eq]; lia)
theorem add_at {A : Around} {s : Shared} {a : Addr} {led : Bool} {ks : List (List MV)} {k : List MV} {x : Addr} {Q : Bool → Shared → Prop} (hu : A.units ≤ 9100) (S : SetAt led s.heap a ks) (hx : KeyAt s.heap k x) (hn : ks.length < 64)
    (h : ∀ b h' ks', Heap.SameBut a s.heap h' → SetAt led h' a ks' → (k ∈ ks → ks' = ks) → (k ∉ ks → ks'.Perm (k :: ks)) → Q b { s with heap := h' }) : wpAny (model prog w) A (setAddHashed a (.ref x) (hashT k)) Q E s := by
  refine el4_7 S fun es ep t L ho T hload hpl hled C nd => ?_
  have hlen := C.length
  have hm127 := T.mask.le
  have hl : L.length ≤ t.mask := by lia
  unfold setAddHashed setAddHashedIn
  refine wpAny_holding (wpAny_bind (wpAny_setState_of ho rfl (T.fits hl) ?_))
  dsimp only
  have hbs : byScan (.ref x) es = false := rfl
  rw [hbs]
  simp only [Bool.false_eq_true, if_false]
  refine wpAny_bind (search_at hu ho rfl T hl C hx (fun hk => ?_) fun hk j pre post hp hpre hj => ?_)
  · dsimp only
    have e : s = { s with heap := s.heap } := by cases s; rfl
    have := h false s.heap ks (Heap.SameBut.refl a s.heap) ⟨es, ep, t, L, ho, T, hload, hpl, hled, C, nd⟩ (fun _ => rfl) (fun q => absurd hk q)
    rw [e]; exact wpAny_pure this
  · dsimp only
    refine wpAny_bind (wpAny_setState_of ho rfl (T.fits hl) ?_)
    dsimp only
    refine el1_6 (T.put (x := .ref x) hj hp hpre) fun L1 T1 p1 q1 q2 q3 q4 => ?_
    rw [q2, hpl]
    simp only [if_true]
    refine wpAny_bind (hashVal_T hx (by lia) ?_)
    simp only [if_true]
    have hL1 : L1.length = L.length + 1 := by rw [p1.length_eq]; rfl
    have hz1 : (SetTable.insertAt es (t.put j).2 (hashT k, .ref x)).size = L.length + 1 := by rw [T1.esSize, hL1]
    refine wpAny_bind (wpAny_storeSet_of ho rfl ?_ (by rw [hz1, sizeLine_eq]; lia))
    have sb1 := Heap.SameBut.update s.heap a (Obj.putSet (SetTable.insertAt es (t.put j).2 (hashT k, Value.ref x)) (t.put j).1)
    have ho1 := Heap.get?_update_self (Obj.putSet (SetTable.insertAt es (t.put j).2 (hashT k, Value.ref x)) (t.put j).1) ho (by rw [putSet_of _ _ rfl]; rfl)
    rw [putSet_of _ _ rfl] at ho1
    have kk := keyAt_same ho sb1.extBut
    have C1' : CK (s.heap.update a (Obj.putSet (SetTable.insertAt es (t.put j).2 (hashT k, Value.ref x)) (t.put j).1)) ((j, hashT k, .ref x) :: L) (k :: ks) := .cons (kk _ _ hx) (C.keeps kk)
    refine el1_2 (CK.perm ((p1.map (·.2)).symm) rfl rfl C1') fun ks1 C1 pk1 => ?_
    have nd1 : ks1.Nodup := (pk1.nodup_iff).mpr (List.nodup_cons.mpr ⟨hk, nd⟩)
    generalize s.heap.update a (Obj.putSet (SetTable.insertAt es (t.put j).2 (hashT k, Value.ref x)) (t.put j).1) = h1 at sb1 ho1 kk C1' C1 ⊢
    have hl1 : L1.length ≤ (t.put j).1.mask := by rw [q4]; rcases T.mask with e | e | e <;> lia
    rw [tooFull_eq T1]
    by_cases hfull : L1.length * 5 ≥ (t.put j).1.mask * 3
    · rw [decide_eq_true hfull]
      simp only [Bool.not_false, Bool.and_self, if_true]
      have hsz : ∃ m, SetTable.sizeAbove (SetTable.grown (es.size + 1)) = m + 1 ∧ goodMask m ∧ L.length + 1 ≤ m ∧ (L.length + 1) * 5 < m * 3 := by
        rw [T.esSize]
        rw [q4] at hfull
        rcases T.mask with e | e | e
        · have : L.length = 4 := by lia
          rw [this]; exact ⟨31, by decide, .inr (.inl rfl), by lia, by lia⟩
        · have : L.length = 18 := by lia
          rw [this]; exact ⟨127, by decide, .inr (.inr rfl), by lia, by lia⟩
        · lia
      refine el1_4 hsz fun m hm g hz hld => ?_
      refine wpAny_bind (relay_at (s := { s with heap := h1 }) ho1 T1 hl1 hm g (by rw [hz1]; exact hz) fun t' es' L' T' hp' e1 e2 e3 => ?_)
      refine wpAny_pure ?_
      have sb2 := Heap.SameBut.update h1 a (Obj.putSet es' t')
      have ho2 := Heap.get?_update_self (Obj.putSet es' t') ho1 (by rw [putSet_of _ _ rfl]; rfl)
      rw [putSet_of _ _ rfl] at ho2
      have C2 := C1.keeps (keyAt_same ho1 sb2.extBut)
      refine el1_2 (CK.perm (hp'.symm) (T1.items.symm) rfl C2) fun ks2 C2 pk2 => ?_
      have hL' : L'.length = L.length + 1 := by
        have := hp'.length_eq
        rw [List.length_map] at this
        rw [this, Array.length_toList, hz1]
      refine h true _ ks2 (sb1.trans sb2) ⟨es', _, t', L', ho2, T', by rw [hL', e1]; exact hld, by rw [e3, q2, hpl], by rw [e2, q1, hled], C2, pk2.nodup_iff.mpr nd1⟩ (fun q => absurd q hk) fun _ => pk2.trans pk1
    · rw [decide_eq_false hfull]
      simp only [Bool.not_false, Bool.and_false, Bool.false_eq_true, if_false]
      refine wpAny_pure ?_
      exact h true _ ks1 sb1 ⟨_, _, _, L1, ho1, T1, by lia, by rw [q2, hpl], by rw [q1, hled], C1, nd1⟩ (fun q => absurd q hk) fun _ => pk1
theorem setAdd_at {A : Around} {s : Shared} {a : Addr} {led : Bool} {ks : List (List MV)} {k : List MV} {x : Addr} {Q : Bool → Shared → Prop} (hu : A.units ≤ 9100) (S : SetAt led s.heap a ks) (hx : KeyAt s.heap k x) (hn : ks.length < 64)
    (h : ∀ b h' tk ks', Heap.SameBut a s.heap h' → SetAt led h' a ks' → (k ∈ ks → ks' = ks) → (k ∉ ks → ks'.Perm (k :: ks)) → Q b { s with heap := h', toks := tk }) : wpAny (model prog w) A (setAdd a (.ref x)) Q E s := by
  unfold setAdd
  refine wpAny_holding (wpAny_bind (pyHash_T hx (by show _ < 9900; lia) ?_))
  exact add_at (s := { s with toks := _ }) hu S hx hn fun b h' ks' h1 h2 h3 h4 => h b h' _ ks' h1 h2 h3 h4
end
end Mine
namespace Mine
open Classical
theorem slot_setiter_next : Slot "set_iterator" "__next__" "set_iterator.__next__" :=
  .of (owner := "set_iterator") (n := "__next__") (by rw [typeLookup_type, builtinLookup_eq_fast]; kernel_rfl) (by decide +kernel) (by decide +kernel) (by decide +kernel)
    (by first | exact .inl (by decide +kernel) | exact .inr (by decide +kernel)) (by rw [isSubtype_type]; kernel_rfl)
theorem slot_setiter_iter : Slot "set_iterator" "__iter__" "set_iterator.__iter__" :=
  .of (owner := "set_iterator") (n := "__iter__") (by rw [typeLookup_type, builtinLookup_eq_fast]; kernel_rfl) (by decide +kernel) (by decide +kernel) (by decide +kernel)
    (by first | exact .inl (by decide +kernel) | exact .inr (by decide +kernel)) (by rw [isSubtype_type]; kernel_rfl)
theorem entry_setiter_next : entryFor table "set_iterator.__next__" = some Builtin.«set_iterator.__next__» := entryFor_of_tree (by kernel_rfl)
theorem entry_setiter_iter : entryFor table "set_iterator.__iter__" = some Builtin.«dict_keyiterator.__iter__» :=
  entryFor_alias (id' := "dict_keyiterator.__iter__") (by kernel_rfl) rfl (by decide +kernel) (by kernel_rfl)
theorem entry_set_iter : entryFor table "set.__iter__" = some Builtin.«frozenset.__iter__» :=
  entryFor_alias (id' := "frozenset.__iter__") (by kernel_rfl) rfl (by decide +kernel) (by kernel_rfl)
theorem args_setiter_next (a : Value) : argsOk "set_iterator.__next__" ⟨[a], []⟩ := by unfold argsOk; kernel_rfl
theorem args_setiter_iter (a : Value) : argsOk "set_iterator.__iter__" ⟨[a], []⟩ := by unfold argsOk; kernel_rfl
theorem pick_perm {α : Type} (next : Nat → Nat) : ∀ (fuel k : Nat) (left : List α) (out : Array α), left.length ≤ fuel → (pickOrder.go next fuel k left out).toList.Perm (out.toList ++ left)
  | 0, k, left, out, h => by
    obtain rfl := List.length_eq_zero_iff.mp (Nat.le_zero.mp h)
    unfold pickOrder.go; simp
  | fuel + 1, k, left, out, h => by
    unfold pickOrder.go
    cases e : left[next k % left.length]? with
    | none =>
      by_cases h0 : left.length = 0
      · obtain rfl := List.length_eq_zero_iff.mp h0
        simp
      · have := Nat.mod_lt (next k) (Nat.pos_of_ne_zero h0)
        rw [List.getElem?_eq_getElem this] at e; cases e
    | some x =>
      obtain ⟨hlt, hx⟩ := List.getElem?_eq_some_iff.mp e
      dsimp only
      refine (pick_perm next fuel (k + 1) _ _ (by rw [List.length_eraseIdx_of_lt hlt]; lia)).trans ?_
      rw [Array.toList_push, List.append_assoc]
      refine List.Perm.append_left _ ?_
      have e1 : left = left.take (next k % left.length) ++ x :: left.drop (next k % left.length + 1) := by
        rw [← hx, List.getElem_cons_drop, List.take_append_drop]
      have e2 : left.eraseIdx (next k % left.length) = left.take (next k % left.length) ++ left.drop (next k % left.length + 1) := List.eraseIdx_eq_take_drop_succ ..
      rw [e2]
      exact (List.perm_middle (a := x) (l₁ := left.take (next k % left.length)) (l₂ := left.drop (next k % left.length + 1))).symm.trans (List.Perm.of_eq e1.symm)
theorem pickOrder_perm {α : Type} (next : Nat → Nat) (xs : Array α) : (pickOrder next xs).toList.Perm xs.toList := by
  have := pick_perm next xs.size 0 xs.toList #[] (by simp)
  unfold pickOrder
  simpa using this
section
variable {prog : Program} {w : World} {E : Value → Shared → Prop}
noncomputable def byText (w : World) : Bool := w.params.followText "set-order"
theorem byText_at {A : Around} {s : Shared} {Q : Bool → Shared → Prop} (h : Q (byText w) s) : wpAny (model prog w) A setsByText Q E s :=
  wpAny_bind (wpAny_askSetting (wpAny_pure h))
noncomputable def walkOf (w : World) (a : Addr) (es : Array (Int × Value)) (ep : Nat) : List Value := (if byText w = true then (pickOrder (w.params.setOrder a ep) es).toList else es.toList).map (·.2)
theorem walkOf_perm (w : World) (a : Addr) (es : Array (Int × Value)) (ep : Nat) : (walkOf w a es ep).Perm (es.toList.map (·.2)) := by
  unfold walkOf
  split
  · exact (pickOrder_perm _ es).map _
  · exact List.Perm.refl _
noncomputable def IsSetIter (h : Heap) (I a : Addr) (es : Array (Int × Value)) (ep : Nat) (t : SetTable) (i : Nat) : Prop :=
  ∃ o sl, h.get? I = some o ∧ o.cls = .type "set_iterator" ∧ o.data = .fields #[rawInt (sl : Nat), rawInt (i : Nat), .ref a, rawInt (es.size : Nat), rawInt (ep : Nat)] ∧ (byText w = false → SetTable.below t.place sl = i)
theorem IsSetIter.typeIs {s : Shared} {I a : Addr} {es ep t i} (h : IsSetIter (w := w) s.heap I a es ep t i) : s.TypeIs (.ref I) "set_iterator" := let ⟨o, _, ho, hc, _⟩ := h; ⟨o, ho, hc⟩
structure SetNow (w : World) (h : Heap) (a : Addr) (es : Array (Int × Value)) (ep : Nat) (t : SetTable) (L : List Cell) : Prop where
  ho : h.get? a = some (setObj es ep t)
  tab : Tab t es L
  len : L.length ≤ t.mask
  plain : t.plain = true
  led : t.led = !byText w
theorem setNext_at {A : Around} {s : Shared} {a : Addr} {es ep t L} {sl i : Nat} {Q : Option (Value × Nat) → Shared → Prop} (N : SetNow w s.heap a es ep t L) (hs : byText w = false → SetTable.below t.place sl = i)
    (h : ∀ r : Option (Value × Nat), r.map (·.1) = (walkOf w a es ep)[i]? → (∀ v n, r = some (v, n) → byText w = false → SetTable.below t.place n = i + 1) → Q r s) : wpAny (model prog w) A (setNext a sl i ep) Q E s := by
  unfold setNext
  have hf := N.tab.fits N.len
  refine wpAny_bind (wpAny_setState_of N.ho rfl hf ?_)
  dsimp only
  refine wpAny_bind (byText_at ?_)
  cases hb : byText w with
  | true =>
    simp only [if_true]
    rw [if_neg (by simp)]
    refine wpAny_bind ?_
    unfold setWalk
    refine wpAny_bind (wpAny_setState_of N.ho rfl hf ?_)
    dsimp only
    refine wpAny_bind (byText_at ?_)
    rw [hb]
    simp only [if_true]
    refine wpAny_bind (wpAny_askSetting (wpAny_pure (wpAny_pure (h _ ?_ ?_))))
    · unfold walkOf
      rw [hb, if_pos rfl, List.getElem?_map, Array.getElem?_toList, Option.map_map]
      rfl
    · intro v n _ q; rw [hb] at q; cases q
  | false =>
    simp only [Bool.false_eq_true, if_false]
    have hdr : (!t.plain && decide (es.size > 1)) = false := by rw [N.plain]; rfl
    show wpAny _ _ (if (!t.plain && decide (es.size > 1)) = true then _ else _) _ _ s
    rw [hdr, if_neg Bool.false_ne_true]
    have hml : (!t.led && !es.isEmpty) = false := by rw [N.led, hb]; rfl
    show wpAny _ _ ((if (!t.led && !es.isEmpty) = true then unsupported "set:maker-not-led" else pure ()) >>= _) _ _ s
    rw [hml, if_neg Bool.false_ne_true]
    refine wpAny_bind (wpAny_pure ?_)
    have hsl := hs hb
    rw [hsl]
    have hw : (walkOf w a es ep)[i]? = (L[i]?).map (·.2.2) := by
      unfold walkOf
      rw [hb, if_neg Bool.false_ne_true, List.getElem?_map, Array.getElem?_toList, N.tab.es?, Option.map_map]; rfl
    rw [N.tab.es?, N.tab.get?]
    cases hL : L[i]? with
    | none =>
      refine wpAny_pure (h none ?_ fun _ _ q => nomatch q)
      rw [hw, hL]; rfl
    | some e =>
      refine wpAny_pure (h (some (e.2.2, e.1 + 1)) ?_ fun v n q _ => ?_)
      · rw [hw, hL]; rfl
      · cases q
        have hi : i < L.length := (List.getElem?_eq_some_iff.mp hL).1
        have he : L[i] = e := by rw [List.getElem?_eq_getElem hi] at hL; exact Option.some.inj hL
        have B := N.tab.below (e.1 + 1)
        have hg : t.place.getD i 0 = e.1 := by rw [N.tab.getD hi, he]
        apply Nat.le_antisymm
        · apply Nat.le_of_not_lt
          intro q
          have h1 := B.lo (i + 1) q
          have h2 := B.le
          have h3 := N.tab.rising i (i + 1) (by lia) (by lia)
          lia
        · apply Nat.le_of_not_lt
          intro q
          have h1 := B.hi i (by lia) (by rw [N.tab.size]; exact hi)
          lia
theorem setNow_ext {h h' : Heap} {I a : Addr} {es ep t L} (N : SetNow w h a es ep t L) (hne : a ≠ I) (hs : ∀ b o, b ≠ I → h.get? b = some o → h'.get? b = some o) : SetNow w h' a es ep t L := ⟨hs _ _ hne N.ho, N.tab, N.len, N.plain, N.led⟩
theorem next_set_item {A : Around} {s : Shared} {I a : Addr} {es ep t L} {i : Nat} {v : Value} {Q : Option Value → Shared → Prop} (N : SetNow w s.heap a es ep t L) (hit : IsSetIter (w := w) s.heap I a es ep t i) (hv : (walkOf w a es ep)[i]? = some v)
    (hQ : ∀ h', IsSetIter (w := w) h' I a es ep t (i + 1) → Heap.SameBut I s.heap h' → Q (some v) { s with heap := h' }) : wpAny (model prog w) A (pyNext (.ref I)) Q E s := by
  refine el2_4 (id hit) fun o sl ho hc hd hsl => ?_
  have hf := N.tab.fits N.len
  unfold pyNext
  refine wpAny_bind (wpAny_attempt (wpAny_callSpecial?_slot (name := Str.ofString "__next__") hit.typeIs slot_setiter_next
    (wpAny_call_entry slot_setiter_next hit.typeIs entry_setiter_next ?_ (args_setiter_next _))))
  show wpAny _ _ (fieldsOf (.ref I) >>= _) _ _ s
  refine wpAny_bind (wpAny_fieldsOf ho hd ?_)
  show wpAny _ _ (setEntries a >>= _) _ _ s
  refine wpAny_bind (wpAny_setEntries_of N.ho rfl hf ?_)
  rw [if_neg (by simp)]
  show wpAny _ _ (setNext a (sl : Int).toNat (i : Int).toNat (ep : Int).toNat >>= _) _ _ s
  simp only [Int.toNat_natCast]
  refine wpAny_bind (setNext_at N hsl fun r hr hn => ?_)
  rw [hv] at hr
  refine el1_2 (Option.map_eq_some_iff.mp hr) fun inz1 eqz2 eqz3 => ?_
  subst eqz2
  subst eqz3
  obtain ⟨v', n⟩ := inz1
  dsimp only
  refine wpAny_bind (wpAny_setField ho hd (by simp) ?_)
  have hg1 := Heap.get?_update_self (Obj.mapFields (·.setIfInBounds 0 (rawInt (n : Nat)))) ho (Obj.isFreed_of_fields (Obj.data_mapFields hd _))
  have hd1 := Obj.data_mapFields hd (·.setIfInBounds 0 (rawInt (n : Nat)))
  refine wpAny_bind (wpAny_setField hg1 hd1 (by simp) (wpAny_pure ⟨v', rfl, wpAny_pure (hQ _ ?_ ?_)⟩))
  · refine ⟨_, n, Heap.get?_update_self _ hg1 (Obj.isFreed_of_fields (Obj.data_mapFields hd1 _)), ?_, ?_, hn v' n rfl⟩
    · rw [Obj.cls_mapFields, Obj.cls_mapFields]; exact hc
    · rw [Obj.data_mapFields hd1]; simp [rawInt]
  · exact (Heap.SameBut.update ..).trans (Heap.SameBut.update ..)
theorem next_set_end {A : Around} {s : Shared} {I a : Addr} {es ep t L} {i : Nat} {Q : Option Value → Shared → Prop} (hh : A.handled = none) (N : SetNow w s.heap a es ep t L) (hit : IsSetIter (w := w) s.heap I a es ep t i) (hv : (walkOf w a es ep)[i]? = none)
    (hQ : ∀ h', Heap.ExtBut I s.heap h' → Q none { s with heap := h' }) : wpAny (model prog w) A (pyNext (.ref I)) Q E s := by
  refine el2_4 (id hit) fun o sl ho hc hd hsl => ?_
  have hf := N.tab.fits N.len
  unfold pyNext
  refine wpAny_bind (wpAny_attempt (wpAny_callSpecial?_slot (name := Str.ofString "__next__") hit.typeIs slot_setiter_next
    (wpAny_call_entry slot_setiter_next hit.typeIs entry_setiter_next ?_ (args_setiter_next _))))
  show wpAny _ _ (fieldsOf (.ref I) >>= _) _ _ s
  refine wpAny_bind (wpAny_fieldsOf ho hd ?_)
  show wpAny _ _ (setEntries a >>= _) _ _ s
  refine wpAny_bind (wpAny_setEntries_of N.ho rfl hf ?_)
  rw [if_neg (by simp)]
  show wpAny _ _ (setNext a (sl : Int).toNat (i : Int).toNat (ep : Int).toNat >>= _) _ _ s
  simp only [Int.toNat_natCast]
  refine wpAny_bind (setNext_at N hsl fun r hr hn => ?_)
  rw [hv] at hr
  obtain rfl := Option.map_eq_none_iff.mp hr
  dsimp only
  refine wpAny_bind (wpAny_setField ho hd (by simp) ?_)
  show wpAny _ _ (newExc (.type "StopIteration") [] >>= _) _ _ _
  refine wpAny_bind ?_
  simp only [newExc, newTuple]
  refine wpAny_bind (wpAny_newObj_type ?_ (by size_fits))
  refine wpAny_bind (m := firstArgMember _ _) (wpAny_of_eq (a := Value.none) (by first | rfl | (simp only [firstArgMember]; rfl)) ?_)
  refine wpAny_newObj_type ?_ (by size_fits)
  simp only [raiseNew]
  refine wpAny_bind (wpAny_handled ?_)
  rw [show A.in1.handled = none from hh]
  refine wpAny_bind (wpAny_pure (wpAny_throw ?_))
  refine wpAny_bind (wpAny_isInstance (T := "StopIteration") (b := true) ⟨_, Heap.get?_push_size _ rfl, rfl⟩ isSubtype_stop ?_)
  exact wpAny_pure (hQ _ (((Heap.SameBut.update ..).extBut.push _).push _))
theorem iter_setiter {A : Around} {s : Shared} {I a : Addr} {es ep t} {i : Nat} {Q : Value → Shared → Prop} (hit : IsSetIter (w := w) s.heap I a es ep t i) (h : Q (.ref I) s) : wpAny (model prog w) A (pyIter (.ref I)) Q E s := by
  refine wpAny_pyIter_slot hit.typeIs slot_setiter_iter (wpAny_call_entry slot_setiter_iter hit.typeIs entry_setiter_iter ?_ (args_setiter_iter _))
  exact wpAny_pure ⟨_, rfl, "set_iterator", _, hit.typeIs, slot_setiter_next.lookup, h⟩
theorem iter_set {A : Around} {s : Shared} {a : Addr} {es ep t L} {Q : Value → Shared → Prop} (N : SetNow w s.heap a es ep t L)
    (h : Q (.ref s.heap.objs.size) { s with heap := s.heap.push { cls := .type "set_iterator", data := .fields #[rawInt 0, rawInt 0, .ref a, rawInt (es.size : Nat), rawInt (ep : Nat)] } }) : wpAny (model prog w) A (pyIter (.ref a)) Q E s := by
  have hf := N.tab.fits N.len
  have hT : s.TypeIs (.ref a) "set" := ⟨_, N.ho, rfl⟩
  refine wpAny_pyIter_slot hT PySem.F.slot_set_iter (wpAny_call_entry PySem.F.slot_set_iter hT entry_set_iter ?_ (PySem.F.args_set_iter_1 _))
  unfold Builtin.«frozenset.__iter__» Builtin.Frozenset.slot0 slotArgs
  simp only [List.isEmpty_nil, Bool.not_true, Bool.false_eq_true, ↓reduceIte, bind_assoc, List.length_nil, bne_self_eq_false]
  unfold Builtin.Frozenset.addrOf Builtin.Frozenset.sizeOf
  refine wpAny_bind (wpAny_pure ?_)
  try dsimp only
  refine wpAny_bind (wpAny_pure ?_)
  refine wpAny_bind (wpAny_bind (wpAny_setEntries_of N.ho rfl hf (wpAny_pure ?_)))
  refine wpAny_bind ?_
  unfold setDrawn
  refine wpAny_bind (wpAny_setState_of N.ho rfl hf ?_)
  dsimp only
  refine wpAny_bind (byText_at (wpAny_pure ?_))
  have hdr : (!byText w && (!t.plain && decide (es.size > 1))) = false := by rw [N.plain]; simp
  show wpAny _ _ (if (!byText w && (!t.plain && decide (es.size > 1))) = true then _ else _) _ _ s
  rw [hdr, if_neg Bool.false_ne_true]
  refine wpAny_bind (wpAny_pure ?_)
  refine wpAny_bind (wpAny_setEpoch_of N.ho rfl hf ?_)
  refine wpAny_bind (wpAny_newObj_type (wpAny_pure ⟨_, rfl, "set_iterator", _, ⟨_, Heap.get?_push_size _ rfl, rfl⟩, slot_setiter_next.lookup, h⟩) (by size_fits))
theorem hint_set {A : Around} {s : Shared} {r : Addr} {Q : Bool → Shared → Prop} (hT : s.TypeIs (.ref r) "set") (h : Q false s) : wpAny (model prog w) A (Builtin.List.listLengthHint (.ref r)) Q E s := by
  unfold Builtin.List.listLengthHint
  refine wpAny_bind (wpAny_specialOf hT PySem.F.slot_set_len.lookup ?_)
  generalize hid : ("set.__len__" : String) = id0
  wp_delta
  rw [show splitId id0 = some ("set", "__len__") from by subst hid; decide +kernel]
  subst hid
  refine wpAny_bind (wpAny_isInstance (T := "set") (b := true) hT (by rw [isSubtype_type]; kernel_rfl) ?_)
  refine wpAny_ite_split (fun hab => absurd hab (by decide)) (fun _ => ?_)
  refine wpAny_ite_split (fun _ => ?_) (fun hab => absurd (by decide +kernel) hab)
  refine wpAny_bind (wpAny_typeOf hT ?_)
  exact wpAny_pure h
theorem walks_set {A : Around} (hh : A.handled = none) (I a : Addr) (hne : a ≠ I) (es : Array (Int × Value)) (ep : Nat) (t : SetTable) (L : List Cell) :
    Walks prog w A I [I, a] [I] es.size (fun i v => (walkOf w a es ep)[i]? = some v) (fun i h => IsSetIter (w := w) h I a es ep t i ∧ SetNow w h a es ep t L) where
  sub := fun b hb => by simp at hb; simp [hb]
  frame := fun _ _ _ st hk => ⟨let ⟨o, sl, ho, r⟩ := st.1; ⟨o, sl, hk I (by simp) o ho, r⟩, ⟨hk a (by simp) _ st.2.ho, st.2.tab, st.2.len, st.2.plain, st.2.led⟩⟩
  item := fun i s Q E hi st hQ => by
    have hl : i < (walkOf w a es ep).length := by rw [(walkOf_perm w a es ep).length_eq]; simpa using hi
    refine next_set_item st.2 st.1 (List.getElem?_eq_getElem hl) fun h' hit' hs' => ?_
    exact hQ _ h' s.toks (List.getElem?_eq_getElem hl) ⟨hit', setNow_ext st.2 hne hs'.extBut⟩ fun b o hb e => hs'.extBut b o (fun h => hb (by simp [h])) e
  done := fun s Q E st hQ => next_set_end hh st.2 st.1 (List.getElem?_eq_none (by rw [(walkOf_perm w a es ep).length_eq]; simp)) fun h' he' => hQ h' s.toks fun b o hb e => he' b o (fun h => hb (by simp [h])) e
  self := fun _ _ _ _ st hQ => iter_setiter st.1 hQ
theorem kdl_set (a : Addr) (es : Array (Int × Value)) (ep : Nat) (t : SetTable) (L : List Cell) : KdlSrc prog w "set" a a es.size (fun i v => (walkOf w a es ep)[i]? = some v) (fun h => SetNow w h a es ep t L) where
  type := fun _ hm => ⟨_, hm.ho, rfl⟩
  there := fun _ hm => ⟨Heap.lt_size hm.ho, Heap.lt_size hm.ho⟩
  keep := fun _ _ hm hk => ⟨hk a (.inl rfl) _ hm.ho, hm.tab, hm.len, hm.plain, hm.led⟩
  notList := by decide
  notTuple := by decide
  hint := fun _ _ _ _ hm hq => hint_set ⟨_, hm.ho, rfl⟩ hq
  iter := fun _ s hh hm => ⟨_, _, (fun _ _ hq => iter_set hm hq), walks_set hh _ a (Nat.ne_of_lt (Heap.lt_size hm.ho)) es ep t L, ⟨⟨_, 0, Heap.get?_push_size _ rfl, rfl, rfl, fun _ => by
    have B := hm.tab.below 0
    cases e : SetTable.below t.place 0 with
    | zero => rfl
    | succ n => exact absurd (B.lo 0 (by lia)) (Nat.not_lt_zero _)⟩, ⟨Heap.get?_push_of_some _ hm.ho, hm.tab, hm.len, hm.plain, hm.led⟩⟩⟩
end
end Mine
namespace Mine
open Classical
section
variable {prog : Program} {w : World} {E : Value → Shared → Prop}
inductive KeyItems (h : Heap) : List Value → List (List MV) → Prop
  | nil : KeyItems h [] []
  | cons {p : Addr} {k : List MV} {vs : List Value} {ks : List (List MV)} : KeyAt h k p → KeyItems h vs ks → KeyItems h (.ref p :: vs) (k :: ks)
theorem KeyItems.keeps {h h' : Heap} (hk : ∀ k p, KeyAt h k p → KeyAt h' k p) {vs : List Value} {ks : List (List MV)} (x : KeyItems h vs ks) : KeyItems h' vs ks := by
  induction x with
  | nil => exact .nil
  | cons r _ ih => exact .cons (hk _ _ r) ih
theorem KeyItems.length {h : Heap} {vs : List Value} {ks : List (List MV)} (x : KeyItems h vs ks) : vs.length = ks.length := by
  induction x with
  | nil => rfl
  | cons _ _ ih => simp [ih]
theorem fresh_set (led : Bool) {h : Heap} {a : Addr} (ho : h.get? a = some (setObj #[] 0 (.fresh 0 0 led))) : SetAt led h a [] :=
  ⟨#[], 0, _, [], ho, ⟨.inl rfl, rfl, rfl, rfl, List.Pairwise.nil, (fun _ m => nomatch m), (fun _ m => nomatch m)⟩, by show 0 * 5 < 7 * 3; lia, rfl, rfl, .nil, List.nodup_nil⟩
structure SetOfL (ks all : List (List MV)) : Prop where
  nd : ks.Nodup
  mem : ∀ k, k ∈ ks ↔ k ∈ all
theorem SetAt.nodup {led : Bool} {h : Heap} {a : Addr} {ks : List (List MV)} (S : SetAt led h a ks) : ks.Nodup := by
  obtain ⟨_, _, _, _, _, _, _, _, _, _, nd⟩ := S; exact nd
theorem SetAt.keepsAt {led : Bool} {h h' : Heap} {a : Addr} {ks : List (List MV)} (S : SetAt led h a ks) (ha : ∀ o, h.get? a = some o → h'.get? a = some o) (hk : ∀ k p, KeyAt h k p → KeyAt h' k p) : SetAt led h' a ks := by
  refine el4_7 S fun es ep t L ho T r1 r2 r3 C nd => ?_
  exact ⟨es, ep, t, L, ha _ ho, T, r1, r2, r3, C.keeps hk, nd⟩
theorem keyAt_ext {h h' : Heap} {I : Addr} {o : Obj} {vs : Array Value} (ho : h.get? I = some o) (hd : o.data = .fields vs) (hs : Heap.ExtBut I h h') : ∀ k p, KeyAt h k p → KeyAt h' k p := fun k p x =>
  x.keeps fun b ws e => hs b _ (by rintro rfl; rw [ho] at e; cases e; cases hd) e
theorem set_loop {A : Around} {R : Result → Shared → Prop} {l I S : Addr} {items : Array Value} {led : Bool} (hh : A.handled = none) (hu : A.units ≤ 9090) (hlI : l ≠ I) (hSI : S ≠ I) (hlS : l ≠ S) (all : List (List MV)) (hall : all.length < 64) :
    ∀ (rest : List (List MV)) (i : Nat) (ks : List (List MV)) (s : Shared), all.drop i = rest → items.size = all.length → i ≤ all.length → s.heap.IsListIter I l i → s.heap.IsList l items → KeyItems s.heap items.toList all → SetAt led s.heap S ks → (∀ k, k ∈ ks ↔ k ∈ all.take i) → ks.length ≤ i →
      (∀ h' tk ks', SetAt led h' S ks' → SetOfL ks' all → (∀ b o, b ≠ S → b ≠ I → s.heap.get? b = some o → h'.get? b = some o) → R (.ok (.ret .none)) { s with heap := h', toks := tk }) →
      codeAny (model prog w) A (.builtin "set.update.loop" ⟨[.ref S, .ref I], []⟩) R s := by
  intro rest
  induction rest with
  | nil =>
    intro i ks s hd hsz hi hit hl hk hS hmem hlen hR
    have hie : i = all.length := by
      have := congrArg List.length hd
      rw [List.length_drop, List.length_nil] at this; lia
    refine codeAny_builtin PyProof.Rows.F.entry_set_update_loop ?_
    rw [Around.under_plainId PyProof.Rows.F.plain_set_update_loop _]
    show wpAny _ A.in1 (pyNext (.ref I) >>= _) _ _ s
    refine el1_3 (id hit) fun o ho hc hdd => ?_
    refine wpAny_bind (wpAny_pyNext_list_end (A := A.in1) hh hit hl (by simp [hie, hsz]) fun h' he => ?_)
    show wpAny _ A.in1 (ret Value.none) _ _ _
    refine wpAny_pure (hR h' s.toks ks (hS.keepsAt (fun o e => he _ _ hSI e) (keyAt_ext ho hdd he)) ⟨hS.nodup, fun k => by rw [hmem, hie, List.take_length]⟩ fun b o h1 h2 e => he b o h2 e)
  | cons k rest ih =>
    intro i ks s hd hsz hi hit hl hk hS hmem hlen hR
    have hlt := (drop_at hd).1
    have hget : all[i]? = some k := (drop_at hd).2.1
    have hdr := (drop_at hd).2.2
    refine codeAny_builtin PyProof.Rows.F.entry_set_update_loop ?_
    rw [Around.under_plainId PyProof.Rows.F.plain_set_update_loop _]
    show wpAny _ A.in1 (pyNext (.ref I) >>= _) _ _ s
    refine el1_3 (id hit) fun o ho hc hdd => ?_
    have hitem : ∀ {vs : List Value} {ks : List (List MV)}, KeyItems s.heap vs ks → ∀ {i : Nat} {k : List MV}, ks[i]? = some k → ∃ p, vs[i]? = some (.ref p) ∧ KeyAt s.heap k p := by
      intro vs ks x
      induction x with
      | nil => intro i k e; simp at e
      | @cons p k' vs ks r _ ih =>
        intro i k e
        cases i with
        | zero => simp at e; subst e; exact ⟨p, rfl, r⟩
        | succ i => simpa using ih (i := i) (by simpa using e)
    refine el1_2 (hitem hk hget) fun p hp hkp => ?_
    refine wpAny_bind (wpAny_pyNext_list_item (A := A.in1) hit hl (x := .ref p) (by rw [← Array.getElem?_toList]; exact hp) fun h' hit' hs => ?_)
    have kx := keyAt_ext ho hdd hs.extBut
    show wpAny _ A.in1 (holding [Value.ref p] (setAdd S (.ref p)) >>= _) _ _ _
    refine wpAny_bind (wpAny_holding (setAdd_at (s := { s with heap := h' }) (A := A.in1) (by show A.units + 1 ≤ 9100; lia) (hS.keepsAt (fun o e => hs.extBut _ _ hSI e) kx) (kx _ _ hkp) (by lia) fun b h2 tk ks' hs2 hS2 hin hout => ?_))
    obtain ⟨es0, ep0, t0, L0, hoS, _⟩ := hS.keepsAt (fun o e => hs.extBut _ _ hSI e) kx
    have kx2 := keyAt_same hoS hs2.extBut
    have hmem' : ∀ k', k' ∈ ks' ↔ k' ∈ all.take (i + 1) := fun k' => by
      have ht : all.take (i + 1) = all.take i ++ [k] := by rw [List.take_add_one, hget]; rfl
      rw [ht, List.mem_append, List.mem_singleton, ← hmem]
      by_cases q : k ∈ ks
      · rw [hin q]
        exact ⟨.inl, fun h => h.elim id fun e => e ▸ q⟩
      · rw [(hout q).mem_iff, List.mem_cons]
        exact or_comm
    have hlen' : ks'.length ≤ i + 1 := by
      by_cases q : k ∈ ks
      · rw [hin q]; lia
      · rw [(hout q).length_eq]; simp; lia
    refine wpAny_pure ⟨plainId_quiet PyProof.Rows.F.plain_set_update_loop _, ih (i + 1) ks' _ hdr hsz hlt (hit'.at fun o e => hs2.extBut _ _ (Ne.symm hSI) e) ((hl.extBut hs.extBut hlI).extBut hs2.extBut hlS) ((hk.keeps kx).keeps kx2) hS2 hmem' hlen' fun h3 tk3 ks3 a1 a2 a3 => hR h3 tk3 ks3 a1 a2 fun b o h1 h2 e => a3 b o h1 h2 (hs2.extBut b o h1 (hs.extBut b o h2 e))⟩
theorem set_new1 {A : Around} {s : Shared} (a : Value) {Q₁ : Value → Shared → Prop}
    (h : Q₁ (.ref s.heap.objs.size) { s with heap := s.heap.push (setObj #[] 0 (.fresh 0 0 (!byText w))) }) :
    codeAny (model prog w) A (.call (.builtin "set.__new__") ⟨[.type "set", a], []⟩) (wants Q₁ E) s := by
  refine codeAny_of_tree ?_
  show wpAny _ A.in1 (do checkBuiltinCall "set.__new__" ⟨[.type "set", a], []⟩; again (.builtin "set.__new__" ⟨[.type "set", a], []⟩)) _ _ s
  refine wpAny_bind (wpAny_of_eq (F.newCall_set_1 a) (wpAny_pure ⟨plainId_quiet F.plain_set_new _, codeAny_builtin F.entry_set_new ?_⟩))
  rw [Around.under_plainId F.plain_set_new _]
  unfold Builtin.«set.__new__» Builtin.Frozenset.newClass
  have hsub := sub_set_self
  obtain ⟨hp, g, d, tk, os⟩ := s
  dsimp only
  wp_walk
  refine wpAny_askSetting (wpAny_pure ?_)
  dsimp only
  simp only [newObj]
  refine wpAny_bind (wpAny_alloc (wpAny_pure ?_))
  exact wpAny_pure h
set_option maxHeartbeats 3200000 in
theorem call_set_at {A : Around} {s : Shared} {l : Addr} {items : Array Value} {n : Nat} {all : List (List MV)} {Q : Value → Shared → Prop} (hh : A.handled = none) (hu : A.units ≤ 9000) (ho : s.heap.get? l = some (seqObj "list" items n)) (hk : KeyItems s.heap items.toList all) (hall : all.length < 64)
    (h : ∀ h' tk ks, SetAt (!byText w) h' s.heap.objs.size ks → SetOfL ks all → (∀ b o, s.heap.get? b = some o → h'.get? b = some o) → Q (.ref s.heap.objs.size) { s with heap := h', toks := tk }) :
    wpAny (model prog w) A (call (.type "set") [.ref l]) Q E s := by
  refine el2_1 (F.called_set.mro) fun c tl hmro => ?_
  have hmade := F.called_set.made
  have hsub := F.called_set.sub
  refine wpAny_call (codeAny_of_tree ?_)
  show wpAny _ _ (callAny (.type "set") _) _ _ _
  refine wpAny_pure ⟨Code.quiet_builtin _ (by decide +kernel), codeAny_builtin F.entry_type_call ?_⟩
  rw [Around.under_plain (weight_type_call_type "set" [.ref l] []) rfl]
  have h1 := F.called_set.notType
  have h2 := F.called_set.canCreate
  have hct := F.typeCall_set_1 (.ref l)
  repeat (any_goals (first | assumption | wp_step))
  refine codeAny_mono (set_new1 (.ref l) (E := E) (Q₁ := fun obj s₁ => obj = .ref s.heap.objs.size ∧ s₁ = { s with heap := s.heap.push (setObj #[] 0 (.fresh 0 0 (!byText w))) }) ⟨rfl, rfl⟩) fun r s₁ hr => ?_
  cases r with
  | error e => exact hr
  | ok fl =>
    cases fl with
    | ret obj =>
      obtain ⟨rfl, rfl⟩ := hr
      have hS : (s.heap.push (setObj #[] 0 (.fresh 0 0 (!byText w)))).get? s.heap.objs.size = some (setObj #[] 0 (.fresh 0 0 (!byText w))) := Heap.get?_push_size _ rfl
      have hT : Shared.TypeIs { s with heap := s.heap.push (setObj #[] 0 (.fresh 0 0 (!byText w))) } (.ref s.heap.objs.size) "set" := ⟨_, hS, rfl⟩
      have hli := F.called_set.init.lookup
      have hbi := F.called_set.init.bind (.ref s.heap.objs.size)
      repeat (any_goals (first | assumption | wp_step))
      refine codeAny_mono (codeAny_call_builtin (R := wants (fun r s₂ => r = .none ∧ ∃ h' tk ks, s₂ = { s with heap := h', toks := tk } ∧ SetAt (!byText w) h' s.heap.objs.size ks ∧ SetOfL ks all ∧
          (∀ b o, s.heap.get? b = some o → h'.get? b = some o)) E) F.called_set.init.plain F.entry_set_init (check_set_init_1 hT ?_)) fun r₂ s₂ hr₂ => ?_
      · have hol' : (s.heap.push (setObj #[] 0 (.fresh 0 0 (!byText w)))).get? l = some (seqObj "list" items n) := Heap.get?_push_of_some _ ho
        have hsls := F.sub_list_set
        have hslf := F.sub_list_frozenset
        have hne : (Value.type "list" == Value.type "dict") = false := by decide
        have hl1 : (s.heap.push (setObj #[] 0 (.fresh 0 0 (!byText w)))).IsList l items := ⟨_, hol', rfl, n, rfl⟩
        unfold Builtin.«set.__init__» noKeywords Builtin.Frozenset.updateFrom
        generalize hPI : pyIter = PI
        wp_walk
        subst hPI
        refine wpAny_pyIter_list hl1 ?_
        refine wpAny_bind (wpAny_runValue ?_)
        have hlS : l < s.heap.objs.size := Heap.lt_size ho
        have hSz : s.heap.objs.size ≠ (s.heap.push (setObj #[] 0 (.fresh 0 0 (!byText w)))).objs.size := by rw [Heap.size_push]; exact Nat.ne_of_lt (Nat.lt_succ_self _)
        have hlz : l ≠ (s.heap.push (setObj #[] 0 (.fresh 0 0 (!byText w)))).objs.size := by rw [Heap.size_push]; exact Nat.ne_of_lt (Nat.lt_succ_of_lt hlS)
        have kx : ∀ k p, KeyAt s.heap k p → KeyAt (((s.heap.push (setObj #[] 0 (.fresh 0 0 (!byText w))))).push { cls := .type "list_iterator", data := .fields #[.ref l, .int 0 0] }) k p := fun k p x => x.keeps fun b vs e => Heap.get?_push_of_some _ (Heap.get?_push_of_some _ e)
        refine set_loop (A := _) (all := all) (led := !byText w) (items := items) (l := l) (I := (s.heap.push (setObj #[] 0 (.fresh 0 0 (!byText w)))).objs.size) (S := s.heap.objs.size) ?_ ?_ hlz hSz (Nat.ne_of_lt hlS) hall all 0 [] _ rfl
          (by have := hk.length; simpa using this) (Nat.zero_le _) ⟨_, Heap.get?_push_size _ rfl, rfl, rfl⟩ (hl1.push _) (hk.keeps kx) (fresh_set _ (Heap.get?_push_of_some _ hS)) (fun k => by simp) (Nat.zero_le _) fun h' tk ks a1 a2 a3 => ?_
        · simp [hh]
        · show A.units + 1 + 1 ≤ 9090
          lia
        · refine wpAny_pure ?_
          show wpAny _ _ (ret Value.none) _ _ _
          refine wpAny_pure ⟨rfl, h', tk, ks, rfl, a1, a2, fun b o e => a3 b o (Nat.ne_of_lt (Heap.lt_size e)) ?_ (Heap.get?_push_of_some _ (Heap.get?_push_of_some _ e))⟩
          rw [Heap.size_push]; exact Nat.ne_of_lt (Nat.lt_succ_of_lt (Heap.lt_size e))
      · cases r₂ with
        | error e => exact hr₂
        | ok fl₂ =>
          cases fl₂ with
          | ret r =>
            obtain ⟨rfl, h', tk, ks, rfl, a1, a2, a3⟩ := hr₂
            repeat (any_goals (first | assumption | wp_step))
            exact h _ _ _ a1 a2 a3
          | _ => exact hr₂.elim
    | _ => exact hr.elim
end
end Mine
namespace Mine
open Classical
section
variable {prog : Program} {w : World} {c : Cx prog w} {k : Nat} {sc : List (Str × NameKind)}
noncomputable def keyS (p : Int × List Int) : List MV := [.int p.1, itup p.2]
theorem keyS_inj {p q : Int × List Int} (h : keyS p = keyS q) : p = q := by
  unfold keyS at h
  simp only [List.cons.injEq, MV.int.injEq, itup_inj, and_true] at h
  exact Prod.ext h.1 h.2
theorem keys_ints (n : Nat) : ∀ is : List Int, keys n (is.map MV.int) = true
  | [] => rfl
  | i :: is => by
    have : (MV.int i).key n = true := by cases n <;> rfl
    simp [keys, this, keys_ints n is]
theorem keyS_key (p : Int × List Int) : (MV.tup (keyS p)).key 6 = true := by
  simp [MV.key, keys, keyS, itup, keys_ints]
theorem items_of {h : Heap} {μ : MHeap} : ∀ {l : List (Int × List Int)} {vs : List Value}, RepAll h μ vs (l.map embS) → KeyItems h vs (l.map keyS)
  | [], _, .nil => .nil
  | p :: l, _, .cons r rs => by
    have hr : Rep h μ _ (MV.tup (keyS p)) := r
    have hk := hr.key (keyS_key p)
    refine el2_4 (hr.isTup) fun a vs eqz1 _ _ _ => ?_
    subst eqz1
    exact .cons hk (items_of rs)
theorem unmap {α β : Type} {f : α → β} {l : List α} : ∀ {ks : List β}, (∀ k ∈ ks, k ∈ l.map f) → ∃ r : List α, r.map f = ks
  | [], _ => ⟨[], rfl⟩
  | k :: ks, h => by
    obtain ⟨r, rfl⟩ := unmap fun k m => h k (List.mem_cons_of_mem _ m)
    refine el1_2 (List.mem_map.mp (h k List.mem_cons_self)) fun a _ eqz2 => ?_
    subst eqz2
    exact ⟨a :: r, rfl⟩
theorem set_walk {h : Heap} {μ : MHeap} : ∀ {L : List Cell} {r : List (Int × List Int)}, CK h L (r.map keyS) → (∀ {b : Addr} {vs : List Value}, h.get? b = some (tupObj vs) → μ b = none) → RepAll h μ (L.map (·.2.2)) (r.map embS)
  | [], r, C, hm => by
    cases r with
    | nil => exact .nil
    | cons _ _ => cases C
  | e :: L, r, C, hm => by
    cases r with
    | nil => cases C
    | cons p r =>
      cases C with | cons x C =>
      refine .cons ?_ (set_walk C hm)
      have key : ∀ {n : Nat} {v : Value} {d : MV}, TRep h n v d → Rep h μ v d := by
        intro n v d x
        induction x using TRep.rec (motive_2 := fun n vs ds _ => RepAll h μ vs ds) with
        | int n i t => exact .int i t
        | tup e _ ih => exact .tup (hm e) e ih
        | nil n => exact .nil
        | cons _ _ ih1 ih2 => exact .cons ih1 ih2
      exact key x
theorem S0.tupOut {μ : MHeap} {s : Shared} (x : S0 c μ s) {b : Addr} {vs : List Value} (e : s.heap.get? b = some (tupObj vs)) : μ b = none := by
  cases m : μ b with
  | none => rfl
  | some mo =>
    have r := x.mu b mo m
    have : ∀ o, s.heap.get? b = some o → o.cls = .type "tuple" := fun o q => by rw [e] at q; cases q; rfl
    cases mo with
    | list vs => obtain ⟨its, n, e', _⟩ := r; simpa [seqObj] using this _ e'
    | idict es => obtain ⟨kvs, ⟨o, es', ep, e', hx, _⟩, _⟩ := r; have := this _ e'; rw [hx.1] at this; simp at this
    | tdict es => obtain ⟨o, tes, ep, xs, e', hx, _⟩ := r; have := this _ e'; rw [hx.1] at this; simp at this
    | pin its vs => obtain ⟨n, e', _⟩ := r; simpa [seqObj] using this _ e'
    | ipin kvs ep es => obtain ⟨⟨o, es', e', hx, _⟩, _⟩ := r; have := this _ e'; rw [hx.1] at this; simp at this
    | inst C d => simpa using this _ r
    | attrs es => obtain ⟨les, n, e', _⟩ := r; simpa using this _ e'
theorem sorted_set {A : Around} {s : Shared} {μ : MHeap} {a : Addr} {r : List (Int × List Int)} {Q : MV → MHeap → Prop} (rm : Room A 0) (x : S0 c μ s) (hS : SetAt (!byText w) s.heap a (r.map keyS)) (hz : r.length < 64) (h : Q (.flist ((srt startLt r).map embS)) μ) :
    OK0 c A (call (.builtin "sorted") [.ref a]) μ s Q := by
  refine el4_7 hS fun es ep t L ho T r1 r2 r3 C nd => ?_
  have hlen : L.length ≤ t.mask := by lia
  have N : SetNow w s.heap a es ep t L := ⟨ho, T, hlen, r2, r3⟩
  have hLr : L.length = r.length := by have := C.length; simpa using this
  have hw := walkOf_perm w a es ep
  obtain ⟨L', hL', pL'⟩ : ∃ L' : List Cell, L'.map (·.2.2) = walkOf w a es ep ∧ (L'.map (·.2)).Perm es.toList := by
    unfold walkOf
    split
    · refine ⟨(pickOrder (w.params.setOrder a ep) es).toList.map fun q => (0, q), by rw [List.map_map]; rfl, ?_⟩
      rw [List.map_map]
      exact (List.Perm.of_eq (List.map_id _)).trans (pickOrder_perm _ es)
    · exact ⟨L, by rw [T.items, List.map_map]; rfl, by rw [T.items]⟩
  refine el1_2 (CK.perm pL'.symm T.items.symm rfl C) fun ks' C' pk => ?_
  obtain ⟨r', rfl⟩ := unmap (l := r) (f := keyS) (ks := ks') fun k m => pk.mem_iff.mp m
  have pr : r'.Perm r := by
    obtain ⟨g, hg⟩ : ∃ g : List MV → Int × List Int, ∀ p, g (keyS p) = p := ⟨fun ks => if h : ∃ p, keyS p = ks then choose h else (0, []), fun p => by
      have h : ∃ q, keyS q = keyS p := ⟨p, rfl⟩
      show (if h : ∃ q, keyS q = keyS p then choose h else (0, [])) = p; rw [dif_pos h]; exact keyS_inj (choose_spec h)⟩
    have := pk.map g
    rw [List.map_map, List.map_map] at this
    have e : g ∘ keyS = id := funext hg
    rwa [e, List.map_id, List.map_id] at this
  have rep := set_walk C' (fun e => x.tupOut e)
  rw [hL'] at rep
  have hu := rm.units
  refine sorted_out (κ := tuples' true) ord_start (0, []) embS (l := r') x (by rw [pr.length_eq]; exact hz) (fun A' Q' hA hq => ?_) (fun vs A' s' Q' rr h2 hq => kind_starts rr (by lia) hq) (fun p q va vb A' s' C'' _ _ hu' ra rb hc => lt_starts (by lia) ra rb hc) fun out so => ?_
  · refine kdu_collect (kdl_set a es ep t L) (hA.trans rm.hand) N (by rw [T.esSize, sizeLine_eq]; lia) fun h' tk acc hk hacc => ?_
    have hacl : acc.toList = walkOf w a es ep := by
      have hl : (walkOf w a es ep).length = es.size := by rw [hw.length_eq]; simp
      apply List.ext_getElem?
      intro i
      cases e : acc.toList[i]? with
      | some v => exact (hacc.2 i v (by rw [← Array.getElem?_toList]; exact e)).symm
      | none =>
        have := List.getElem?_eq_none_iff.mp e
        rw [Array.length_toList, hacc.1] at this
        exact (List.getElem?_eq_none (by rw [hl]; exact this)).symm
    refine hq acc.toList h' tk ?_ hk
    rw [hacl]; exact rep
  · rw [so.eq ord_start, srt_congr ord_start pr]; exact h
noncomputable def wSortSet (W : WE) : WE := fun σ Q => W σ fun d σ' => ∃ l : List (Int × List Int), d = .flist (l.map embS) ∧ l.length < 64 ∧ ∀ r : List (Int × List Int), r.Nodup → (∀ p, p ∈ r ↔ p ∈ l) → Q (.flist ((srt startLt r).map embS)) σ'
theorem JE.sortedSet {xs xt : Str} {e : Expr} {W : WE} {p1 p2 p3 p4 : Pos} (h1 : Callee c xs (.builtin "sorted")) (g1 : sc.lookup xs = some .globalImplicit) (h2 : Callee c xt (.type "set")) (g2 : sc.lookup xt = some .globalImplicit) (hu : unstarred e) (he : JE c k sc e W) :
    JE c k sc (.Call (.Name xs p1) [.Call (.Name xt p2) [e] [] p3] [] p4) (wSortSet W) := fun f A σ Q s e1 ok rm X h => by
  show wpAny _ _ (eval (.Name xs p1) f.env >>= fun fv => callWith p4 fv [] (backTo p4 (starEach [.Call (.Name xt p2) [e] [] p3] f.env)) []) _ _ _
  have hk1 := (ok.look xs .globalImplicit (e1 ▸ g1)).resolve_right (fun q => nomatch q.1)
  have hk2 := (ok.look xt .globalImplicit (e1 ▸ g2)).resolve_right (fun q => nomatch q.1)
  refine wpAny_bind (h1.name f A s _ σ p1 ok hk1 X ?_)
  refine callWith_of (P := fun h => ∀ b o, c.B.get? b = some o → h.get? b = some o) rfl h1.keep ?_
  refine Calls.evalArgs_plain (Calls.spliced_cons ?_)
  show wpAny _ _ (eval (.Name xt p2) f.env >>= fun fv => callWith p3 fv [] (backTo p3 (starEach [e] f.env)) []) _ _ _
  refine wpAny_bind (h2.name f A s _ σ p2 ok hk2 X ?_)
  have ja : JEs c k sc [e] [W] := .cons hu he .nil
  refine callWith_of (P := fun h => ∀ b o, c.B.get? b = some o → h.get? b = some o) (by rw [ja.plain p3 f.env]; rfl) h2.keep ?_
  refine wpAny_mono (ja.args p3 (.type "set") f A σ (fun ds σ' => match ds with
    | [d] => ∃ l : List (Int × List Int), d = .flist (l.map embS) ∧ l.length < 64 ∧ ∀ r : List (Int × List Int), r.Nodup → (∀ p, p ∈ r ↔ p ∈ l) → Q (.flist ((srt startLt r).map embS)) σ'
    | _ => False) s e1 ok rm X h) ?_ fun _ _ e => e
  rintro ⟨vs, kw⟩ s₁ ⟨⟨ds, σ1, r, x1, ev, hq⟩, rfl⟩
  match ds, r, hq with
  | [d], r, ⟨l, hd, hl, hq⟩ =>
  subst hd
  cases r with | cons rv rv' => cases rv' with | nil =>
  refine el3_4 (rv.isList) fun a its n eqz3 _ ho rs => ?_
  subst eqz3
  refine ⟨x1.s0.base, ?_⟩
  have hu := rm.units
  refine call_set_at (A := A) (items := its.toArray) (all := l.map keyS) rm.hand (by lia) ho (items_of rs) (by rw [List.length_map]; exact hl) fun h' tk ks hS hL hk => ?_
  obtain ⟨r0, rfl⟩ := unmap (l := l) (f := keyS) (ks := ks) fun k m => (hL.mem k).mp m
  have hnd : r0.Nodup := by
    have := hL.nd
    rw [List.nodup_iff_pairwise_ne, List.pairwise_map] at this
    exact this.imp fun q e => q (congrArg keyS e)
  have hmem : ∀ p, p ∈ r0 ↔ p ∈ l := fun p => by
    have := hL.mem (keyS p)
    rw [List.mem_map, List.mem_map] at this
    constructor
    · intro m
      refine el1_2 (this.mp ⟨p, m, rfl⟩) fun q hq e => ?_
      rwa [← keyS_inj e]
    · intro m
      refine el1_2 (this.mpr ⟨p, m, rfl⟩) fun q hq e => ?_
      rwa [← keyS_inj e]
  have x2 : S c f σ1 { s₁ with heap := h', toks := tk } := x1.grow hk
  have ev2 : EvoF f s.heap σ.mu h' σ1.mu := ev.trans (Evo0.of_keeps hk).toF
  refine Calls.spliced_nil ⟨x2.s0.base, OKF.from ev2 (lift0 x2 (sorted_set (rm.le (Nat.zero_le _)) x2.s0 hS ?_ (hq r0 hnd hmem)))⟩
  have := hnd.length_le_of_subset fun p m => (hmem p).mp m
  lia
end
end Mine
namespace Mine
open Classical
theorem ofString_inj {a b : String} : Str.ofString a = Str.ofString b ↔ a = b := by
  constructor
  · intro h
    rw [Str.ofString_eq_toList, Str.ofString_eq_toList] at h
    injection h with h
    have h2 := congrArg Array.toList h
    simp only [List.toList_toArray] at h2
    have : a.toList = b.toList := (List.map_inj_right fun x y e => Char.toNat_inj.mp e).mp h2
    exact String.toList_inj.mp this
  · rintro rfl; rfl
theorem wLoop_inv {need : MHeap → Prop} {T : WA} {B : WS} {Q : Fl → St → Prop} (I : List MV → St → Prop) (h0 : ∀ σ, I [] σ → need σ.mu ∧ Q .next σ)
    (h1 : ∀ d r σ (C : Fl → St → Prop), I (d :: r) σ → (∀ σ', I r σ' → C .next σ') → (∀ v σ', Q (.ret v) σ' → C (.ret v) σ') → need σ.mu ∧ T d σ fun σ1 => B σ1 C) : ∀ {l : List MV} {σ : St}, I l σ → wLoop need T B l σ Q
  | [], σ, h => h0 σ h
  | d :: r, σ, h => by
    unfold wLoop
    have key := h1 d r σ (fun g σ2 => match g with
      | .next => wLoop need T B r σ2 Q
      | .ret v => Q (.ret v) σ2) h (fun σ' h' => wLoop_inv I h0 h1 h') (fun v σ' q => q)
    exact key
theorem wItems_inv {need : MHeap → Prop} {T : WA} {ifs : List WT} {inner : WCl} {Q : St → List MV → Prop} (I : List MV → St → List MV → Prop) (h0 : ∀ σ vs, I [] σ vs → need σ.mu ∧ Q σ vs)
    (h1 : ∀ d r σ vs (C : St → List MV → Prop), I (d :: r) σ vs → (∀ σ' vs', I r σ' vs' → C σ' vs') → need σ.mu ∧ T d σ fun σ1 => wAnd ifs σ1 fun b σ2 => (b = true → inner σ2 vs C) ∧ (b = false → C σ2 vs)) :
    ∀ {l : List MV} {σ : St} {vs : List MV}, I l σ vs → wItems need T ifs inner l σ vs Q
  | [], σ, vs, h => h0 σ vs h
  | d :: r, σ, vs, h => h1 d r σ vs _ h fun σ' vs' h' => wItems_inv I h0 h1 h'
section
variable {prog : Program} {w : World} {c : Cx prog w} {k : Nat} {sc : List (Str × NameKind)}
theorem OpN.mono {j : Nat} {t : List Value → Sem Value} {P P' : List MV → W0} (h : OpN c j t P) (hp : ∀ ds μ Q, P' ds μ Q → P ds μ Q) : OpN c j t P' := fun A s μ vs ds Q rm X r hq => h A s μ vs ds Q rm X r (hp _ _ _ hq)
noncomputable def pGetD : List MV → W0 := fun ds μ Q => ∃ r es i e, ds = [.ref r, .int i, e] ∧ μ r = some (.idict es) ∧ Q ((dget es i).getD e) μ
noncomputable def pGetK : List MV → W0 := fun ds μ Q => ∃ r es ks e, ds = [.ref r, .tup ks, e] ∧ μ r = some (.tdict es) ∧ keys 5 ks = true ∧ Q ((dget es ks).getD e) μ
theorem jm_append {o : Expr} {apos pos : Pos} {args : List Expr} {Wo : WE} {Ws : List WE} (ho : JE c k sc o Wo) (ha : JEs c k sc args Ws) (he : MethEq o (Str.ofString "append") apos pos args) :
    JE c k sc (.Call (.Attribute o (Str.ofString "append") apos) args [] pos) (wBMeth "list" pAppend Wo Ws) := JE.bmeth (.inl rfl) PySem.F.plainAttrs_list PySem.F.slot_list_append PySem.F.type_list_append ho ha op_append he
theorem jm_index {o : Expr} {apos pos : Pos} {args : List Expr} {Wo : WE} {Ws : List WE} (ho : JE c k sc o Wo) (ha : JEs c k sc args Ws) (he : MethEq o (Str.ofString "index") apos pos args) :
    JE c k sc (.Call (.Attribute o (Str.ofString "index") apos) args [] pos) (wBMeth "list" pIndex Wo Ws) := JE.bmeth (.inl rfl) PySem.F.plainAttrs_list PySem.F.slot_list_index PySem.F.type_list_index ho ha op_index he
theorem jm_get {o : Expr} {apos pos : Pos} {args : List Expr} {Wo : WE} {Ws : List WE} (ho : JE c k sc o Wo) (ha : JEs c k sc args Ws) (he : MethEq o (Str.ofString "get") apos pos args) :
    JE c k sc (.Call (.Attribute o (Str.ofString "get") apos) args [] pos) (wBMeth "dict" pGetD Wo Ws) := JE.bmeth (.inr rfl) PySem.F.plainAttrs_dict PySem.F.slot_dict_get PySem.F.type_dict_get ho ha (op_get.mono fun ds μ Q h => .inl h) he
theorem jm_getK {o : Expr} {apos pos : Pos} {args : List Expr} {Wo : WE} {Ws : List WE} (ho : JE c k sc o Wo) (ha : JEs c k sc args Ws) (he : MethEq o (Str.ofString "get") apos pos args) :
    JE c k sc (.Call (.Attribute o (Str.ofString "get") apos) args [] pos) (wBMeth "dict" pGetK Wo Ws) := JE.bmeth (.inr rfl) PySem.F.plainAttrs_dict PySem.F.slot_dict_get PySem.F.type_dict_get ho ha (op_get.mono fun ds μ Q h => .inr h) he
theorem recv_list {μ : MHeap} {a : MV} : RecvIs "list" μ a ↔ ∃ r l, a = .ref r ∧ μ r = some (.list l) := by unfold RecvIs; rw [if_pos rfl]
theorem recv_dict {μ : MHeap} {a : MV} : RecvIs "dict" μ a ↔ ∃ r, a = .ref r ∧ ((∃ es, μ r = some (.idict es)) ∨ ∃ es, μ r = some (.tdict es)) := by unfold RecvIs; rw [if_neg (by decide)]
theorem JE.comp' {elt target iter : Expr} {ifs : List Expr} {rest : List Comprehension} {scope : Scope} {pos : Pos} {Sr : WSrc} {Bi : WA} {If : List WT} {Gs : List GenW} {We : WE} (co : CompOk sc scope) (hsrc : JSrc c k sc iter Sr) (hs : ∀ env x, foldedSetIterable iter env x = pure x) (hta : JA c k scope.names target Bi)
    (hi : JTs c k scope.names ifs If) (hG : JGens c k scope.names rest Gs) (he : JE c k scope.names elt We) : JE c k sc (.ListComp elt (⟨target, iter, ifs, 0⟩ :: rest) scope pos) (wComp scope.names ⟨Sr, Bi, If⟩ Gs We) := JE.comp (G := ⟨Sr, Bi, If⟩) co hsrc hs hta hi hG he
theorem JGens.cons' {target iter : Expr} {ifs : List Expr} {Sr : WSrc} {Bi : WA} {If : List WT} {gens : List Comprehension} {Gs : List GenW} (h1 : JSrc c k sc iter Sr) (h2 : JA c k sc target Bi) (h3 : JTs c k sc ifs If) (h4 : ∀ env x, foldedSetIterable iter env x = pure x) (h5 : JGens c k sc gens Gs) :
    JGens c k sc (⟨target, iter, ifs, 0⟩ :: gens) (⟨Sr, Bi, If⟩ :: Gs) := JGens.cons (G := ⟨Sr, Bi, If⟩) h1 h2 h3 h4 h5
theorem JS.assignComp' {x : Str} {xp : Pos} {elt target iter : Expr} {ifs : List Expr} {rest : List Comprehension} {scope : Scope} {pos spos : Pos} {Sr : WSrc} {Bi : WA} {If : List WT} {Gs : List GenW} {We : WE} (co : CompOk sc scope) (hsrc : JSrc c k sc iter Sr) (hs : ∀ env x, foldedSetIterable iter env x = pure x) (hta : JA c k scope.names target Bi)
    (hi : JTs c k scope.names ifs If) (hG : JGens c k scope.names rest Gs) (he : JE c k scope.names elt We) (hx : own sc x)
    (hsw : ∀ f : Fm, f.sc = sc → FmOk c f → swapsWith (.ListComp elt (⟨target, iter, ifs, 0⟩ :: rest) scope pos) (some (Expr.Name x xp)) spos.line f.env = pure true) :
    JS c k sc (.Assign [.Name x xp] (.ListComp elt (⟨target, iter, ifs, 0⟩ :: rest) scope pos) spos) (wAssign (wComp scope.names ⟨Sr, Bi, If⟩ Gs We) (wSetv x)) := JS.assignComp (G := ⟨Sr, Bi, If⟩) co hsrc hs hta hi hG he hx hsw
end
theorem wItems_pure {α : Type} {need : MHeap → Prop} {T : WA} {ifs : List WT} {inner : WCl} {μ : MHeap} {D : Addr} {Q : St → List MV → Prop} {emb : α → MV} (f : α → List MV) (inv : (Str → Option MV) → Prop) (hneed : ∀ its vs, need (upd μ D (.pin its vs))) :
    ∀ {items : List α} {V : Str → Option MV} {its0 : List Value} {vs0 : List MV}, inv V → vs0.length + (items.flatMap f).length ≤ 900000 →
      (∀ d ∈ items, ∀ V' its vs (C : St → List MV → Prop), inv V' → vs.length + (f d).length ≤ 900000 → (∀ V'' its', inv V'' → C ⟨V'', upd μ D (.pin its' (vs ++ f d))⟩ (vs ++ f d)) →
        T (emb d) ⟨V', upd μ D (.pin its vs)⟩ fun σ1 => wAnd ifs σ1 fun b σ2 => (b = true → inner σ2 vs C) ∧ (b = false → C σ2 vs)) →
      (∀ V' its', inv V' → Q ⟨V', upd μ D (.pin its' (vs0 ++ items.flatMap f))⟩ (vs0 ++ items.flatMap f)) →
      wItems need T ifs inner (items.map emb) ⟨V, upd μ D (.pin its0 vs0)⟩ vs0 Q
  | [], V, its0, vs0, hV, hb, hstep, hQ => ⟨hneed _ _, by simpa using hQ V its0 hV⟩
  | d :: r, V, its0, vs0, hV, hb, hstep, hQ => by
    refine ⟨hneed _ _, hstep d List.mem_cons_self V its0 vs0 _ hV ?_ fun V'' its' hV'' => ?_⟩
    · simp only [List.flatMap_cons, List.length_append] at hb; lia
    · refine wItems_pure f inv hneed hV'' ?_ (fun x hx => hstep x (List.mem_cons_of_mem _ hx)) fun V3 its3 h3 => ?_
      · simp only [List.flatMap_cons, List.length_append] at hb ⊢; lia
      · have := hQ V3 its3 h3
        simpa [List.append_assoc] using this
theorem flat_single {α β : Type} (g : α → β) (l : List α) : (l.flatMap fun x => [g x]) = l.map g := by
  induction l with
  | nil => rfl
  | cons x l ih => simp [List.flatMap_cons, ih]
theorem wItems_map {α : Type} {need : MHeap → Prop} {T : WA} {ifs : List WT} {inner : WCl} {μ : MHeap} {D : Addr} {Q : St → List MV → Prop} {emb : α → MV} (g : α → MV) (inv : (Str → Option MV) → Prop) (hneed : ∀ its vs, need (upd μ D (.pin its vs)))
    {items : List α} {V : Str → Option MV} {its0 : List Value} (hV : inv V) (hb : items.length ≤ 900000)
    (hstep : ∀ d ∈ items, ∀ V' its vs (C : St → List MV → Prop), inv V' → vs.length + 1 ≤ 900000 → (∀ V'' its', inv V'' → C ⟨V'', upd μ D (.pin its' (vs ++ [g d]))⟩ (vs ++ [g d])) →
        T (emb d) ⟨V', upd μ D (.pin its vs)⟩ fun σ1 => wAnd ifs σ1 fun b σ2 => (b = true → inner σ2 vs C) ∧ (b = false → C σ2 vs))
    (hQ : ∀ V' its', inv V' → Q ⟨V', upd μ D (.pin its' (items.map g))⟩ (items.map g)) :
    wItems need T ifs inner (items.map emb) ⟨V, upd μ D (.pin its0 [])⟩ [] Q := by
  refine wItems_pure (fun x => [g x]) inv hneed hV (by rw [flat_single]; simpa using hb) hstep fun V' its' h' => ?_
  rw [flat_single]
  simpa using hQ V' its' h'
section
variable {prog : Program} {w : World} {c : Cx prog w}
theorem Op2.mono {t : Value → Value → Sem Value} {P P' : MV → MV → W0} (h : Op2 c t P) (hp : ∀ a b μ Q, P' a b μ Q → P a b μ Q) : Op2 c t P' := fun A s μ a b d e Q rm X r1 r2 hq => h A s μ a b d e Q rm X r1 r2 (hp _ _ _ _ hq)
noncomputable def pInF (neg : Bool) : MV → MV → W0 := fun a b μ Q => ∃ l, b = .flist l ∧ a.plain = true ∧ plains l = true ∧ a.dep ≤ 50 ∧ Q (.bool (xor neg (decide (a ∈ l)))) μ
noncomputable def pInR (neg : Bool) : MV → MV → W0 := fun a b μ Q => ∃ r l, b = .ref r ∧ μ r = some (.list l) ∧ a.plain = true ∧ plains l = true ∧ a.dep ≤ 50 ∧ Q (.bool (xor neg (decide (a ∈ l)))) μ
theorem op_sub : Op2 c (binaryOp .Sub) (pInt2 (· - ·) fun _ _ => True) := by
  intro A s μ _ _ _ _ Q rm x r1 r2 hz1
  refine el2_4 hz1 fun i j eqz2 eqz3 _ h => ?_
  subst eqz2
  subst eqz3
  obtain ⟨_, rfl⟩ := r1.isInt
  obtain ⟨_, rfl⟩ := r2.isInt
  exact PySem.P.sub_int (ok0_int x h _ _)
theorem op_notInF : Op2 c (compareOp .NotIn) (pInF true) := op_notInL.mono fun a b μ Q ⟨l, e, h⟩ => ⟨l, .inl e, h⟩
theorem op_notInR : Op2 c (compareOp .NotIn) (pInR true) := op_notInL.mono fun a b μ Q ⟨r, l, e, m, h⟩ => ⟨l, .inr ⟨r, e, m⟩, h⟩
end
theorem cut_lo {α : Type} (n : Nat) (l : List α) : cut (some n) none l = l.drop n := by
  unfold cut cutFrom cutTo
  simp only [Option.getD_some, Option.getD_none, Nat.min_self]
  rw [List.take_of_length_le]
  · by_cases h : n ≤ l.length
    · rw [Nat.min_eq_left h]
    · rw [Nat.min_eq_right (by lia), List.drop_of_length_le (Nat.le_refl _), List.drop_of_length_le (by lia)]
  · rw [List.length_drop]; exact Nat.le_refl _
theorem cut_hi {α : Type} (n : Nat) (l : List α) : cut none (some n) l = l.take n := by
  unfold cut cutFrom cutTo
  simp only [Option.getD_some, Option.getD_none, Nat.zero_min, List.drop_zero, Nat.sub_zero]
  by_cases h : n ≤ l.length
  · rw [Nat.min_eq_left h]
  · rw [Nat.min_eq_right (by lia), List.take_of_length_le (Nat.le_refl _), List.take_of_length_le (by lia)]
theorem take_map' {α β : Type} (f : α → β) (n : Nat) (l : List α) : (l.map f).take n = (l.take n).map f := by rw [List.map_take]
theorem drop_map' {α β : Type} (f : α → β) (n : Nat) (l : List α) : (l.map f).drop n = (l.drop n).map f := by rw [List.map_drop]
theorem map_int_inj {l m : List Int} : l.map MV.int = m.map MV.int ↔ l = m := ⟨fun h => (List.map_inj_right fun a b e => by injection e).mp h, fun h => by rw [h]⟩
theorem upd_none {μ : MHeap} {a b : Addr} {o : MObj} (h : upd μ a o b = none) : b ≠ a ∧ μ b = none := by
  have q : b ≠ a := by rintro rfl; rw [upd_self] at h; cases h
  exact ⟨q, (upd_ne _ _ q).symm.trans h⟩
theorem upd_swap {μ : MHeap} {a b : Addr} {o o' p : MObj} (h : a ≠ b) : upd (upd (upd μ a o) b p) a o' = upd (upd μ a o') b p := by
  rw [upd_comm μ o p h, upd_upd, upd_comm μ o' p h]
noncomputable def dgi (d : List (Int × Int)) (g : Int) : Option Int := (d.find? fun e => decide (e.1 = g)).map (·.2)
noncomputable def embD (d : List (Int × Int)) : List (Int × MV) := d.map fun p => (p.1, MV.int p.2)
theorem dget_embD (d : List (Int × Int)) (g : Int) : dget (embD d) g = (dgi d g).map MV.int := by
  unfold dget embD dgi
  induction d with
  | nil => rfl
  | cons p d ih =>
    simp only [List.map_cons, List.find?_cons]
    by_cases e : p.1 = g
    · simp [e]
    · simpa [e] using ih
theorem keys_embD (d : List (Int × Int)) : (embD d).map (·.1) = d.map (·.1) := by unfold embD; rw [List.map_map]; rfl
theorem dset_new {K : Type} [DecidableEq K] {es : List (K × MV)} {k : K} {v : MV} (h : dget es k = none) : dset es k v = es ++ [(k, v)] := by
  unfold dset
  rw [if_neg]
  rw [← dget_isSome, h]; simp
theorem dset_embD {d : List (Int × Int)} {g j : Int} (h : dgi d g = none) : dset (embD d) g (.int j) = embD (d ++ [(g, j)]) := by
  rw [dset_new (by rw [dget_embD, h]; rfl)]
  simp [embD]
end Mine
namespace Mine
open Classical
theorem len1 {α : Type} : ∀ {l : List α}, l.length = 1 → ∃ a, l = [a]
  | [a], _ => ⟨a, rfl⟩
theorem len2 {α : Type} : ∀ {l : List α}, l.length = 2 → ∃ a b, l = [a, b]
  | [a, b], _ => ⟨a, b, rfl⟩
theorem len3 {α : Type} : ∀ {l : List α}, l.length = 3 → ∃ a b c, l = [a, b, c]
  | [a, b, c], _ => ⟨a, b, c, rfl⟩
theorem len4 {α : Type} : ∀ {l : List α}, l.length = 4 → ∃ a b c d, l = [a, b, c, d]
  | [a, b, c, d], _ => ⟨a, b, c, d, rfl⟩
noncomputable def seqC (W2 : WS) (Q : Fl → St → Prop) : Fl → St → Prop := fun g σ' => match g with
  | .next => W2 σ' Q
  | .ret d => Q (.ret d) σ'
section
variable {W W1 W2 : WE} {S1 S2 : WS} {T : WA} {σ : St} {μ : MHeap} {V : Str → Option MV}
theorem i_seq {Q : Fl → St → Prop} (h : S1 σ (seqC S2 Q)) : wSeq S1 S2 σ Q := h
theorem i_next {Q : Fl → St → Prop} (h : S2 σ Q) : seqC S2 Q .next σ := h
theorem i_retC {Q : Fl → St → Prop} {d : MV} (h : Q (.ret d) σ) : seqC S2 Q (.ret d) σ := h
theorem i_nil {Q : Fl → St → Prop} (h : Q .next σ) : wNil σ Q := h
theorem i_assign {Q : Fl → St → Prop} (h : W σ fun d σ' => T d σ' fun σ'' => Q .next σ'') : wAssign W T σ Q := h
theorem i_expr {Q : Fl → St → Prop} (h : W σ fun d σ' => d = .none ∧ Q .next σ') : wExpr W σ Q := h
theorem i_exprN {P : Prop} (h : P) : MV.none = MV.none ∧ P := ⟨rfl, h⟩
theorem i_ret {Q : Fl → St → Prop} (h : W σ fun d σ' => Q (.ret d) σ') : wRet W σ Q := h
theorem i_cond {B : WT} {Q : Fl → St → Prop} (h : B σ fun b σ' => (b = true → S1 σ' Q) ∧ (b = false → S2 σ' Q)) : wCond B S1 S2 σ Q := h
theorem i_for {R : WSrc} {Q : Fl → St → Prop} (h : R σ fun items need σ' => wLoop need T S1 items σ' Q) : wFor R T S1 σ Q := h
theorem i_setv {x : Str} {d : MV} {Q : St → Prop} (h : Q (σ.setv x d)) : wSetv x d σ Q := h
theorem i_embW {Wa Wb : WA} {p : List Int × Int} {Q : St → Prop} (h : Wa (itup p.1) σ fun σ' => Wb (.int p.2) σ' Q) : wTupT [Wa, Wb] (embW p) σ Q := ⟨_, rfl, rfl, h⟩
theorem i_embS {Wa Wb : WA} {p : Int × List Int} {Q : St → Prop} (h : Wa (.int p.1) σ fun σ' => Wb (itup p.2) σ' Q) : wTupT [Wa, Wb] (embS p) σ Q := ⟨_, rfl, rfl, h⟩
theorem i_setAttr {n : Str} {ok : Addr → Prop} {d : MV} {Q : St → Prop} (h : W σ fun a σ1 => ∃ C x dd es, InstIn σ1.mu a C x dd es ∧ ok C ∧ es.length ≤ 900 ∧ Q { σ1 with mu := upd σ1.mu dd (.attrs (aset es n d)) }) : wSetAttr n ok W d σ Q := h
theorem i_setAttr' {C x dd : Addr} {es es' : List (Str × MV)} {n : Str} {d : MV} {ok : Addr → Prop} {Q : St → Prop} (h1 : μ x = some (.inst C dd)) (h2 : μ dd = some (.attrs es)) (h3 : ok C) (h4 : es.length ≤ 900) (h5 : aset es n d = es') (h : Q { vars := V, mu := upd μ dd (.attrs es') }) :
    ∃ C x' dd es, InstIn μ (.ref x) C x' dd es ∧ ok C ∧ es.length ≤ 900 ∧ Q { vars := V, mu := upd μ dd (.attrs (aset es n d)) } := ⟨C, x, dd, es, ⟨rfl, h1, h2⟩, h3, h4, by rw [h5]; exact h⟩
theorem i_var {x : String} {d : MV} {Q : MV → St → Prop} (h : σ.vars (Str.ofString x) = some d) (q : Q d σ) : wVar x σ Q := ⟨d, h, q⟩
theorem i_lit {d : MV} {Q : MV → St → Prop} (q : Q d σ) : wLit d σ Q := q
theorem i_exB {R : Bool → Prop} {b : Bool} (h : R b) : ∃ j, MV.bool b = .bool j ∧ R j := ⟨b, rfl, h⟩
theorem i_w2 {P : MV → MV → W0} {Q : MV → St → Prop} (h : W1 σ fun a σ1 => W2 σ1 fun b σ2 => P a b σ2.mu fun d μ' => Q d { σ2 with mu := μ' }) : w2 P W1 W2 σ Q := h
theorem i_bool {P : MV → MV → W0} {Q : Bool → St → Prop} (h : W1 σ fun a σ1 => W2 σ1 fun b σ2 => P a b σ2.mu fun d μ' => ∃ b, d = .bool b ∧ Q b { σ2 with mu := μ' }) : asBool P W1 W2 σ Q := h
theorem i_wN1 {P : List MV → W0} {Q : MV → St → Prop} (h : W1 σ fun a σ1 => P [a] σ1.mu fun d μ' => Q d { σ1 with mu := μ' }) : wN P [W1] σ Q := h
theorem i_wN2 {P : List MV → W0} {Q : MV → St → Prop} (h : W1 σ fun a σ1 => W2 σ1 fun b σ2 => P [a, b] σ2.mu fun d μ' => Q d { σ2 with mu := μ' }) : wN P [W1, W2] σ Q := h
theorem i_wN {P : List MV → W0} {Ws : List WE} {Q : MV → St → Prop} (h : wArgs Ws σ fun ds σ' => P ds σ'.mu fun d μ' => Q d { σ' with mu := μ' }) : wN P Ws σ Q := h
theorem i_args0 {Q : List MV → St → Prop} (h : Q [] σ) : wArgs [] σ Q := h
theorem i_args {r : List WE} {Q : List MV → St → Prop} (h : W σ fun d σ1 => wArgs r σ1 fun ds σ2 => Q (d :: ds) σ2) : wArgs (W :: r) σ Q := h
theorem i_tup {Ws : List WE} {Q : MV → St → Prop} (h : wArgs Ws σ fun ds σ' => ds.length ≤ 1000000 ∧ Q (.tup ds) σ') : wTup Ws σ Q := h
theorem i_list {Ws : List WE} {Q : MV → St → Prop} (h : wArgs Ws σ fun ds σ' => ds.length ≤ 1000000 ∧ pNew (.list ds) σ'.mu fun d μ' => Q d { σ' with mu := μ' }) : wList Ws σ Q := h
theorem i_new {mo : MObj} {Q : MV → St → Prop} (h : ∀ a, σ.mu a = none → Q (.ref a) { σ with mu := upd σ.mu a mo }) : wNew mo σ Q := h
theorem i_bmeth {K : String} {P : List MV → W0} {Ws : List WE} {Q : MV → St → Prop} (h : W σ fun a σ1 => RecvIs K σ1.mu a ∧ wArgs Ws σ1 fun ds σ2 => P (a :: ds) σ2.mu fun d μ' => Q d { σ2 with mu := μ' }) : wBMeth K P W Ws σ Q := h
theorem i_recvL {r : Addr} {l : List MV} {R : Prop} (m : μ r = some (.list l)) (h : R) : RecvIs "list" μ (.ref r) ∧ R := ⟨recv_list.mpr ⟨r, l, rfl, m⟩, h⟩
theorem i_cutHi {l : List Int} {n : Nat} {A B : MV → Prop} (z : l.length ≤ 1000000) (h : A (itup (l.take n))) : (∃ k, itup l = .tup k ∧ k.length ≤ 1000000 ∧ A (.tup (cut none (some n) k))) ∨ (∃ k, itup l = .flist k ∧ k.length ≤ 1000000 ∧ B (.flist (cut none (some n) k))) :=
  .inl ⟨l.map MV.int, rfl, by simpa using z, by rw [cut_hi, take_map']; exact h⟩
theorem i_cutLo {l : List Int} {n : Nat} {A B : MV → Prop} (z : l.length ≤ 1000000) (h : A (itup (l.drop n))) : (∃ k, itup l = .tup k ∧ k.length ≤ 1000000 ∧ A (.tup (cut (some n) none k))) ∨ (∃ k, itup l = .flist k ∧ k.length ≤ 1000000 ∧ B (.flist (cut (some n) none k))) :=
  .inl ⟨l.map MV.int, rfl, by simpa using z, by rw [cut_lo, drop_map']; exact h⟩
theorem i_cutF {l : List MV} {n : Nat} {A B : MV → Prop} (z : l.length ≤ 1000000) (h : B (.flist (l.take n))) : (∃ k, MV.flist l = .tup k ∧ k.length ≤ 1000000 ∧ A (.tup (cut none (some n) k))) ∨ (∃ k, MV.flist l = .flist k ∧ k.length ≤ 1000000 ∧ B (.flist (cut none (some n) k))) :=
  .inr ⟨l, rfl, z, by rw [cut_hi]; exact h⟩
theorem i_src {Q : List MV → (MHeap → Prop) → St → Prop} (h : W σ fun d σ' => ∃ items need, srcOf σ'.mu d = some (items, need) ∧ Q items need σ') : wSrc W σ Q := h
theorem i_srcF {l : List MV} {R : List MV → (MHeap → Prop) → Prop} (h : R l fun _ => True) : ∃ items need, srcOf μ (.flist l) = some (items, need) ∧ R items need := ⟨_, _, rfl, h⟩
theorem i_srcT {l : List MV} {R : List MV → (MHeap → Prop) → Prop} (h : R l fun _ => True) : ∃ items need, srcOf μ (.tup l) = some (items, need) ∧ R items need := ⟨_, _, rfl, h⟩
theorem i_srcR {r : Addr} {l : List MV} {R : List MV → (MHeap → Prop) → Prop} (m : μ r = some (.list l)) (h : R l fun μ => μ r = some (.list l)) : ∃ items need, srcOf μ (.ref r) = some (items, need) ∧ R items need :=
  ⟨_, _, by simp only [srcOf, m], h⟩
theorem i_comp {names : List (Str × NameKind)} {R : WSrc} {B : WA} {ifs : List WT} {Gs : List GenW} {Q : MV → St → Prop} (h : R σ fun items need σ1 => ∀ D, σ1.mu D = none → wItems need B ifs (wGens D W Gs) items ⟨freeVars names σ1.vars, upd σ1.mu D (.pin [] [])⟩ [] fun σ2 vs => Q (.flist vs) { σ1 with mu := erase σ2.mu D }) : wComp names ⟨R, B, ifs⟩ Gs W σ Q := h
theorem i_emit {D : Addr} {vs : List MV} {Q : St → List MV → Prop} (h : W σ fun d σ' => vs.length < 1000000 ∧ ∀ its, Q { σ' with mu := upd σ'.mu D (.pin its (vs ++ [d])) } (vs ++ [d])) : wGens D W [] σ vs Q := h
theorem i_gens {D : Addr} {R : WSrc} {B : WA} {ifs : List WT} {Gs : List GenW} {vs : List MV} {Q : St → List MV → Prop} (h : R σ fun items need σ1 => wItems need B ifs (wGens D W Gs) items σ1 vs Q) : wGens D W (⟨R, B, ifs⟩ :: Gs) σ vs Q := h
theorem i_and0 {Q : Bool → St → Prop} (h : Q true σ) : wAnd [] σ Q := h
theorem i_and {B : WT} {r : List WT} {Q : Bool → St → Prop} (h : B σ fun b σ' => (b = true → wAnd r σ' Q) ∧ (b = false → Q false σ')) : wAnd (B :: r) σ Q := h
theorem i_or0 {Q : Bool → St → Prop} (h : Q false σ) : wOr [] σ Q := h
theorem i_or {B : WT} {r : List WT} {Q : Bool → St → Prop} (h : B σ fun b σ' => (b = true → Q true σ') ∧ (b = false → wOr r σ' Q)) : wOr (B :: r) σ Q := h
theorem i_range {Ws : List WE} {Q : List MV → (MHeap → Prop) → St → Prop} (h : wArgs Ws σ fun ds σ' => smallArgs ds ∧ ∃ a st n, rngOf ds = some (a, st, n) ∧ Q (rngL a st n) (fun _ => True) σ') : wRange Ws σ Q := h
theorem i_rng1 {i : Int} {R : Int → Int → Nat → Prop} (z : i.natAbs < 1099511627776) (h : R 0 1 i.toNat) : smallArgs [.int i] ∧ ∃ a st n, rngOf [.int i] = some (a, st, n) ∧ R a st n :=
  ⟨fun d m => ⟨i, List.mem_singleton.mp m, z⟩, 0, 1, _, rfl, h⟩
theorem i_rng2 {i j : Int} {R : Int → Int → Nat → Prop} (z : i.natAbs < 1099511627776) (z' : j.natAbs < 1099511627776) (h : R i 1 (j - i).toNat) : smallArgs [.int i, .int j] ∧ ∃ a st n, rngOf [.int i, .int j] = some (a, st, n) ∧ R a st n :=
  ⟨fun d m => (List.mem_cons.mp m).elim (fun e => ⟨i, e, z⟩) fun m => ⟨j, List.mem_singleton.mp m, z'⟩, i, 1, _, rfl, h⟩
theorem i_rng3 {i j : Int} {R : Int → Int → Nat → Prop} (z : i.natAbs < 1099511627776) (z' : j.natAbs < 1099511627776) (h : R i (-1) (i - j).toNat) : smallArgs [.int i, .int j, .int (-1)] ∧ ∃ a st n, rngOf [.int i, .int j, .int (-1)] = some (a, st, n) ∧ R a st n :=
  ⟨fun d m => (List.mem_cons.mp m).elim (fun e => ⟨i, e, z⟩) fun m => (List.mem_cons.mp m).elim (fun e => ⟨j, e, z'⟩) fun m => ⟨-1, List.mem_singleton.mp m, by decide⟩, i, -1, _, rfl, h⟩
theorem i_szA {n : Nat} {R : Prop} (z : n ≤ 1000000) (h : R) : n ≤ 1000000 ∧ R := ⟨z, h⟩
theorem i_szB {n : Nat} {R : Prop} (z : n < 1000000) (h : R) : n < 1000000 ∧ R := ⟨z, h⟩
theorem i_int2 {F : Int → Int → Int} {G : Int → Int → Prop} {i j : Int} {Q : MV → MHeap → Prop} (g : G i j) (q : Q (.int (F i j)) μ) : pInt2 F G (.int i) (.int j) μ Q := ⟨i, j, rfl, rfl, g, q⟩
theorem i_cmp2 {F : Int → Int → Bool} {i j : Int} {Q : MV → MHeap → Prop} (q : Q (.bool (F i j)) μ) : pCmp2 F (.int i) (.int j) μ Q := ⟨i, j, rfl, rfl, q⟩
theorem i_eqI {i j : Int} {Q : MV → MHeap → Prop} (q : Q (.bool (decide (i = j))) μ) : pEq false (.int i) (.int j) μ Q := by
  refine ⟨rfl, rfl, Nat.zero_le _, ?_⟩
  have : decide (view μ (.int i) = view μ (.int j)) = decide (i = j) := by
    show decide (MV.int i = MV.int j) = _
    rw [Bool.eq_iff_iff, decide_eq_true_eq, decide_eq_true_eq, MV.int.injEq]
  rw [Bool.false_xor, this]; exact q
theorem i_neI {i j : Int} {Q : MV → MHeap → Prop} (q : Q (.bool (!decide (i = j))) μ) : pEq true (.int i) (.int j) μ Q := by
  refine ⟨rfl, rfl, Nat.zero_le _, ?_⟩
  have : decide (view μ (.int i) = view μ (.int j)) = decide (i = j) := by
    show decide (MV.int i = MV.int j) = _
    rw [Bool.eq_iff_iff, decide_eq_true_eq, decide_eq_true_eq, MV.int.injEq]
  rw [Bool.true_xor, this]; exact q
theorem i_eqT {l m : List MV} {Q : MV → MHeap → Prop} (h1 : plains l = true) (h2 : plains m = true) (h3 : deps l ≤ 49) (q : Q (.bool (decide (l = m))) μ) : pEq false (.tup l) (.tup m) μ Q := by
  refine ⟨h1, h2, Nat.succ_le_succ h3, ?_⟩
  have : decide (view μ (.tup l) = view μ (.tup m)) = decide (l = m) := by
    show decide (MV.tup l = MV.tup m) = _
    rw [Bool.eq_iff_iff, decide_eq_true_eq, decide_eq_true_eq, MV.tup.injEq]
  rw [Bool.false_xor, this]; exact q
theorem i_eqF {l m : List MV} {Q : MV → MHeap → Prop} (h1 : plains l = true) (h2 : plains m = true) (h3 : deps l ≤ 49) (q : Q (.bool (decide (l = m))) μ) : pEq false (.flist l) (.flist m) μ Q := by
  refine ⟨h1, h2, Nat.succ_le_succ h3, ?_⟩
  have : decide (view μ (.flist l) = view μ (.flist m)) = decide (l = m) := by
    show decide (MV.flist l = MV.flist m) = _
    rw [Bool.eq_iff_iff, decide_eq_true_eq, decide_eq_true_eq, MV.flist.injEq]
  rw [Bool.false_xor, this]; exact q
theorem i_neF {l m : List MV} {Q : MV → MHeap → Prop} (h1 : plains l = true) (h2 : plains m = true) (h3 : deps l ≤ 49) (q : Q (.bool (!decide (l = m))) μ) : pEq true (.flist l) (.flist m) μ Q := by
  refine ⟨h1, h2, Nat.succ_le_succ h3, ?_⟩
  have : decide (view μ (.flist l) = view μ (.flist m)) = decide (l = m) := by
    show decide (MV.flist l = MV.flist m) = _
    rw [Bool.eq_iff_iff, decide_eq_true_eq, decide_eq_true_eq, MV.flist.injEq]
  rw [Bool.true_xor, this]; exact q
theorem i_getR {r : Addr} {l : List MV} {i : Int} {d : MV} {Q : MV → MHeap → Prop} (m : μ r = some (.list l)) (h0 : 0 ≤ i) (e : l[i.toNat]? = some d) (z : l.length ≤ 1000000) (q : Q d μ) : pGetL (.ref r) (.int i) μ Q := ⟨l, i, d, by simp only [seqOf, m], rfl, h0, e, z, q⟩
theorem i_getT {l : List MV} {i : Int} {d : MV} {Q : MV → MHeap → Prop} (h0 : 0 ≤ i) (e : l[i.toNat]? = some d) (z : l.length ≤ 1000000) (q : Q d μ) : pGetL (.tup l) (.int i) μ Q := ⟨l, i, d, rfl, rfl, h0, e, z, q⟩
theorem i_getF {l : List MV} {i : Int} {d : MV} {Q : MV → MHeap → Prop} (h0 : 0 ≤ i) (e : l[i.toNat]? = some d) (z : l.length ≤ 1000000) (q : Q d μ) : pGetL (.flist l) (.int i) μ Q := ⟨l, i, d, rfl, rfl, h0, e, z, q⟩
theorem i_getI {r : Addr} {es : List (Int × MV)} {i : Int} {d : MV} {Q : MV → MHeap → Prop} (m : μ r = some (.idict es)) (e : dget es i = some d) (q : Q d μ) : pGetI (.ref r) (.int i) μ Q := ⟨r, es, i, d, rfl, m, rfl, e, q⟩
theorem i_getK {r : Addr} {es : List (List MV × MV)} {ks : List MV} {d : MV} {Q : MV → MHeap → Prop} (m : μ r = some (.tdict es)) (k : keys 5 ks = true) (e : dget es ks = some d) (q : Q d μ) : pGetT (.ref r) (.tup ks) μ Q := ⟨r, es, ks, d, rfl, m, rfl, k, e, q⟩
theorem i_inIy {r : Addr} {es : List (Int × MV)} {i : Int} {x : MV} {Q : MV → MHeap → Prop} (m : μ r = some (.idict es)) (e : dget es i = some x) (q : Q (.bool true) μ) : pInI false (.int i) (.ref r) μ Q := ⟨r, es, i, rfl, m, rfl, by rw [e]; exact q⟩
theorem i_inIn {r : Addr} {es : List (Int × MV)} {i : Int} {Q : MV → MHeap → Prop} (m : μ r = some (.idict es)) (e : dget es i = none) (q : Q (.bool false) μ) : pInI false (.int i) (.ref r) μ Q := ⟨r, es, i, rfl, m, rfl, by rw [e]; exact q⟩
theorem i_niIy {r : Addr} {es : List (Int × MV)} {i : Int} {x : MV} {Q : MV → MHeap → Prop} (m : μ r = some (.idict es)) (e : dget es i = some x) (q : Q (.bool false) μ) : pInI true (.int i) (.ref r) μ Q := ⟨r, es, i, rfl, m, rfl, by rw [e]; exact q⟩
theorem i_niIn {r : Addr} {es : List (Int × MV)} {i : Int} {Q : MV → MHeap → Prop} (m : μ r = some (.idict es)) (e : dget es i = none) (q : Q (.bool true) μ) : pInI true (.int i) (.ref r) μ Q := ⟨r, es, i, rfl, m, rfl, by rw [e]; exact q⟩
theorem i_niKy {r : Addr} {es : List (List MV × MV)} {ks : List MV} {x : MV} {Q : MV → MHeap → Prop} (m : μ r = some (.tdict es)) (k : keys 5 ks = true) (e : dget es ks = some x) (q : Q (.bool false) μ) : pInT true (.tup ks) (.ref r) μ Q := ⟨r, es, ks, rfl, m, rfl, k, by rw [e]; exact q⟩
theorem i_niKn {r : Addr} {es : List (List MV × MV)} {ks : List MV} {Q : MV → MHeap → Prop} (m : μ r = some (.tdict es)) (k : keys 5 ks = true) (e : dget es ks = none) (q : Q (.bool true) μ) : pInT true (.tup ks) (.ref r) μ Q := ⟨r, es, ks, rfl, m, rfl, k, by rw [e]; exact q⟩
theorem i_niF {a : MV} {l : List MV} {Q : MV → MHeap → Prop} (h1 : a.plain = true) (h2 : plains l = true) (h3 : a.dep ≤ 50) (q : Q (.bool (!decide (a ∈ l))) μ) : pInF true a (.flist l) μ Q := ⟨l, rfl, h1, h2, h3, by rw [Bool.true_xor]; exact q⟩
theorem i_niR {a : MV} {r : Addr} {l : List MV} {Q : MV → MHeap → Prop} (m : μ r = some (.list l)) (h1 : a.plain = true) (h2 : plains l = true) (h3 : a.dep ≤ 50) (q : Q (.bool (!decide (a ∈ l))) μ) : pInR true a (.ref r) μ Q := ⟨r, l, rfl, m, h1, h2, h3, by rw [Bool.true_xor]; exact q⟩
theorem i_lenM {α : Type} {r : Addr} {l : List α} {f : α → MV} {Q : MV → MHeap → Prop} (m : μ r = some (.list (l.map f))) (z : l.length ≤ 1000000) (q : Q (.int l.length) μ) : pLen [.ref r] μ Q := ⟨_, l.map f, rfl, by simp only [seqOf, m], by simpa using z, by rw [List.length_map]; exact q⟩
theorem i_lenT {l : List Int} {Q : MV → MHeap → Prop} (z : l.length ≤ 1000000) (q : Q (.int l.length) μ) : pLen [itup l] μ Q := ⟨_, l.map MV.int, rfl, rfl, by simpa using z, by rw [List.length_map]; exact q⟩
theorem i_lenF {α : Type} {l : List α} {f : α → MV} {Q : MV → MHeap → Prop} (z : l.length ≤ 1000000) (q : Q (.int l.length) μ) : pLen [.flist (l.map f)] μ Q := ⟨_, _, rfl, rfl, by simpa using z, by rw [List.length_map]; exact q⟩
theorem i_abs {i : Int} {Q : MV → MHeap → Prop} (q : Q (.int (if i < 0 then -i else i)) μ) : pAbs [.int i] μ Q := ⟨i, rfl, q⟩
theorem i_int {i : Int} {Q : MV → MHeap → Prop} (q : Q (.int i) μ) : pInt [.int i] μ Q := ⟨i, rfl, q⟩
theorem i_tupleF {l : List MV} {Q : MV → MHeap → Prop} (z : l.length ≤ 1000000) (q : Q (.tup l) μ) : pTuple [.flist l] μ Q := ⟨_, l, rfl, rfl, trivial, z, q⟩
theorem i_tupleR {r : Addr} {l : List MV} {Q : MV → MHeap → Prop} (m : μ r = some (.list l)) (z : l.length ≤ 1000000) (q : Q (.tup l) μ) : pTuple [.ref r] μ Q := ⟨_, l, rfl, by simp only [seqOf, m], trivial, z, q⟩
theorem i_listR {r : Addr} {l : List MV} {Q : MV → MHeap → Prop} (m : μ r = some (.list l)) (z : l.length ≤ 1000000) (q : Q (.flist l) μ) : pList [.ref r] μ Q := ⟨_, l, rfl, by simp only [seqOf, m], z, q⟩
theorem i_sortK {r : Addr} {es : List (Int × MV)} {Q : MV → MHeap → Prop} (m : μ r = some (.idict es)) (z : es.length < 64) (q : Q (.flist ((srt iLt (es.map (·.1))).map MV.int)) μ) : pSortK [.ref r] μ Q := ⟨r, es, rfl, m, z, q⟩
theorem i_append {r : Addr} {l : List MV} {d : MV} {Q : MV → MHeap → Prop} (m : μ r = some (.list l)) (z : l.length ≤ 1000000) (q : Q .none (upd μ r (.list (l ++ [d])))) : pAppend [.ref r, d] μ Q := ⟨r, l, d, rfl, m, z, q⟩
theorem i_getD {r : Addr} {es : List (Int × MV)} {i : Int} {e d : MV} {Q : MV → MHeap → Prop} (m : μ r = some (.idict es)) (h : (dget es i).getD e = d) (q : Q d μ) : pGetD [.ref r, .int i, e] μ Q := ⟨r, es, i, e, rfl, m, by rw [h]; exact q⟩
theorem i_setL {r : Addr} {l : List MV} {i : Int} {v : MV} {Q : MHeap → Prop} (m : μ r = some (.list l)) (h0 : 0 ≤ i) (h1 : i < l.length) (z : l.length ≤ 1000000) (q : Q (upd μ r (.list (l.set i.toNat v)))) : pSetL (.ref r) (.int i) v μ Q := ⟨r, l, i, rfl, m, rfl, h0, h1, z, q⟩
theorem i_setI {r : Addr} {es : List (Int × MV)} {i : Int} {v : MV} {Q : MHeap → Prop} (m : μ r = some (.idict es)) (z : es.length ≤ 1000000) (q : Q (upd μ r (.idict (dset es i v)))) : pSetI (.ref r) (.int i) v μ Q := ⟨r, es, i, rfl, m, rfl, z, q⟩
theorem i_setK {r : Addr} {es : List (List MV × MV)} {ks : List MV} {v : MV} {Q : MHeap → Prop} (m : μ r = some (.tdict es)) (k : keys 5 ks = true) (z : es.length ≤ 1000000) (q : Q (upd μ r (.tdict (dset es ks v)))) : pSetT (.ref r) (.tup ks) v μ Q := ⟨r, es, ks, rfl, m, rfl, k, z, q⟩
theorem i_split {p : Prop} [Decidable p] {A B : Prop} (h1 : p → A) (h2 : ¬ p → B) : (decide p = true → A) ∧ (decide p = false → B) := ⟨fun h => h1 (of_decide_eq_true h), fun h => h2 (of_decide_eq_false h)⟩
theorem i_splitN {p : Prop} [Decidable p] {A B : Prop} (h1 : ¬ p → A) (h2 : p → B) : ((!decide p) = true → A) ∧ ((!decide p) = false → B) := ⟨fun h => h1 (by simpa using h), fun h => h2 (by simpa using h)⟩
theorem i_yes {A B : Prop} (h : A) : (true = true → A) ∧ (true = false → B) := ⟨fun _ => h, (fun e => nomatch e)⟩
theorem i_no {A B : Prop} (h : B) : (false = true → A) ∧ (false = false → B) := ⟨(fun e => nomatch e), fun _ => h⟩
theorem setv_mu {x : Str} {d : MV} : (σ.setv x d).mu = σ.mu := rfl
theorem v_same {x : Str} {d : MV} : (σ.setv x d).vars x = some d := if_pos rfl
theorem v_other {x y : String} {d e : MV} (h : x ≠ y) (q : σ.vars (Str.ofString x) = some e) : (σ.setv (Str.ofString y) d).vars (Str.ofString x) = some e := (if_neg fun z => h (ofString_inj.mp z)).trans q
theorem v_mk {x : Str} {e : MV} (q : V x = some e) : (St.mk V μ).vars x = some e := q
end
theorem v_par1 {x : String} {xs : List Str} {d : MV} {ds : List MV} : paramVars (Str.ofString x :: xs) (d :: ds) (Str.ofString x) = some d := by
  unfold paramVars
  rw [List.zip_cons_cons, List.lookup_cons, beq_self_eq_true]
theorem v_par2 {x y : String} {xs : List Str} {d e : MV} {ds : List MV} (h : x ≠ y) (q : paramVars xs ds (Str.ofString x) = some e) : paramVars (Str.ofString y :: xs) (d :: ds) (Str.ofString x) = some e := by
  unfold paramVars at q ⊢
  rw [List.zip_cons_cons, List.lookup_cons, beq_false_of_ne fun z => h (ofString_inj.mp z)]
  exact q
theorem v_free {names : List (Str × NameKind)} {V : Str → Option MV} {x : Str} {e : MV} (h : names.lookup x = some .free) (q : V x = some e) : freeVars names V x = some e := (if_pos h).trans q
end Mine
namespace Mine
open Classical
noncomputable def Rd (W : WE) (σ : St) (d : MV) : Prop := ∀ Q : MV → St → Prop, Q d σ → W σ Q
noncomputable def Rd2 (P : MV → MV → W0) (a b : MV) (μ : MHeap) (d : MV) : Prop := ∀ Q : MV → MHeap → Prop, Q d μ → P a b μ Q
noncomputable def RdN (P : List MV → W0) (ds : List MV) (μ : MHeap) (d : MV) : Prop := ∀ Q : MV → MHeap → Prop, Q d μ → P ds μ Q
noncomputable def RdA (Ws : List WE) (σ : St) (ds : List MV) : Prop := ∀ Q : List MV → St → Prop, Q ds σ → wArgs Ws σ Q
noncomputable def RdT (T : WT) (σ : St) (b : Bool) : Prop := ∀ Q : Bool → St → Prop, Q b σ → T σ Q
noncomputable def RdS (P : WSet) (a b v : MV) (μ μ' : MHeap) : Prop := ∀ Q : MHeap → Prop, Q μ' → P a b v μ Q
section
variable {W W1 W2 : WE} {σ : St} {μ μ' : MHeap} {d a b v : MV} {Q : Fl → St → Prop}
theorem rd_var {x : String} (h : σ.vars (Str.ofString x) = some d) : Rd (wVar x) σ d := fun _ q => ⟨d, h, q⟩
theorem rd_lit : Rd (wLit d) σ d := fun _ q => q
theorem rd_neg {i : Int} (h : Rd W σ (.int i)) : Rd (wNeg W) σ (.int (-i)) := fun _ q => h _ ⟨i, rfl, q⟩
theorem rd_2 {P : MV → MV → W0} (h1 : Rd W1 σ a) (h2 : Rd W2 σ b) (h : Rd2 P a b σ.mu d) : Rd (w2 P W1 W2) σ d := fun _ q => h1 _ (h2 _ (h _ q))
theorem rd_a0 : RdA [] σ [] := fun _ q => q
theorem rd_a {r : List WE} {ds : List MV} (h : Rd W σ d) (hr : RdA r σ ds) : RdA (W :: r) σ (d :: ds) := fun _ q => h _ (hr _ q)
theorem rd_N {P : List MV → W0} {Ws : List WE} {ds : List MV} (h1 : RdA Ws σ ds) (h : RdN P ds σ.mu d) : Rd (wN P Ws) σ d := fun _ q => h1 _ (h _ q)
theorem rd_tup {Ws : List WE} {ds : List MV} (h1 : RdA Ws σ ds) (z : ds.length ≤ 1000000) : Rd (wTup Ws) σ (.tup ds) := fun _ q => h1 _ ⟨z, q⟩
theorem rd_flist {Ws : List WE} {ds : List MV} (h1 : RdA Ws σ ds) (z : ds.length ≤ 1000000) : Rd (wFlist Ws) σ (.flist ds) := fun _ q => h1 _ ⟨z, q⟩
theorem rd_attr {n : Str} {ok : Addr → Prop} {C x dd : Addr} {es : List (Str × MV)} (h : Rd W σ (.ref x)) (h1 : σ.mu x = some (.inst C dd)) (h2 : σ.mu dd = some (.attrs es)) (h3 : ok C) (h4 : es.lookup n = some d) : Rd (wAttr n ok W) σ d := fun _ q => h _ ⟨C, x, dd, es, d, ⟨rfl, h1, h2⟩, h3, h4, q⟩
theorem rd_meth {n : Str} {ok : Addr → Prop} {P : List MV → W0} {Ws : List WE} {ds : List MV} {C x dd : Addr} {es : List (Str × MV)} (h : Rd W σ (.ref x)) (h1 : σ.mu x = some (.inst C dd)) (h2 : σ.mu dd = some (.attrs es)) (h3 : ok C) (h4 : es.lookup n = none) (ha : RdA Ws σ ds) (hp : RdN P (.ref x :: ds) σ.mu d) : Rd (wMeth n ok P W Ws) σ d :=
  fun _ q => h _ ⟨C, x, dd, es, ⟨rfl, h1, h2⟩, h3, h4, ha _ (hp _ q)⟩
theorem rd_bmethL {P : List MV → W0} {Ws : List WE} {ds : List MV} {r : Addr} {l : List MV} (h : Rd W σ (.ref r)) (m : σ.mu r = some (.list l)) (ha : RdA Ws σ ds) (hp : RdN P (.ref r :: ds) σ.mu d) : Rd (wBMeth "list" P W Ws) σ d := fun _ q => h _ ⟨recv_list.mpr ⟨r, l, rfl, m⟩, ha _ (hp _ q)⟩
theorem rd_bmethI {P : List MV → W0} {Ws : List WE} {ds : List MV} {r : Addr} {l : List (Int × MV)} (h : Rd W σ (.ref r)) (m : σ.mu r = some (.idict l)) (ha : RdA Ws σ ds) (hp : RdN P (.ref r :: ds) σ.mu d) : Rd (wBMeth "dict" P W Ws) σ d := fun _ q => h _ ⟨recv_dict.mpr ⟨r, rfl, .inl ⟨l, m⟩⟩, ha _ (hp _ q)⟩
theorem rd_ifT {T : WT} (h : RdT T σ true) (h1 : Rd W1 σ d) : Rd (wIf T W1 W2) σ d := fun _ q => h _ ⟨fun _ => h1 _ q, fun e => nomatch e⟩
theorem rd_ifF {T : WT} (h : RdT T σ false) (h1 : Rd W2 σ d) : Rd (wIf T W1 W2) σ d := fun _ q => h _ ⟨(fun e => nomatch e), fun _ => h1 _ q⟩
theorem rd_ifI {T : WT} {p : Prop} {dp : Decidable p} {i j : Int} (h : RdT T σ (decide p)) (h1 : p → Rd W1 σ (.int i)) (h2 : ¬ p → Rd W2 σ (.int j)) : Rd (wIf T W1 W2) σ (.int (if p then i else j)) := fun Q q => h _ (by
  by_cases hp : p
  · rw [if_pos hp] at q
    exact ⟨fun _ => h1 hp _ q, fun e => absurd hp (of_decide_eq_false e)⟩
  · rw [if_neg hp] at q
    exact ⟨fun e => absurd (of_decide_eq_true e) hp, fun _ => h2 hp _ q⟩)
theorem rd_hi {l : List Int} {n : Nat} (h : Rd W σ (itup l)) (h2 : Rd W2 σ (.int n)) (z : l.length ≤ 1000000) : Rd (wSlice W none (some W2)) σ (itup (l.take n)) := fun Q q => h _ (h2 _ ⟨n, rfl, i_cutHi (A := fun v => Q v σ) (B := fun v => Q v σ) z q⟩)
theorem rd_lo {l : List Int} {n : Nat} (h : Rd W σ (itup l)) (h2 : Rd W2 σ (.int n)) (z : l.length ≤ 1000000) : Rd (wSlice W (some W2) none) σ (itup (l.drop n)) := fun Q q => h _ (h2 _ ⟨n, rfl, i_cutLo (A := fun v => Q v σ) (B := fun v => Q v σ) z q⟩)
theorem rd_hiF {l : List MV} {n : Nat} (h : Rd W σ (.flist l)) (h2 : Rd W2 σ (.int n)) (z : l.length ≤ 1000000) : Rd (wSlice W none (some W2)) σ (.flist (l.take n)) := fun Q q => h _ (h2 _ ⟨n, rfl, i_cutF (A := fun v => Q v σ) (B := fun v => Q v σ) z q⟩)
theorem rt_cmp {P : MV → MV → W0} {t : Bool} (h1 : Rd W1 σ a) (h2 : Rd W2 σ b) (h : Rd2 P a b σ.mu (.bool t)) : RdT (asBool P W1 W2) σ t := fun _ q => h1 _ (h2 _ (h _ ⟨t, rfl, q⟩))
theorem r2_int {F : Int → Int → Int} {G : Int → Int → Prop} {i j : Int} (g : G i j) : Rd2 (pInt2 F G) (.int i) (.int j) μ (.int (F i j)) := fun _ q => i_int2 g q
theorem r2_cmp {F : Int → Int → Bool} {i j : Int} : Rd2 (pCmp2 F) (.int i) (.int j) μ (.bool (F i j)) := fun _ q => i_cmp2 q
theorem r2_eqI {i j : Int} : Rd2 (pEq false) (.int i) (.int j) μ (.bool (decide (i = j))) := fun _ q => i_eqI q
theorem r2_neI {i j : Int} : Rd2 (pEq true) (.int i) (.int j) μ (.bool (!decide (i = j))) := fun _ q => i_neI q
theorem r2_eqT {l m : List MV} (h1 : plains l = true) (h2 : plains m = true) (h3 : deps l ≤ 49) : Rd2 (pEq false) (.tup l) (.tup m) μ (.bool (decide (l = m))) := fun _ q => i_eqT h1 h2 h3 q
theorem r2_eqF {l m : List MV} (h1 : plains l = true) (h2 : plains m = true) (h3 : deps l ≤ 49) : Rd2 (pEq false) (.flist l) (.flist m) μ (.bool (decide (l = m))) := fun _ q => i_eqF h1 h2 h3 q
theorem r2_neF {l m : List MV} (h1 : plains l = true) (h2 : plains m = true) (h3 : deps l ≤ 49) : Rd2 (pEq true) (.flist l) (.flist m) μ (.bool (!decide (l = m))) := fun _ q => i_neF h1 h2 h3 q
theorem r2_getR {r : Addr} {l : List MV} {i : Int} (m : μ r = some (.list l)) (h0 : 0 ≤ i) (e : l[i.toNat]? = some d) (z : l.length ≤ 1000000) : Rd2 pGetL (.ref r) (.int i) μ d := fun _ q => i_getR m h0 e z q
theorem r2_getT {l : List MV} {i : Int} (h0 : 0 ≤ i) (e : l[i.toNat]? = some d) (z : l.length ≤ 1000000) : Rd2 pGetL (.tup l) (.int i) μ d := fun _ q => i_getT h0 e z q
theorem r2_getF {l : List MV} {i : Int} (h0 : 0 ≤ i) (e : l[i.toNat]? = some d) (z : l.length ≤ 1000000) : Rd2 pGetL (.flist l) (.int i) μ d := fun _ q => i_getF h0 e z q
theorem r2_getI {r : Addr} {es : List (Int × MV)} {i : Int} (m : μ r = some (.idict es)) (e : dget es i = some d) : Rd2 pGetI (.ref r) (.int i) μ d := fun _ q => i_getI m e q
theorem r2_getK {r : Addr} {es : List (List MV × MV)} {ks : List MV} (m : μ r = some (.tdict es)) (k : keys 5 ks = true) (e : dget es ks = some d) : Rd2 pGetT (.ref r) (.tup ks) μ d := fun _ q => i_getK m k e q
theorem r2_inIy {r : Addr} {es : List (Int × MV)} {i : Int} {x : MV} (m : μ r = some (.idict es)) (e : dget es i = some x) : Rd2 (pInI false) (.int i) (.ref r) μ (.bool true) := fun _ q => i_inIy m e q
theorem r2_inIn {r : Addr} {es : List (Int × MV)} {i : Int} (m : μ r = some (.idict es)) (e : dget es i = none) : Rd2 (pInI false) (.int i) (.ref r) μ (.bool false) := fun _ q => i_inIn m e q
theorem r2_niIy {r : Addr} {es : List (Int × MV)} {i : Int} {x : MV} (m : μ r = some (.idict es)) (e : dget es i = some x) : Rd2 (pInI true) (.int i) (.ref r) μ (.bool false) := fun _ q => i_niIy m e q
theorem r2_niIn {r : Addr} {es : List (Int × MV)} {i : Int} (m : μ r = some (.idict es)) (e : dget es i = none) : Rd2 (pInI true) (.int i) (.ref r) μ (.bool true) := fun _ q => i_niIn m e q
theorem r2_niKy {r : Addr} {es : List (List MV × MV)} {ks : List MV} {x : MV} (m : μ r = some (.tdict es)) (k : keys 5 ks = true) (e : dget es ks = some x) : Rd2 (pInT true) (.tup ks) (.ref r) μ (.bool false) := fun _ q => i_niKy m k e q
theorem r2_niKn {r : Addr} {es : List (List MV × MV)} {ks : List MV} (m : μ r = some (.tdict es)) (k : keys 5 ks = true) (e : dget es ks = none) : Rd2 (pInT true) (.tup ks) (.ref r) μ (.bool true) := fun _ q => i_niKn m k e q
theorem r2_niF {l : List MV} (h1 : a.plain = true) (h2 : plains l = true) (h3 : a.dep ≤ 50) : Rd2 (pInF true) a (.flist l) μ (.bool (!decide (a ∈ l))) := fun _ q => i_niF h1 h2 h3 q
theorem r2_niR {r : Addr} {l : List MV} (m : μ r = some (.list l)) (h1 : a.plain = true) (h2 : plains l = true) (h3 : a.dep ≤ 50) : Rd2 (pInR true) a (.ref r) μ (.bool (!decide (a ∈ l))) := fun _ q => i_niR m h1 h2 h3 q
theorem r2_addT {l : List Int} {g : Int} (z : l.length ≤ 999999) : Rd2 pAddT (itup l) (.tup [.int g]) μ (itup (l ++ [g])) := fun Q q => ⟨l.map MV.int, [.int g], rfl, rfl, by simp; lia, by
  have : (l.map MV.int ++ [MV.int g]) = (l ++ [g]).map MV.int := by simp
  rw [this]; exact q⟩
theorem rn_lenM {α : Type} {r : Addr} {l : List α} {f : α → MV} (m : μ r = some (.list (l.map f))) (z : l.length ≤ 1000000) : RdN pLen [.ref r] μ (.int l.length) := fun _ q => i_lenM m z q
theorem rn_lenT {l : List Int} (z : l.length ≤ 1000000) : RdN pLen [itup l] μ (.int l.length) := fun _ q => i_lenT z q
theorem rn_lenF {α : Type} {l : List α} {f : α → MV} (z : l.length ≤ 1000000) : RdN pLen [.flist (l.map f)] μ (.int l.length) := fun _ q => i_lenF z q
theorem rn_lenL {r : Addr} {l : List MV} (m : μ r = some (.list l)) (z : l.length ≤ 1000000) : RdN pLen [.ref r] μ (.int l.length) := fun _ q => ⟨_, l, rfl, by simp only [seqOf, m], z, q⟩
theorem rn_abs {i : Int} : RdN pAbs [.int i] μ (.int (if i < 0 then -i else i)) := fun _ q => i_abs q
theorem rn_int {i : Int} : RdN pInt [.int i] μ (.int i) := fun _ q => i_int q
theorem rn_tupleF {l : List MV} (z : l.length ≤ 1000000) : RdN pTuple [.flist l] μ (.tup l) := fun _ q => i_tupleF z q
theorem rn_tupleR {r : Addr} {l : List MV} (m : μ r = some (.list l)) (z : l.length ≤ 1000000) : RdN pTuple [.ref r] μ (.tup l) := fun _ q => i_tupleR m z q
theorem rn_listR {r : Addr} {l : List MV} (m : μ r = some (.list l)) (z : l.length ≤ 1000000) : RdN pList [.ref r] μ (.flist l) := fun _ q => i_listR m z q
theorem rn_sortK {r : Addr} {es : List (Int × MV)} (m : μ r = some (.idict es)) (z : es.length < 64) : RdN pSortK [.ref r] μ (.flist ((srt iLt (es.map (·.1))).map MV.int)) := fun _ q => i_sortK m z q
theorem rn_getD {r : Addr} {es : List (Int × MV)} {i : Int} {e : MV} (m : μ r = some (.idict es)) : RdN pGetD [.ref r, .int i, e] μ ((dget es i).getD e) := fun _ q => i_getD m rfl q
theorem rs_L {r : Addr} {l : List MV} {i : Int} (m : μ r = some (.list l)) (h0 : 0 ≤ i) (h1 : i < l.length) (z : l.length ≤ 1000000) : RdS pSetL (.ref r) (.int i) v μ (upd μ r (.list (l.set i.toNat v))) := fun _ q => i_setL m h0 h1 z q
theorem rs_I {r : Addr} {es : List (Int × MV)} {i : Int} (m : μ r = some (.idict es)) (z : es.length ≤ 1000000) : RdS pSetI (.ref r) (.int i) v μ (upd μ r (.idict (dset es i v))) := fun _ q => i_setI m z q
theorem rs_K {r : Addr} {es : List (List MV × MV)} {ks : List MV} (m : μ r = some (.tdict es)) (k : keys 5 ks = true) (z : es.length ≤ 1000000) : RdS pSetT (.ref r) (.tup ks) v μ (upd μ r (.tdict (dset es ks v))) := fun _ q => i_setK m k z q
theorem s_assign {x : Str} (h : Rd W σ d) (k : Q .next (σ.setv x d)) : wAssign W (wSetv x) σ Q := h _ k
theorem s_store {P : WSet} (h : Rd W σ v) (h1 : Rd W1 σ a) (h2 : Rd W2 σ b) (hp : RdS P a b v σ.mu μ') (k : Q .next { σ with mu := μ' }) : wAssign W (wSub P W1 W2) σ Q := h _ (h1 _ (h2 _ (hp _ k)))
theorem s_ret (h : Rd W σ d) (k : Q (.ret d) σ) : wRet W σ Q := h _ k
theorem s_cond {T : WT} {S1 S2 : WS} {p : Prop} {dp : Decidable p} (h : RdT T σ (decide p)) (k1 : p → S1 σ Q) (k2 : ¬ p → S2 σ Q) : wCond T S1 S2 σ Q := h _ (i_split k1 k2)
theorem s_condN {T : WT} {S1 S2 : WS} {p : Prop} {dp : Decidable p} (h : RdT T σ (!decide p)) (k1 : ¬ p → S1 σ Q) (k2 : p → S2 σ Q) : wCond T S1 S2 σ Q := h _ (i_splitN k1 k2)
theorem s_condT {T : WT} {S1 S2 : WS} (h : RdT T σ true) (k : S1 σ Q) : wCond T S1 S2 σ Q := h _ (i_yes k)
theorem s_condF {T : WT} {S1 S2 : WS} (h : RdT T σ false) (k : S2 σ Q) : wCond T S1 S2 σ Q := h _ (i_no k)
theorem s_append {r : Addr} {l : List MV} (h1 : Rd W1 σ (.ref r)) (m : σ.mu r = some (.list l)) (h2 : Rd W2 σ d) (z : l.length ≤ 1000000) (k : Q .next { σ with mu := upd σ.mu r (.list (l ++ [d])) }) : wExpr (wBMeth "list" pAppend W1 [W2]) σ Q :=
  h1 _ ⟨recv_list.mpr ⟨r, l, rfl, m⟩, h2 _ (i_append (Q := fun d μ' => d = .none ∧ Q .next { σ with mu := μ' }) m z ⟨rfl, k⟩)⟩
theorem s_new {mo : MObj} {x : Str} (k : ∀ a, σ.mu a = none → Q .next (St.setv { σ with mu := upd σ.mu a mo } x (.ref a))) : wAssign (wNew mo) (wSetv x) σ Q := k
theorem s_list {Ws : List WE} {ds : List MV} {x : Str} (h : RdA Ws σ ds) (z : ds.length ≤ 1000000) (k : ∀ a, σ.mu a = none → Q .next (St.setv { σ with mu := upd σ.mu a (.list ds) } x (.ref a))) : wAssign (wList Ws) (wSetv x) σ Q := h _ ⟨z, k⟩
theorem s_dict1 {i : Int} {x : Str} (h1 : Rd W1 σ (.int i)) (h2 : Rd W2 σ b) (k : ∀ a, σ.mu a = none → Q .next (St.setv { σ with mu := upd σ.mu a (.idict [(i, b)]) } x (.ref a))) : wAssign (wDict1 W1 W2) (wSetv x) σ Q := h1 _ (h2 _ ⟨i, rfl, k⟩)
theorem s_call {P : List MV → W0} {Ws : List WE} {ds : List MV} {x : Str} (h : RdA Ws σ ds) (k : P ds σ.mu fun d μ' => Q .next (St.setv { σ with mu := μ' } x d)) : wAssign (wN P Ws) (wSetv x) σ Q := h _ k
theorem s_retCall {P : List MV → W0} {Ws : List WE} {ds : List MV} (h : RdA Ws σ ds) (k : P ds σ.mu fun d μ' => Q (.ret d) { σ with mu := μ' }) : wRet (wN P Ws) σ Q := h _ k
theorem s_methE {n : Str} {ok : Addr → Prop} {P : List MV → W0} {Ws : List WE} {ds : List MV} {C x dd : Addr} {es : List (Str × MV)} (h : Rd W σ (.ref x)) (h1 : σ.mu x = some (.inst C dd)) (h2 : σ.mu dd = some (.attrs es)) (h3 : ok C) (h4 : es.lookup n = none) (ha : RdA Ws σ ds) (k : P (.ref x :: ds) σ.mu fun d μ' => d = .none ∧ Q .next { σ with mu := μ' }) : wExpr (wMeth n ok P W Ws) σ Q :=
  h _ ⟨C, x, dd, es, ⟨rfl, h1, h2⟩, h3, h4, ha _ k⟩
theorem s_init2 {x : String} {n1 n2 : Str} {ok1 ok2 : Addr → Prop} {C t da : Addr} {o1 o2 : MV} (h : σ.vars (Str.ofString x) = some (.ref t)) (h1 : σ.mu t = some (.inst C da)) (h2 : σ.mu da = some (.attrs [(n1, o1), (n2, o2)])) (k1 : ok1 C) (k2 : ok2 C) (hn : n1 ≠ n2) (hne : t ≠ da)
    (k : ∀ S N, σ.mu S = none → σ.mu N = none → N ≠ S → Q .next { σ with mu := upd (upd (upd σ.mu S (.list [])) N (.list [])) da (.attrs [(n1, .ref S), (n2, .ref N)]) }) : wAssign (wTup [wList [], wList []]) (wTupT [wSetAttr n1 ok1 (wVar x), wSetAttr n2 ok2 (wVar x)]) σ Q := by
  refine ⟨Nat.zero_le _, fun S hS => ⟨Nat.zero_le _, fun N hN => ⟨Nat.le_of_ble_eq_true rfl, _, rfl, rfl, _, h, C, t, da, [(n1, o1), (n2, o2)], ⟨rfl, ?_, ?_⟩, k1, Nat.le_of_ble_eq_true rfl, _, h, C, t, da, _, ⟨rfl, ?_, upd_self _ _ _⟩, k2, ?_, ?_⟩⟩⟩
  all_goals (
    have hNS : N ≠ S := fun e => by
      rw [e] at hN
      have : upd σ.mu S (.list []) S = none := hN
      rw [upd_self] at this; cases this
    have hN0 : σ.mu N = none := (upd_ne _ _ hNS).symm.trans hN
    have a1 : t ≠ S := fun e => by rw [← e, h1] at hS; cases hS
    have a2 : t ≠ N := fun e => by rw [← e, h1] at hN0; cases hN0
    have a3 : da ≠ S := fun e => by rw [← e, h2] at hS; cases hS
    have a4 : da ≠ N := fun e => by rw [← e, h2] at hN0; cases hN0)
  · exact (upd_ne _ _ a2).trans ((upd_ne _ _ a1).trans h1)
  · exact (upd_ne _ _ a4).trans ((upd_ne _ _ a3).trans h2)
  · exact (upd_ne _ _ hne).trans ((upd_ne _ _ a2).trans ((upd_ne _ _ a1).trans h1))
  · have e : aset [(n1, o1), (n2, o2)] n1 (.ref S) = [(n1, .ref S), (n2, o2)] := by simp [aset]
    rw [e]; exact Nat.le_of_ble_eq_true rfl
  · have e : aset (aset [(n1, o1), (n2, o2)] n1 (.ref S)) n2 (.ref N) = [(n1, .ref S), (n2, .ref N)] := by
      simp [aset, hn]
    rw [upd_upd, e]
    exact k S N hS hN0 hNS
theorem rw_test {T : WT} {p : Prop} {dp : Decidable p} {A B : St → Prop} (h : RdT T σ (@decide p dp)) (k1 : ¬ p → A σ) (k2 : p → B σ) : T σ fun b σ1 => (b = false → A σ1) ∧ (b = true → B σ1) := h _ ⟨fun e => k1 (of_decide_eq_false e), fun e => k2 (of_decide_eq_true e)⟩
noncomputable def RdI (S : WSrc) (σ : St) (l : List MV) (need : MHeap → Prop) : Prop := ∀ Q, Q l need σ → S σ Q
theorem ri_F {l : List MV} (h : Rd W σ (.flist l)) : RdI (wSrc W) σ l fun _ => True := fun _ q => h _ (i_srcF q)
theorem ri_T {l : List MV} (h : Rd W σ (.tup l)) : RdI (wSrc W) σ l fun _ => True := fun _ q => h _ (i_srcT q)
theorem ri_R {r : Addr} {l : List MV} (h : Rd W σ (.ref r)) (m : σ.mu r = some (.list l)) : RdI (wSrc W) σ l fun μ => μ r = some (.list l) := fun _ q => h _ (i_srcR m q)
theorem ri_1 {Ws : List WE} {i : Int} (h : RdA Ws σ [.int i]) (z : i.natAbs < 1099511627776) : RdI (wRange Ws) σ (rngL 0 1 i.toNat) fun _ => True := fun _ q => h _ (i_rng1 z q)
theorem ri_2 {Ws : List WE} {i j : Int} (h : RdA Ws σ [.int i, .int j]) (z : i.natAbs < 1099511627776) (z' : j.natAbs < 1099511627776) : RdI (wRange Ws) σ (rngL i 1 (j - i).toNat) fun _ => True := fun _ q => h _ (i_rng2 z z' q)
theorem ri_3 {Ws : List WE} {i j : Int} (h : RdA Ws σ [.int i, .int j, .int (-1)]) (z : i.natAbs < 1099511627776) (z' : j.natAbs < 1099511627776) : RdI (wRange Ws) σ (rngL i (-1) (i - j).toNat) fun _ => True := fun _ q => h _ (i_rng3 z z' q)
theorem s_for {S : WSrc} {T : WA} {B : WS} {l : List MV} {need : MHeap → Prop} (h : RdI S σ l need) (k : wLoop need T B l σ Q) : wFor S T B σ Q := h _ k
theorem r2_addL {l m : List MV} (z : l.length + m.length ≤ 1000000) : Rd2 pAddL (.flist l) (.flist m) μ (.flist (l ++ m)) := fun _ q => ⟨l, m, rfl, rfl, z, q⟩
theorem r2_mulF {n : Int} (h0 : 0 ≤ n) (z : n ≤ 1000000) : Rd2 pMulF (.flist [d]) (.int n) μ (.flist (List.replicate n.toNat d)) := fun _ q => ⟨d, n, rfl, rfl, h0, z, q⟩
theorem v_comp {V V0 : Str → Option MV} {x y : String} {e : MV} (hV : ∀ z, z ≠ Str.ofString x → V z = V0 z) (h : y ≠ x) (q : V0 (Str.ofString y) = some e) : V (Str.ofString y) = some e := (hV _ fun z => h (ofString_inj.mp z)).trans q
theorem m_pin {r D : Addr} {o p : MObj} (m : μ r = some o) (hD : μ D = none) : upd μ D p r = some o := (upd_ne _ _ fun e => by rw [e, hD] at m; cases m).trans m
theorem rd_comp {names : List (Str × NameKind)} {x : Str} {R : WSrc} {α : Type} {emb : α → MV} (g : α → MV) {items : List α} {need : MHeap → Prop} (hR : RdI R σ (items.map emb) need) (hn : ∀ D p, σ.mu D = none → need (upd σ.mu D p)) (z : items.length ≤ 900000)
    (hb : ∀ D, σ.mu D = none → ∀ i ∈ items, ∀ V its vs, (∀ y, y ≠ x → V y = freeVars names σ.vars y) → V x = some (emb i) → Rd W ⟨V, upd σ.mu D (.pin its vs)⟩ (g i)) : Rd (wComp names ⟨R, wSetv x, []⟩ [] W) σ (.flist (items.map g)) := fun Q q => hR _ fun D hD => by
  refine wItems_map g (fun V => ∀ y, y ≠ x → V y = freeVars names σ.vars y) (fun its vs => hn D _ hD) (fun _ _ => rfl) z (fun i hi V its vs C hV hl hC => ⟨fun _ => ?_, fun e => nomatch e⟩) fun V its hV => ?_
  · have hV' : ∀ y, y ≠ x → (St.setv ⟨V, upd σ.mu D (.pin its vs)⟩ x (emb i)).vars y = freeVars names σ.vars y := fun y h => (if_neg h).trans (hV y h)
    refine hb D hD i hi _ its vs hV' (if_pos rfl) _ ⟨Nat.lt_of_lt_of_le hl (by decide), fun its' => ?_⟩
    dsimp only
    rw [upd_upd]
    exact hC _ its' hV'
  · dsimp only
    rw [erase_upd _ hD]
    exact q
theorem rd_comp2 {names : List (Str × NameKind)} {x1 x2 : Str} {R : WSrc} {α : Type} {e1 e2 : α → MV} (g : α → MV) {items : List α} {need : MHeap → Prop} (hx : x1 ≠ x2) (hR : RdI R σ (items.map fun i => .tup [e1 i, e2 i]) need) (hn : ∀ D p, σ.mu D = none → need (upd σ.mu D p)) (z : items.length ≤ 900000)
    (hb : ∀ D, σ.mu D = none → ∀ i ∈ items, ∀ V its vs, (∀ y, y ≠ x1 → y ≠ x2 → V y = freeVars names σ.vars y) → V x1 = some (e1 i) → V x2 = some (e2 i) → Rd W ⟨V, upd σ.mu D (.pin its vs)⟩ (g i)) : Rd (wComp names ⟨R, wTupT [wSetv x1, wSetv x2], []⟩ [] W) σ (.flist (items.map g)) := fun Q q => hR _ fun D hD => by
  refine wItems_map g (fun V => ∀ y, y ≠ x1 → y ≠ x2 → V y = freeVars names σ.vars y) (fun its vs => hn D _ hD) (fun _ _ _ => rfl) z (fun i hi V its vs C hV hl hC => ⟨_, rfl, rfl, fun _ => ?_, fun e => nomatch e⟩) fun V its hV => ?_
  · have hV' : ∀ y, y ≠ x1 → y ≠ x2 → (St.setv (St.setv ⟨V, upd σ.mu D (.pin its vs)⟩ x1 (e1 i)) x2 (e2 i)).vars y = freeVars names σ.vars y := fun y h1 h2 => (if_neg h2).trans ((if_neg h1).trans (hV y h1 h2))
    refine hb D hD i hi _ its vs hV' ((if_neg hx).trans (if_pos rfl)) (if_pos rfl) _ ⟨Nat.lt_of_lt_of_le hl (by decide), fun its' => ?_⟩
    dsimp only
    rw [upd_upd]
    exact hC _ its' hV'
  · dsimp only
    rw [erase_upd _ hD]
    exact q
end
end Mine
open Mine
local macro_rules | `(tactic| walk_at "ln") => `(tactic| first | lia | (simp only [List.length_map, List.length_cons, List.length_nil, List.length_append, List.length_set]; lia))
namespace Mine
open Classical
section
variable {prog : Program} {w : World} {c : Cx prog w}
theorem JE.nm {k : Nat} {sc : List (Str × NameKind)} (x : String) (pos : Pos) (h : (Str.ofString x == ("__debug__" : Str) || Str.ofString x == ("__classdict__" : Str)) = false) : JE c k sc (.Name (Str.ofString x) pos) (wVar x) := JE.name x pos (Bool.or_eq_false_iff.mp h).1 (Bool.or_eq_false_iff.mp h).2
theorem JA.nl {k : Nat} {sc : List (Str × NameKind)} {x : Str} {pos : Pos} (h : sc.lookup x = some .local) : JA c k sc (.Name x pos) (wSetv x) := JA.name (.inl h)
theorem JA.nc {k : Nat} {sc : List (Str × NameKind)} {x : Str} {pos : Pos} (h : sc.lookup x = some .cell) : JA c k sc (.Name x pos) (wSetv x) := JA.name (.inr h)
theorem fn_own {sc : List (Str × NameKind)} {names : List Str} (h : (names.all fun x => sc.lookup x == some .local || sc.lookup x == some .cell) = true) : ∀ x ∈ names, own sc x := fun x m => by
  have := List.all_eq_true.mp h x m
  simpa [own] using this
theorem fn_free {sc : List (Str × NameKind)} (h : (sc.all fun p => p.2 != .free) = true) : ∀ x, sc.lookup x ≠ some .free := fun x q => by
  have := List.all_eq_true.mp h (x, .free) (mem_of_lookup q)
  simp at this
theorem compOk {sc : List (Str × NameKind)} {scope : Scope} (h1 : scope.kind = .function) (h2 : (scope.names.map (·.1)).Nodup) (h3 : (scope.names.all fun p => p.2 != .free || sc.lookup p.1 == some .cell || sc.lookup p.1 == some .free) = true) : CompOk sc scope :=
  ⟨h1, h2, fun x m => by
    have := List.all_eq_true.mp h3 _ m
    simpa using this⟩
variable (hK : c.K = heapK w.params)
include hK
theorem cl_len : Callee c (Str.ofString "len") (.builtin "len") := .builtin (by rw [hK]; rfl) (by rfl) (by decide) (by decide) (fun _ => nofun)
theorem cl_abs : Callee c (Str.ofString "abs") (.builtin "abs") := .builtin (by rw [hK]; rfl) (by rfl) (by decide) (by decide) (fun _ => nofun)
theorem cl_max : Callee c (Str.ofString "max") (.builtin "max") := .builtin (by rw [hK]; rfl) (by rfl) (by decide) (by decide) (fun _ => nofun)
theorem cl_sorted : Callee c (Str.ofString "sorted") (.builtin "sorted") := .builtin (by rw [hK]; rfl) (by rfl) (by decide) (by decide) (fun _ => nofun)
theorem cl_int : Callee c (Str.ofString "int") (.type "int") := .builtin (by rw [hK]; rfl) (by rfl) (by decide) (by decide) (fun _ => nofun)
theorem cl_set : Callee c (Str.ofString "set") (.type "set") := .builtin (by rw [hK]; rfl) (by rfl) (by decide) (by decide) (fun _ => nofun)
theorem cl_range : Callee c (Str.ofString "range") (.type "range") := .builtin (by rw [hK]; rfl) (by rfl) (by decide) (by decide) (fun _ => nofun)
theorem cl_tuple : Callee c (Str.ofString "tuple") (.type "tuple") := .builtin (by rw [hK]; rfl) (by rfl) (by decide) (by decide) (fun _ => nofun)
theorem cl_list : Callee c (Str.ofString "list") (.type "list") := .builtin (by rw [hK]; rfl) (by rfl) (by decide) (by decide) (fun _ => nofun)
theorem cl_dict : Callee c (Str.ofString "dict") (.type "dict") := .builtin (by rw [hK]; rfl) (by rfl) (by decide) (by decide) (fun _ => nofun)
theorem cl_law_draw : Callee c (Str.ofString "_law_draw") (.ref 169) := .global (by rw [hK]; rfl) (by decide) (by rw [hK]; rfl)
theorem cl_law_drawn : Callee c (Str.ofString "_law_drawn") (.ref 174) := .global (by rw [hK]; rfl) (by decide) (by rw [hK]; rfl)
theorem cl_law_trie : Callee c (Str.ofString "_law_trie") (.ref 181) := .global (by rw [hK]; rfl) (by decide) (by rw [hK]; rfl)
theorem cl_law_rest : Callee c (Str.ofString "_law_rest") (.ref 186) := .global (by rw [hK]; rfl) (by decide) (by rw [hK]; rfl)
theorem cl_least_trie : Callee c (Str.ofString "least_trie") (.ref 117) := .global (by rw [hK]; rfl) (by decide) (by rw [hK]; rfl)
theorem cl_in_breadth : Callee c (Str.ofString "in_breadth") (.ref 124) := .global (by rw [hK]; rfl) (by decide) (by rw [hK]; rfl)
theorem cl_columns_of : Callee c (Str.ofString "columns_of") (.ref 157) := .global (by rw [hK]; rfl) (by decide) (by rw [hK]; rfl)
theorem cl_state_table : Callee c (Str.ofString "state_table") (.ref 162) := .global (by rw [hK]; rfl) (by decide) (by rw [hK]; rfl)
theorem cl_Trie : Callee c (Str.ofString "Trie") (.ref 108) := .global (by rw [hK]; rfl) (by decide) (by rw [hK]; rfl)
theorem cl_ClassDef : Callee c (Str.ofString "ClassDef") (.ref 66) := .global (by rw [hK]; rfl) (by decide) (by rw [hK]; rfl)
theorem cl_StateTable : Callee c (Str.ofString "StateTable") (.ref 148) := .global (by rw [hK]; rfl) (by decide) (by rw [hK]; rfl)
theorem je_none {k : Nat} {sc : List (Str × NameKind)} {pos : Pos} (hg : sc.lookup (Str.ofString "NONE") = some .globalImplicit) : JE c k sc (.Name (Str.ofString "NONE") pos) (wLit (.int (-1))) := by
  obtain ⟨t, ht⟩ : ∃ t, nsIn c.K mainGlobals (Str.ofString "NONE") = some (some (.int (-1) t)) := ⟨_, by rw [hK]; rfl⟩
  exact JE.globalInt ht hg (by decide)
end
section
variable {prog : Program} {w : World} {c : Cx prog w} (hK : c.K = heapK w.params)
include hK
noncomputable def pDraw : List MV → W0 := fun ds μ Q => ∃ r, ∃ cells : List Int, ∃ p q m : Int, ds = [.ref r, .int m] ∧ μ r = some (.list [.flist (cells.map MV.int), .int p, .int q]) ∧ cells ≠ [] ∧ cells.length ≤ 1000 ∧ 0 ≤ p ∧ p ≤ 1000 ∧ 0 ≤ q ∧ 0 < m ∧ m < 100 ∧
  ∀ p' q' g : Int, 0 ≤ p' → p' ≤ p + 1 → 0 ≤ q' → 0 ≤ g → g < m → Q (.int g) (upd μ r (.list [.flist (cells.map MV.int), .int p', .int q']))
theorem sp_law_draw {k : Nat} : CodeN c (k + 1) (.ref 169) pDraw := by
  refine' CodeN.mono (CodeN.fn (names := [Str.ofString "pen", Str.ofString "many"]) (a := 169) ?ho ?hcd ?hb ?hbind ?hown ?hnd ?hfree ?hco ?hgen ?hk) ?fin
  case ho => rw [hK]; rfl
  case hcd => rw [hK]; rfl
  case hco => rfl
  case hgen => rfl
  case hk => rfl
  case hbind => intro vals hl; obtain ⟨a, b, rfl⟩ := len2 hl; rfl
  case hown => exact fn_own (by decide)
  case hnd => decide
  case hfree => exact fn_free (by decide)
  case hb =>
    exact (JSs.cons (JS.ite (JT.cmp op_eq (JE.sub op_getL indexes_L (JE.nm "pen" _ (by decide)) (JE.int _ _ _) (fun _ _ => rfl)) (JE.int _ _ _) rfl)
      (JSs.cons (JS.assign (JE.sub op_getL indexes_L (JE.sub op_getL indexes_L (JE.nm "pen" _ (by decide)) (JE.int _ _ _) (fun _ _ => rfl)) (JE.binop op_mod (JE.sub op_getL indexes_L (JE.nm "pen" _ (by decide)) (JE.int _ _ _) (fun _ _ => rfl)) (JE.call (cl_len hK) rfl op_len (JEs.cons (fun _ _ => rfl) (JE.sub op_getL indexes_L (JE.nm "pen" _ (by decide)) (JE.int _ _ _) (fun _ _ => rfl)) JEs.nil))) (fun _ _ => rfl)) (JA.nl rfl) (fun _ _ => rfl) (fun _ => rfl) (fun _ => rfl))
       (JSs.cons (JS.assign (JE.binop op_add (JE.sub op_getL indexes_L (JE.nm "pen" _ (by decide)) (JE.int _ _ _) (fun _ _ => rfl)) (JE.int _ _ _)) (JA.sub op_setL (JE.nm "pen" _ (by decide)) (JE.int _ _ _)) (fun _ _ => rfl) (fun _ => rfl) (fun _ => rfl))
       (JSs.cons (JS.assign (JE.binop op_add (JE.binop op_add (JE.binop op_add (JE.binop op_mul (JE.int _ _ _) (JE.call (cl_abs hK) rfl op_abs (JEs.cons (fun _ _ => rfl) (JE.nm "cell" _ (by decide)) JEs.nil))) (JE.ifexp (JT.cmp op_lt (JE.nm "cell" _ (by decide)) (JE.int _ _ _) rfl) (JE.int _ _ _) (JE.int _ _ _))) (JE.binop op_mul (JE.binop op_mul (JE.int _ _ _) (JE.sub op_getL indexes_L (JE.nm "pen" _ (by decide)) (JE.int _ _ _) (fun _ _ => rfl))) (JE.sub op_getL indexes_L (JE.nm "pen" _ (by decide)) (JE.int _ _ _) (fun _ _ => rfl)))) (JE.int _ _ _)) (JA.sub op_setL (JE.nm "pen" _ (by decide)) (JE.int _ _ _)) (fun _ _ => rfl) (fun _ => rfl) (fun _ => rfl))
       JSs.nil)))
      JSs.nil)
      (JSs.cons (JS.assign (JE.binop op_mod (JE.sub op_getL indexes_L (JE.nm "pen" _ (by decide)) (JE.int _ _ _) (fun _ _ => rfl)) (JE.nm "many" _ (by decide))) (JA.nl rfl) (fun _ _ => rfl) (fun _ => rfl) (fun _ => rfl))
      (JSs.cons (JS.assign (JE.binop op_fdiv (JE.sub op_getL indexes_L (JE.nm "pen" _ (by decide)) (JE.int _ _ _) (fun _ _ => rfl)) (JE.nm "many" _ (by decide))) (JA.sub op_setL (JE.nm "pen" _ (by decide)) (JE.int _ _ _)) (fun _ _ => rfl) (fun _ => rfl) (fun _ => rfl))
      (JSs.cons (JS.ret (JE.nm "digit" _ (by decide)))
      JSs.nil))))
  case fin =>
    intro ds μ Q hz501
    refine el5_10 hz501 fun r cells p q m eqz502 hm hne hlen hp0 hp1 hq0 hm0 hm1 h => ?_
    clear hz501
    subst eqz502
    have h7 : 0 < (cells.length : Int) := by
      have := List.length_pos_iff.mpr hne
      lia
    have h8 : 0 ≤ p.fmod cells.length := Int.fmod_nonneg hp0 (by lia)
    have h9 : (p.fmod cells.length).toNat < cells.length := by
      have := Int.fmod_lt_of_pos p h7
      lia
    have h10 : cells.length ≤ 1000000 := by lia
    have h11 : (List.map MV.int cells)[(p.fmod cells.length).toNat]? = some (.int (cells[(p.fmod cells.length).toNat])) := by simp [h9]
    have h12 : (p + 1).natAbs < 1099511627776 := by lia
    have fin : ∀ x : Int, 0 ≤ x → 0 ≤ x.fdiv m ∧ 0 ≤ x.fmod m ∧ x.fmod m < m := fun x hx => ⟨Int.fdiv_nonneg hx (by lia), Int.fmod_nonneg hx (by lia), Int.fmod_lt_of_pos x hm0⟩
    have sq : 0 ≤ 7919 * (p + 1) * (p + 1) := Int.mul_nonneg (by lia) (by lia)
    show wFn _ _ _ _ _
    refine ⟨rfl, ?_⟩
    show wSeq _ _ _ _
    have hsum : ∀ x : Int, 0 ≤ (2 * (if x < 0 then -x else x)) := fun x => by split <;> lia
    have hs0 := hsum (cells[(p.fmod cells.length).toNat])
    have hs1 : ∀ x : Int, 0 ≤ (if x < 0 then 1 else 0 : Int) := fun x => by split <;> lia
    have hs2 := hs1 (cells[(p.fmod cells.length).toNat])
    refine i_seq (s_cond (rt_cmp (rd_2 (rd_var rfl) rd_lit (r2_getR hm (by walk_at "ln") rfl (Nat.le_of_ble_eq_true rfl))) rd_lit r2_eqI) ?_ ?_)
    · intro hq
      refine i_seq (s_assign (rd_2 (rd_2 (rd_var rfl) rd_lit (r2_getR hm (by walk_at "ln") rfl (Nat.le_of_ble_eq_true rfl))) (rd_2 (rd_2 (rd_var rfl) rd_lit (r2_getR hm (by walk_at "ln") rfl (Nat.le_of_ble_eq_true rfl))) (rd_N (rd_a (rd_2 (rd_var rfl) rd_lit (r2_getR hm (by walk_at "ln") rfl (Nat.le_of_ble_eq_true rfl))) rd_a0) (rn_lenF h10)) (r2_int h7)) (r2_getF h8 h11 (by walk_at "ln"))) (i_next ?_))
      refine i_seq (s_store (rd_2 (rd_2 (rd_var rfl) rd_lit (r2_getR hm (by walk_at "ln") rfl (Nat.le_of_ble_eq_true rfl))) rd_lit (r2_int trivial)) (rd_var rfl) rd_lit (rs_L hm (by walk_at "ln") (by walk_at "ln") (Nat.le_of_ble_eq_true rfl)) (i_next ?_))
      refine i_seq (s_store (rd_2 (rd_2 (rd_2 (rd_2 rd_lit (rd_N (rd_a (rd_var rfl) rd_a0) rn_abs) (r2_int (by walk_at "ln"))) (rd_ifI (rt_cmp (rd_var rfl) rd_lit r2_cmp) (fun z0 => rd_lit) (fun z1 => rd_lit)) (r2_int trivial)) (rd_2 (rd_2 rd_lit (rd_2 (rd_var rfl) rd_lit (r2_getR (upd_self _ _ _) (by walk_at "ln") rfl (Nat.le_of_ble_eq_true rfl))) (r2_int (by walk_at "ln"))) (rd_2 (rd_var rfl) rd_lit (r2_getR (upd_self _ _ _) (by walk_at "ln") rfl (Nat.le_of_ble_eq_true rfl))) (r2_int (by walk_at "ln"))) (r2_int trivial)) rd_lit (r2_int trivial)) (rd_var rfl) rd_lit (rs_L (upd_self _ _ _) (by walk_at "ln") (by walk_at "ln") (Nat.le_of_ble_eq_true rfl)) (i_next ?_))
      with_reducible refine i_nil (i_next ?_)
      refine i_seq (s_assign (rd_2 (rd_2 (rd_var rfl) rd_lit (r2_getR (upd_self _ _ _) (by walk_at "ln") rfl (Nat.le_of_ble_eq_true rfl))) (rd_var rfl) (r2_int hm0)) (i_next ?_))
      refine i_seq (s_store (rd_2 (rd_2 (rd_var rfl) rd_lit (r2_getR (upd_self _ _ _) (by walk_at "ln") rfl (Nat.le_of_ble_eq_true rfl))) (rd_var rfl) (r2_int (by walk_at "ln"))) (rd_var rfl) rd_lit (rs_L (upd_self _ _ _) (by walk_at "ln") (by walk_at "ln") (Nat.le_of_ble_eq_true rfl)) (i_next ?_))
      refine i_seq (s_ret (rd_var rfl) (i_retC ?_))
      dsimp only [setv_mu, List.set_cons_zero, List.set_cons_succ, Int.reduceToNat, Int.reduceNeg]
      rw [upd_upd, upd_upd]
      exact h _ _ _ (by lia) (by lia) (fin _ (by lia)).1 (fin _ (by lia)).2.1 (fin _ (by lia)).2.2
    · intro hq
      with_reducible refine i_nil (i_next ?_)
      refine i_seq (s_assign (rd_2 (rd_2 (rd_var rfl) rd_lit (r2_getR hm (by walk_at "ln") rfl (Nat.le_of_ble_eq_true rfl))) (rd_var rfl) (r2_int hm0)) (i_next ?_))
      refine i_seq (s_store (rd_2 (rd_2 (rd_var rfl) rd_lit (r2_getR hm (by walk_at "ln") rfl (Nat.le_of_ble_eq_true rfl))) (rd_var rfl) (r2_int (by walk_at "ln"))) (rd_var rfl) rd_lit (rs_L hm (by walk_at "ln") (by walk_at "ln") (Nat.le_of_ble_eq_true rfl)) (i_next ?_))
      refine i_seq (s_ret (rd_var rfl) (i_retC ?_))
      refine el0_3 (fin _ hq0) fun a1 a2 a3 => ?_
      exact h _ _ _ hp0 (by lia) a1 a2 a3
end
end Mine
namespace Mine
open Classical
structure Good (ws : List (List Int × Int)) : Prop where
  ne : ws ≠ []
  six : ws.length ≤ 6
  nd : (ws.map (·.1)).Nodup
  len : ∀ p ∈ ws, 1 ≤ p.1.length ∧ p.1.length ≤ 4
  gl : ∀ p ∈ ws, ∀ g ∈ p.1, 1 ≤ g ∧ g ≤ 4
  lig : ∀ p ∈ ws, 10 ≤ p.2 ∧ p.2 ≤ 12
theorem i_draw {μ : MHeap} {r : Addr} {cells : List Int} {p q m : Int} {Q : MV → MHeap → Prop} (hm : μ r = some (.list [.flist (cells.map MV.int), .int p, .int q])) (hne : cells ≠ []) (hl : cells.length ≤ 1000) (h1 : 0 ≤ p) (h2 : p ≤ 1000) (h3 : 0 ≤ q) (h4 : 0 < m) (h5 : m < 100)
    (k : ∀ p' q' g : Int, 0 ≤ p' → p' ≤ p + 1 → 0 ≤ q' → 0 ≤ g → g < m → Q (.int g) (upd μ r (.list [.flist (cells.map MV.int), .int p', .int q']))) : pDraw [.ref r, .int m] μ Q := ⟨r, cells, p, q, m, rfl, hm, hne, hl, h1, h2, h3, h4, h5, k⟩
structure DrI (μ : MHeap) (a r : Addr) (cells : List Int) (n : Nat) (ws : List (List Int × Int)) (p q : Int) (σ : St) : Prop where
  v1 : σ.vars (Str.ofString "found") = some (.ref a)
  v2 : σ.vars (Str.ofString "pen") = some (.ref r)
  mu : σ.mu = upd (upd μ a (.list (ws.map embW))) r (.list [.flist (cells.map MV.int), .int p, .int q])
  p0 : 0 ≤ p
  p1 : p + 10 * n ≤ 100
  q0 : 0 ≤ q
  six : ws.length + n ≤ 6
  some' : ws = [] → 1 ≤ n
  good : ws ≠ [] → Good ws
structure DrW (M : MHeap) (D r : Addr) (cells : List Int) (p2 g2 : Int) (n : Nat) (vs : List MV) (gs : List Int) (p q : Int) (its : List Value) (σ : St) : Prop where
  v2 : σ.vars (Str.ofString "pen") = some (.ref r)
  mu : σ.mu = upd (upd M r (.list [.flist (cells.map MV.int), .int p, .int q])) D (.pin its vs)
  vs : vs = gs.map MV.int
  p0 : 0 ≤ p
  p1 : p + n ≤ p2 + 4
  q0 : 0 ≤ q
  rng : ∀ g ∈ gs, 1 ≤ g ∧ g ≤ 4
  len : ((gs.length + n : Nat) : Int) = 1 + g2
theorem good_snoc {ws : List (List Int × Int)} (hg : ws ≠ [] → Good ws) {gs : List Int} {l : Int} (h6 : ws.length + 1 ≤ 6) (hn : gs ∉ ws.map (·.1)) (c4 : ∀ g ∈ gs, 1 ≤ g ∧ g ≤ 4) (c5 : 1 ≤ gs.length ∧ gs.length ≤ 4) (c6 : 10 ≤ l ∧ l ≤ 12) : Good (ws ++ [(gs, l)]) := by
  have hold : ∀ p ∈ ws, (1 ≤ p.1.length ∧ p.1.length ≤ 4) ∧ (∀ g ∈ p.1, 1 ≤ g ∧ g ≤ 4) ∧ 10 ≤ p.2 ∧ p.2 ≤ 12 := fun p m => by
    have hg' := hg (List.ne_nil_of_mem m)
    exact ⟨hg'.len p m, hg'.gl p m, hg'.lig p m⟩
  have hnew : ∀ p ∈ ws ++ [(gs, l)], (1 ≤ p.1.length ∧ p.1.length ≤ 4) ∧ (∀ g ∈ p.1, 1 ≤ g ∧ g ≤ 4) ∧ 10 ≤ p.2 ∧ p.2 ≤ 12 := fun p m => by
    rcases List.mem_append.mp m with m | m
    · exact hold p m
    · rw [List.mem_singleton.mp m]; exact ⟨c5, c4, c6⟩
  refine ⟨by simp, by simpa using h6, ?_, fun p m => (hnew p m).1, fun p m => (hnew p m).2.1, fun p m => (hnew p m).2.2⟩
  rw [List.map_append, List.nodup_append]
  refine ⟨?_, List.nodup_cons.mpr ⟨List.not_mem_nil, List.nodup_nil⟩, ?_⟩
  · by_cases e : ws = []
    · rw [e]; exact List.nodup_nil
    · exact (hg e).nd
  · intro x hx y hy e
    rw [List.map_cons, List.map_nil, List.mem_singleton] at hy
    rw [e, hy] at hx; exact hn hx
section
variable {prog : Program} {w : World} {c : Cx prog w} (hK : c.K = heapK w.params)
include hK
noncomputable def pDrawn : List MV → W0 := fun ds μ Q => ∃ r, ∃ cells : List Int, ds = [.ref r] ∧ μ r = some (.list [.flist (cells.map MV.int), .int 0, .int 0]) ∧ cells ≠ [] ∧ cells.length ≤ 1000 ∧
  ∀ r' ws pen, r' ≠ r → μ r' = none → Good ws → Q (.ref r') (upd (upd μ r (.list pen)) r' (.list (ws.map embW)))
theorem sp_law_drawn {k : Nat} : CodeN c (k + 2) (.ref 174) pDrawn := by
  refine' CodeN.mono (CodeN.fn (names := [Str.ofString "pen"]) (a := 174) ?ho ?hcd ?hb ?hbind ?hown ?hnd ?hfree ?hco ?hgen ?hk) ?fin
  case ho => rw [hK]; rfl
  case hcd => rw [hK]; rfl
  case hco => rfl
  case hgen => rfl
  case hk => rfl
  case hbind => intro vals hl; obtain ⟨a, rfl⟩ := len1 hl; rfl
  case hown => exact fn_own (by decide)
  case hnd => decide
  case hfree => exact fn_free (by decide)
  case hb =>
    exact (JSs.cons (JS.assign (JE.list JEs.nil) (JA.nl rfl) (fun _ _ => rfl) (fun _ => rfl) (fun _ => rfl))
      (JSs.cons (JS.for (JSrc.range (cl_range hK) rfl (JEs.cons (fun _ _ => rfl) (JE.binop op_add (JE.int _ _ _) (JE.call (cl_law_draw hK) rfl (sp_law_draw hK).op (JEs.cons (fun _ _ => rfl) (JE.nm "pen" _ (by decide)) (JEs.cons (fun _ _ => rfl) (JE.int _ _ _) JEs.nil)))) JEs.nil)) (JA.nl rfl)
      (JSs.cons (JS.assign (JE.call (cl_tuple hK) rfl op_tuple (JEs.cons (fun _ _ => rfl) (JE.comp' (compOk rfl (by decide) (by decide)) (JSrc.range (cl_range hK) rfl (JEs.cons (fun _ _ => rfl) (JE.binop op_add (JE.int _ _ _) (JE.call (cl_law_draw hK) rfl (sp_law_draw hK).op (JEs.cons (fun _ _ => rfl) (JE.nm "pen" _ (by decide)) (JEs.cons (fun _ _ => rfl) (JE.int _ _ _) JEs.nil)))) JEs.nil)) (fun _ _ => rfl) (JA.nl rfl) JTs.nil JGens.nil (JE.binop op_add (JE.int _ _ _) (JE.call (cl_law_draw hK) rfl (sp_law_draw hK).op (JEs.cons (fun _ _ => rfl) (JE.nm "pen" _ (by decide)) (JEs.cons (fun _ _ => rfl) (JE.int _ _ _) JEs.nil))))) JEs.nil)) (JA.nl rfl) (fun _ _ => rfl) (fun _ => rfl) (fun _ => rfl))
       (JSs.cons (JS.ite (JT.cmp op_notInF (JE.nm "word" _ (by decide)) (JE.comp' (compOk rfl (by decide) (by decide)) (JSrc.seq (JE.nm "found" _ (by decide))) (fun _ _ => rfl) (JA.tup (JAs.cons (fun _ _ => rfl) (JA.nl rfl) (JAs.cons (fun _ _ => rfl) (JA.nl rfl) JAs.nil))) JTs.nil JGens.nil (JE.nm "one" _ (by decide))) rfl)
       (JSs.cons (JS.expr (jm_append (JE.nm "found" _ (by decide)) (JEs.cons (fun _ _ => rfl) (JE.tup (JEs.cons (fun _ _ => rfl) (JE.nm "word" _ (by decide)) (JEs.cons (fun _ _ => rfl) (JE.binop op_add (JE.int _ _ _) (JE.call (cl_law_draw hK) rfl (sp_law_draw hK).op (JEs.cons (fun _ _ => rfl) (JE.nm "pen" _ (by decide)) (JEs.cons (fun _ _ => rfl) (JE.int _ _ _) JEs.nil)))) JEs.nil))) JEs.nil) (fun _ => ⟨_, by with_unfolding_all rfl⟩)) (fun _ => rfl))
        JSs.nil)
       JSs.nil)
       JSs.nil)) (fun _ _ => rfl))
      (JSs.cons (JS.ret (JE.nm "found" _ (by decide)))
      JSs.nil)))
  case fin =>
    intro ds μ Q hz1
    refine el2_5 hz1 fun r cells eqz2 hm hne hlen h => ?_; clear hz1
    subst eqz2
    show wFn _ _ _ _ _
    refine ⟨rfl, ?_⟩
    refine i_seq (s_list rd_a0 (Nat.le_of_ble_eq_true rfl) ?_)
    intro a ha
    have ha : μ a = none := ha
    have har : a ≠ r := fun e => by rw [e, hm] at ha; cases ha
    refine' i_next (i_seq (i_for (i_range (i_args (i_w2 (i_lit (i_wN2 (i_var ?v (i_lit ?_)))))))))
    case v => exact (v_other (by decide) (v_mk (v_mk v_par1)))
    refine i_draw (cells := cells) ((upd_ne _ _ (Ne.symm har)).trans hm) hne hlen (by decide) (by decide) (by decide) (by decide) (by decide) (fun p' q' g hp0 hp1 hq0 hg0 hg1 => ?_)
    refine i_int2 trivial (i_args0 (i_rng1 (by lia) ?_))
    refine wLoop_inv (fun l σ => ∃ ws p q, DrI μ a r cells l.length ws p q σ) ?_ ?_ ?_
    · intro σ hz3
      refine el3_1 hz3 fun ws p q I => ?_; clear hz3
      have hw : ws ≠ [] := fun e => absurd (I.some' e) (by decide)
      have v1 := I.v1
      refine ⟨trivial, i_next ?_⟩
      refine i_seq (s_ret (rd_var v1) (i_retC ?_))
      show Q (.ref a) σ.mu
      rw [I.mu, upd_comm _ _ _ har]
      exact h a ws _ har ha (I.good hw)
    · intro d l σ C hz501 hC hR
      refine el3_1 hz501 fun ws p q I => ?_
      clear hz501
      have p1 := I.p1
      have h6 := I.six
      have p0 := I.p0
      have hq0 := I.q0
      rw [List.length_cons] at p1 h6
      have v2 := I.v2
      refine' ⟨trivial, i_setv (i_seq (i_assign (i_wN1 (i_comp (i_range (i_args (i_w2 (i_lit (i_wN2 (i_var ?v (i_lit ?_)))))))))))⟩
      case v => exact v2
      have hr : σ.mu r = some (.list [.flist (cells.map MV.int), .int p, .int q]) := by rw [I.mu]; exact upd_self _ _ _
      refine i_draw (cells := cells) hr hne hlen p0 (by lia) hq0 (by decide) (by decide) (fun p2 q2 g2 b1 b2 b3 b4 b5 => ?_)
      refine i_int2 trivial (i_args0 (i_rng1 (by lia) ?_))
      have eM : upd σ.mu r (.list [.flist (cells.map MV.int), .int p2, .int q2]) = upd (upd μ a (.list (ws.map embW))) r (.list [.flist (cells.map MV.int), .int p2, .int q2]) := by rw [I.mu, upd_upd]
      dsimp only [setv_mu]
      rw [eM]
      have good := I.good
      generalize hMw : upd μ a (.list (ws.map embW)) = Mw
      have mwa : Mw a = some (.list (ws.map embW)) := hMw ▸ upd_self _ _ _
      have wa : upd Mw r (.list [.flist (cells.map MV.int), .int p2, .int q2]) a = some (.list (ws.map embW)) := (upd_ne _ _ har).trans mwa
      intro D hD
      have hDr : D ≠ r := fun e => by rw [e, upd_self] at hD; cases hD
      have hDa : D ≠ a := fun e => by rw [e, wa] at hD; cases hD
      have hD1 : Mw D = none := (upd_ne _ _ hDr).symm.trans hD
      refine wItems_inv (fun l σ vs => ∃ gs p q its, DrW Mw D r cells p2 g2 l.length vs gs p q its σ) ?_ ?_ ?_
      · intro σ2 vs hz4
        refine el4_1 hz4 fun gs p3 q3 its I2 => ?_; clear hz4
        obtain rfl := I2.vs
        have c0 := I2.p0
        have c1 := I2.p1
        have c2 := I2.q0
        have c4 := I2.rng
        have c5 := I2.len
        rw [List.length_nil] at c1 c5
        refine ⟨trivial, ?_⟩
        have em : erase σ2.mu D = upd Mw r (.list [.flist (cells.map MV.int), .int p3, .int q3]) := by rw [I2.mu]; exact erase_upd _ ((upd_ne _ _ hDr).trans hD1)
        rw [em]
        have lg : (gs.map MV.int).length ≤ 1000000 := by rw [List.length_map]; lia
        refine i_tupleF lg (i_setv (i_next ?_))
        have v1 := I.v1
        have u2 : upd Mw r (.list [.flist (cells.map MV.int), .int p3, .int q3]) a = some (.list (ws.map embW)) := (upd_ne _ _ har).trans mwa
        have lw : ws.length ≤ 900000 := by lia
        have hpl : plains (ws.map fun p => itup p.1) = true := plains_all.mpr fun d m => by
          refine el1_2 (List.mem_map.mp m) fun p _ eqz5 => ?_
          subst eqz5
          exact plain_itup _
        have hin : itup gs ∈ (ws.map fun p => itup p.1) ↔ gs ∈ ws.map (·.1) := by
          rw [List.mem_map, List.mem_map]
          exact ⟨fun ⟨p, m, e⟩ => ⟨p, m, itup_inj.mp e⟩, fun ⟨p, m, e⟩ => ⟨p, m, itup_inj.mpr e⟩⟩
        have hd : (itup gs).dep ≤ 50 := by rw [dep_itup]; decide
        have hpi := plain_itup gs
        refine' i_seq (s_condN (p := itup gs ∈ (ws.map fun p => itup p.1)) (dp := _) (rt_cmp (rd_var (d := itup gs) ?v) (rd_comp2 (fun p => itup p.1) (by decide) (ri_R (l := ws.map embW) (rd_var ?v2) u2) ?nd lw ?bd) (r2_niF hpi hpl hd)) ?yes ?no)
        case v => exact v_same
        case v2 => exact v1
        case nd => exact fun D p hD => m_pin u2 hD
        case bd => exact fun D hD i hi V its vs hV h1 h2 => rd_var h1
        case yes =>
          intro hn
          refine' i_seq (i_expr (i_bmeth (i_var ?v1 (i_recvL u2 (i_args (i_tup (i_args (i_var (d := itup gs) ?v2 (i_args (i_w2 (i_lit (i_wN2 (i_var ?v3 (i_lit ?_))))))))))))))
          case v1 => exact v1
          case v2 => exact v_same
          case v3 => exact v2
          refine i_draw (cells := cells) (upd_self _ _ _) hne hlen c0 (by lia) c2 (by decide) (by decide) (fun p4 q4 g4 e1 e2 e3 e4 e5 => ?_)
          refine i_int2 trivial (i_args0 (i_szA (Nat.le_of_ble_eq_true rfl) (i_args0 ?_)))
          have u3 : upd (upd Mw r (.list [.flist (cells.map MV.int), .int p3, .int q3])) r (.list [.flist (cells.map MV.int), .int p4, .int q4]) a = some (.list (ws.map embW)) := (upd_ne _ _ har).trans u2
          refine i_append u3 (by rw [List.length_map]; lia) (i_exprN (i_next (i_nil (i_next (hC _ ⟨ws ++ [(gs, 10 + g4)], p4, q4, ?_, ?_, ?_, e1, by lia, e3, ?_, ?_, fun _ => good_snoc good (by lia) (fun m => hn (hin.mpr m)) c4 (by lia) (by lia)⟩)))))
          · exact v1
          · exact v2
          · dsimp only [setv_mu]
            rw [upd_upd, upd_comm _ _ _ har.symm, ← hMw, upd_upd, List.map_append]; rfl
          · rw [List.length_append, List.length_singleton]; lia
          · intro h; exact absurd h (by simp)
        case no =>
          intro hn
          refine i_nil (i_next (hC _ ⟨ws, p3, q3, ?_, ?_, ?_, c0, by lia, c2, by lia, fun e => ?_, good⟩))
          · exact v1
          · exact v2
          · dsimp only [setv_mu]
            rw [hMw]
          · rw [e] at hn; exact absurd hn List.not_mem_nil
      · intro d' l' σ2 vs C' hz502 hC'
        refine el4_1 hz502 fun gs p3 q3 its I2 => ?_
        clear hz502
        obtain rfl := I2.vs
        have c0 := I2.p0
        have c1 := I2.p1
        have c2 := I2.q0
        have c4 := I2.rng
        have c5 := I2.len
        have v3 := I2.v2
        have m3 : σ2.mu r = some (.list [.flist (cells.map MV.int), .int p3, .int q3]) := by rw [I2.mu]; exact (upd_ne _ _ hDr.symm).trans (upd_self _ _ _)
        rw [List.length_cons] at c1 c5
        refine' ⟨trivial, i_setv ⟨fun _ => i_emit (i_w2 (i_lit (i_wN2 (i_var ?v (i_lit ?_))))), fun e => nomatch e⟩⟩
        case v => exact v3
        refine i_draw (cells := cells) m3 hne hlen c0 (by lia) c2 (by decide) (by decide) (fun p4 q4 g4 e1 e2 e3 e4 e5 => ?_)
        have lz : (gs.map MV.int).length < 1000000 := by rw [List.length_map]; lia
        refine i_int2 trivial (i_szB lz fun its' => hC' _ _ ⟨gs ++ [1 + g4], p4, q4, its', ?_, ?_, ?_, e1, by lia, e3, ?_, ?_⟩)
        · exact v3
        · dsimp only [setv_mu]
          rw [I2.mu, upd_swap (Ne.symm hDr), upd_upd]
        · rw [List.map_append]; rfl
        · intro g hg'
          rcases List.mem_append.mp hg' with m | m
          · exact c4 g m
          · rw [List.mem_singleton.mp m]; lia
        · rw [List.length_append, List.length_singleton]; lia
      · refine ⟨[], p2, q2, [], ?_, rfl, rfl, b1, ?_, b3, (fun _ m => nomatch m), ?_⟩
        · exact v2
        · simp [rngL]; lia
        · simp [rngL]; lia
    · refine ⟨[], p', q', ?_, ?_, rfl, hp0, ?_, hq0, ?_, ?_, ?_⟩
      · exact (v_mk (v_mk v_same))
      · exact (v_mk (v_mk (v_other (by decide) (v_mk (v_mk v_par1)))))
      · simp [rngL]; lia
      · simp [rngL]; lia
      · simp [rngL]; lia
      · intro h; exact absurd rfl h
end
end Mine
namespace Mine
open Classical
structure Tr where
  steps : List (List (Int × Int))
  ends : List Int
noncomputable abbrev sSteps : Str := Str.ofString "steps"
noncomputable abbrev sEnds : Str := Str.ofString "ends"
structure TrieAt (μ : MHeap) (t da S N : Addr) (refs : List Addr) (T : Tr) : Prop where
  inst : μ t = some (.inst 108 da)
  attrs : μ da = some (.attrs [(sSteps, .ref S), (sEnds, .ref N)])
  steps : μ S = some (.list (refs.map MV.ref))
  ends : μ N = some (.list (T.ends.map MV.int))
  len : refs.length = T.steps.length
  dict : ∀ (i : Nat) (a : Addr), refs[i]? = some a → ∃ d, T.steps[i]? = some d ∧ μ a = some (MObj.idict (embD d))
  nd : refs.Nodup
  sn : S ≠ N
theorem ne_of_obj {μ : MHeap} {a b : Addr} {o p : MObj} (h1 : μ a = some o) (h2 : μ b = some p) (h : o ≠ p) : a ≠ b := by
  rintro rfl; rw [h1] at h2; exact h (Option.some.inj h2)
theorem ne_of_none {μ : MHeap} {a b : Addr} {p : MObj} (h1 : μ a = none) (h2 : μ b = some p) : a ≠ b := by
  rintro rfl; rw [h1] at h2; cases h2
theorem nodup_inj {α : Type} {l : List α} (h : l.Nodup) {i j : Nat} {a : α} (hi : l[i]? = some a) (hj : l[j]? = some a) : i = j := by
  obtain ⟨p, e⟩ := List.getElem?_eq_some_iff.mp hi
  obtain ⟨q, e'⟩ := List.getElem?_eq_some_iff.mp hj
  have := List.pairwise_iff_getElem.mp h
  rcases Nat.lt_trichotomy i j with l | l | l
  · exact absurd (e.trans e'.symm) (this i j p q l)
  · exact l
  · exact absurd (e'.trans e.symm) (this j i q p l)
section
variable {μ : MHeap} {t da S N : Addr} {refs : List Addr} {T : Tr}
theorem TrieAt.at (X : TrieAt μ t da S N refs T) {n : Nat} (h : n < T.steps.length) : ∃ a, refs[n]? = some a ∧ μ a = some (.idict (embD T.steps[n])) ∧ a ∈ refs := by
  have hr : n < refs.length := by rw [X.len]; exact h
  refine el1_2 (X.dict n refs[n] (List.getElem?_eq_getElem hr)) fun d hd hm => ?_
  rw [List.getElem?_eq_getElem h] at hd
  cases hd
  exact ⟨refs[n], List.getElem?_eq_getElem hr, hm, List.getElem_mem hr⟩
theorem TrieAt.isDict (X : TrieAt μ t da S N refs T) {a : Addr} (h : a ∈ refs) : ∃ d, μ a = some (.idict d) := by
  obtain ⟨i, hi⟩ := List.getElem?_of_mem h
  refine el1_2 (X.dict i a hi) fun d _ hm => ?_
  exact ⟨_, hm⟩
theorem TrieAt.apart (X : TrieAt μ t da S N refs T) : t ≠ da ∧ t ≠ S ∧ t ≠ N ∧ da ≠ S ∧ da ≠ N ∧ ∀ a ∈ refs, a ≠ t ∧ a ≠ da ∧ a ≠ S ∧ a ≠ N :=
  ⟨ne_of_obj X.inst X.attrs nofun, ne_of_obj X.inst X.steps nofun, ne_of_obj X.inst X.ends nofun, ne_of_obj X.attrs X.steps nofun, ne_of_obj X.attrs X.ends nofun, fun a h => by
    obtain ⟨d, hm⟩ := X.isDict h
    exact ⟨ne_of_obj hm X.inst nofun, ne_of_obj hm X.attrs nofun, ne_of_obj hm X.steps nofun, ne_of_obj hm X.ends nofun⟩⟩
theorem TrieAt.mono (X : TrieAt μ t da S N refs T) {μ' : MHeap} (h : ∀ x o, μ x = some o → μ' x = some o) : TrieAt μ' t da S N refs T :=
  ⟨h _ _ X.inst, h _ _ X.attrs, h _ _ X.steps, h _ _ X.ends, X.len, fun i a e => let ⟨d, p, q⟩ := X.dict i a e; ⟨d, p, h _ _ q⟩, X.nd, X.sn⟩
theorem TrieAt.setDict (X : TrieAt μ t da S N refs T) {n : Nat} {a : Addr} (ha : refs[n]? = some a) (d : List (Int × Int)) : TrieAt (upd μ a (.idict (embD d))) t da S N refs { T with steps := T.steps.set n d } := by
  refine el0_6 (X.apart) fun h1 h2 h3 h4 h5 h6 => ?_
  have hm := List.mem_of_getElem? ha
  refine el0_4 (h6 a hm) fun q1 q2 q3 q4 => ?_
  have hn := (List.getElem?_eq_some_iff.mp ha).1
  refine ⟨(upd_ne _ _ (Ne.symm q1)).trans X.inst, (upd_ne _ _ (Ne.symm q2)).trans X.attrs, (upd_ne _ _ (Ne.symm q3)).trans X.steps, (upd_ne _ _ (Ne.symm q4)).trans X.ends, by simpa using X.len, fun i b e => ?_, X.nd, X.sn⟩
  by_cases hi : i = n
  · subst hi
    rw [ha] at e; cases e
    exact ⟨d, by rw [List.getElem?_set_self (by rw [← X.len]; exact hn)], upd_self _ _ _⟩
  · refine el1_2 (X.dict i b e) fun d' p q => ?_
    have hne : b ≠ a := by
      rintro rfl
      exact hi (nodup_inj X.nd e ha)
    exact ⟨d', by rw [List.getElem?_set_ne (Ne.symm hi)]; exact p, (upd_ne _ _ hne).trans q⟩
theorem TrieAt.push (X : TrieAt μ t da S N refs T) {b : Addr} (hb : μ b = none) (d : List (Int × Int)) : TrieAt (upd (upd μ b (.idict (embD d))) S (.list ((refs ++ [b]).map MV.ref))) t da S N (refs ++ [b]) { T with steps := T.steps ++ [d] } := by
  refine el0_6 (X.apart) fun h1 h2 h3 h4 h5 h6 => ?_
  have n1 := ne_of_none hb X.inst
  have n2 := ne_of_none hb X.attrs
  have n3 := ne_of_none hb X.steps
  have n4 := ne_of_none hb X.ends
  have hnew : b ∉ refs := fun m => by
    obtain ⟨d', hm⟩ := X.isDict m
    rw [hb] at hm; cases hm
  refine ⟨?_, ?_, upd_self _ _ _, ?_, by simp [X.len], fun i a e => ?_, ?_, X.sn⟩
  · rw [upd_ne _ _ h2, upd_ne _ _ (Ne.symm n1)]; exact X.inst
  · rw [upd_ne _ _ h4, upd_ne _ _ (Ne.symm n2)]; exact X.attrs
  · rw [upd_ne _ _ (Ne.symm X.sn), upd_ne _ _ (Ne.symm n4)]; exact X.ends
  · by_cases hi : i < refs.length
    · rw [List.getElem?_append_left hi] at e
      refine el1_2 (X.dict i a e) fun d' p q => ?_
      refine el0_4 (h6 a (List.mem_of_getElem? e)) fun q1 q2 q3 q4 => ?_
      refine ⟨d', by rw [List.getElem?_append_left (by rw [← X.len]; exact hi)]; exact p, ?_⟩
      rw [upd_ne _ _ q3, upd_ne _ _ (fun e => by rw [e, hb] at q; cases q)]
      exact q
    · have hi2 : i = refs.length := by
        have := (List.getElem?_eq_some_iff.mp e).1
        rw [List.length_append, List.length_singleton] at this
        lia
      subst hi2
      rw [List.getElem?_append_right (Nat.le_refl _)] at e
      simp at e
      subst e
      refine ⟨d, by rw [X.len]; simp, ?_⟩
      rw [upd_ne _ _ n3, upd_self]
  · rw [List.nodup_append]
    exact ⟨X.nd, List.nodup_cons.mpr ⟨List.not_mem_nil, List.nodup_nil⟩, fun x hx y hy e => hnew (by simp at hy; rw [← hy, ← e]; exact hx)⟩
theorem TrieAt.setEnds (X : TrieAt μ t da S N refs T) (es : List Int) : TrieAt (upd μ N (.list (es.map MV.int))) t da S N refs { T with ends := es } := by
  refine el0_6 (X.apart) fun h1 h2 h3 h4 h5 h6 => ?_
  refine ⟨(upd_ne _ _ h3).trans X.inst, (upd_ne _ _ h5).trans X.attrs, (upd_ne _ _ X.sn).trans X.steps, upd_self _ _ _, X.len, fun i a e => ?_, X.nd, X.sn⟩
  refine el1_2 (X.dict i a e) fun d p q => ?_
  exact ⟨d, p, (upd_ne _ _ (h6 a (List.mem_of_getElem? e)).2.2.2).trans q⟩
end
noncomputable def trieIn (da S N : Addr) (refs : List Addr) (x : Addr) : Prop := x = S ∨ x = N ∨ x ∈ refs
end Mine
namespace Mine
open Classical
theorem aset_new {n : Str} {v : MV} {es : List (Str × MV)} (h : es.lookup n = none) : aset es n v = es ++ [(n, v)] := by
  induction es with
  | nil => rfl
  | cons p es ih =>
    obtain ⟨y, e⟩ := p
    rw [List.lookup_cons] at h
    unfold aset
    by_cases q : y = n
    · subst q; rw [beq_self_eq_true] at h; cases h
    · rw [if_neg q, ih (by rw [beq_false_of_ne (Ne.symm q)] at h; exact h)]; rfl
section
variable {prog : Program} {w : World} {c : Cx prog w} (hK : c.K = heapK w.params)
include hK
theorem get_steps : GetOk c 108 (Str.ofString "steps") := ⟨by rw [hK]; rfl, by rw [hK]; rfl, ⟨_, by rw [hK]; rfl, by rw [hK]; rfl⟩⟩
theorem get_ends : GetOk c 108 (Str.ofString "ends") := ⟨by rw [hK]; rfl, by rw [hK]; rfl, ⟨_, by rw [hK]; rfl, by rw [hK]; rfl⟩⟩
theorem set_steps : SetOk c 108 (Str.ofString "steps") := ⟨by rw [hK]; rfl, by rw [hK]; rfl, by rw [hK]; rfl, by rw [hK]; rfl⟩
theorem set_ends : SetOk c 108 (Str.ofString "ends") := ⟨by rw [hK]; rfl, by rw [hK]; rfl, by rw [hK]; rfl, by rw [hK]; rfl⟩
theorem meth_add : MethOk c 108 (Str.ofString "add") 91 := ⟨by rw [hK]; rfl, by rw [hK]; rfl, by rw [hK]; rfl, by rw [hK]; rfl⟩
theorem meth_count : MethOk c 108 (Str.ofString "state_count") 98 := ⟨by rw [hK]; rfl, by rw [hK]; rfl, by rw [hK]; rfl, by rw [hK]; rfl⟩
theorem meth_step : MethOk c 108 (Str.ofString "step") 105 := ⟨by rw [hK]; rfl, by rw [hK]; rfl, by rw [hK]; rfl, by rw [hK]; rfl⟩
noncomputable def pTrieInit : List MV → W0 := fun ds μ Q => ∃ x dd, ds = [.ref x] ∧ μ x = some (.inst 108 dd) ∧ μ dd = some (.attrs []) ∧
  ∀ S N a μ', TrieAt μ' x dd S N [a] ⟨[[]], [-1]⟩ → (∀ y o, y ≠ dd → μ y = some o → μ' y = some o) → μ S = none → μ N = none → μ a = none → Q .none μ'
theorem sp_Trie_init {k : Nat} : CodeN c (k + 1) (.ref 84) pTrieInit := by
  refine' CodeN.mono (CodeN.fn (names := [Str.ofString "self"]) (a := 84) ?ho ?hcd ?hb ?hbind ?hown ?hnd ?hfree ?hco ?hgen ?hk) ?fin
  case ho => rw [hK]; rfl
  case hcd => rw [hK]; rfl
  case hco => rfl
  case hgen => rfl
  case hk => rfl
  case hbind => intro vals hl; obtain ⟨a, rfl⟩ := len1 hl; rfl
  case hown => exact fn_own (by decide)
  case hnd => decide
  case hfree => exact fn_free (by decide)
  case hb =>
    exact (JSs.cons (JS.assign (JE.list (JEs.cons (fun _ _ => rfl) JE.dictI JEs.nil)) (JA.attr (JE.nm "self" _ (by decide))) (fun _ _ => rfl) (fun _ => rfl) (fun _ => rfl))
      (JSs.cons (JS.assign (JE.list (JEs.cons (fun _ _ => rfl) (je_none hK rfl) JEs.nil)) (JA.attr (JE.nm "self" _ (by decide))) (fun _ _ => rfl) (fun _ => rfl) (fun _ => rfl))
      JSs.nil))
  case fin =>
    intro ds μ Q hz1
    refine el2_4 hz1 fun x dd eqz2 hx hdd h => ?_
    subst eqz2
    have s1 := set_steps hK
    have s2 := set_ends hK
    have hxd : x ≠ dd := ne_of_obj hx hdd nofun
    have vs : paramVars [Str.ofString "self"] [.ref x] (Str.ofString "self") = some (.ref x) := v_par1
    refine' ⟨rfl, i_seq (i_assign (i_list (i_args (i_new fun a ha => i_args0 ⟨Nat.le_of_ble_eq_true rfl, fun S hS => i_setAttr (i_var vs (i_setAttr' (m_pin (m_pin hx ha) hS) (m_pin (m_pin hdd ha) hS) s1 (Nat.zero_le _) rfl (i_next (i_seq (i_assign (i_list (i_args (i_lit (i_args0 ⟨Nat.le_of_ble_eq_true rfl, fun N hN => ?_⟩)))))))))⟩))))⟩
    have hN : upd (upd (upd μ a (.idict [])) S (.list [.ref a])) dd (.attrs [(sSteps, .ref S)]) N = none := hN
    have ha : μ a = none := ha
    have k1 : S ≠ dd := (ne_of_none hS (m_pin hdd ha))
    have k2 : a ≠ dd := ne_of_none ha hdd
    have k3 := (upd_none hN).1
    have kS : upd (upd (upd μ a (.idict [])) S (.list [.ref a])) dd (.attrs [(sSteps, .ref S)]) S = some (.list [.ref a]) := (upd_ne _ _ k1).trans (upd_self _ _ _)
    have ka : upd (upd (upd μ a (.idict [])) S (.list [.ref a])) dd (.attrs [(sSteps, .ref S)]) a = some (.idict []) := (upd_ne _ _ k2).trans (m_pin (upd_self _ _ _) hS)
    have kx : upd (upd (upd μ a (.idict [])) S (.list [.ref a])) dd (.attrs [(sSteps, .ref S)]) x = some (.inst 108 dd) := (upd_ne _ _ hxd).trans (m_pin (m_pin hx ha) hS)
    refine i_setAttr (i_var vs (i_setAttr' (m_pin kx hN) (m_pin (upd_self _ _ _) hN) s2 (Nat.le_of_ble_eq_true rfl) (aset_new rfl) (i_next (i_nil (h S N a _ ⟨(upd_ne _ _ hxd).trans (m_pin kx hN), upd_self _ _ _, (upd_ne _ _ k1).trans (m_pin kS hN), (upd_ne _ _ k3).trans (upd_self _ _ _), rfl, ?_, List.nodup_cons.mpr ⟨List.not_mem_nil, List.nodup_nil⟩, (ne_of_none hN kS).symm⟩ (fun y o hy e => (upd_ne _ _ hy).trans (m_pin ((upd_ne _ _ hy).trans (m_pin (m_pin e ha) hS)) hN)) (upd_none hS).2 (upd_none (upd_none (upd_none hN).2).2).2 ha)))))
    intro i b e
    match i, e with
    | 0, e =>
      injection e with e
      subst e
      exact ⟨[], rfl, (upd_ne _ _ k2).trans (m_pin ka hN)⟩
theorem makes_trie : makesIn c.K 108 = true := by rw [hK]; rfl
noncomputable def pTrieNew : List MV → W0 := fun ds μ Q => ds = [] ∧ ∀ t dd S N a μ', TrieAt μ' t dd S N [a] ⟨[[]], [-1]⟩ → (∀ y o, μ y = some o → μ' y = some o) → μ t = none → μ dd = none → μ S = none → μ N = none → μ a = none → Q (.ref t) μ'
theorem op_Trie {k : Nat} : OpN c (k + 2) (fun vs => PySem.call (.ref 108) vs) pTrieNew :=
  (OpN.make (fI := 84) (makes_trie hK) (by rw [hK]; rfl) (by rw [hK]; rfl) (sp_Trie_init hK)).mono fun ds μ Q ⟨e, h⟩ => by
    subst e
    intro x dd hx hdd hne
    refine ⟨x, dd, rfl, upd_self _ _ _, (upd_ne _ _ (Ne.symm hne)).trans (upd_self _ _ _), fun S N a μ' X hk hS hN ha => ⟨rfl, h x dd S N a μ' X (fun y o e => ?_) hx hdd (upd_none (upd_none hS).2).2 (upd_none (upd_none hN).2).2 (upd_none (upd_none ha).2).2⟩⟩
    · have h1 : y ≠ x := fun q => by rw [q, hx] at e; cases e
      have h2 : y ≠ dd := fun q => by rw [q, hdd] at e; cases e
      refine hk y o h2 ?_
      rw [upd_ne _ _ h1, upd_ne _ _ h2]; exact e
end
end Mine
namespace Mine
open Classical
noncomputable def addGo : Tr → Nat → List Int → Tr × Nat
  | T, n, [] => (T, n)
  | T, n, g :: r => match dgi (T.steps.getD n []) g with
    | some j => addGo T j.toNat r
    | none => addGo ⟨T.steps.set n (T.steps.getD n [] ++ [(g, (T.steps.length : Int))]) ++ [[]], T.ends ++ [-1]⟩ T.steps.length r
noncomputable def addW (T : Tr) (word : List Int) (lig : Int) : Tr := ⟨(addGo T 0 word).1.steps, (addGo T 0 word).1.ends.set (addGo T 0 word).2 lig⟩
theorem getD_int {o : Option Int} {i : Int} : (o.map MV.int).getD (.int i) = .int (o.getD i) := by cases o <;> rfl
structure TrOk (T : Tr) : Prop where
  pos : 0 < T.steps.length
  ends : T.ends.length = T.steps.length
  child : ∀ d ∈ T.steps, ∀ p ∈ d, 0 ≤ p.2 ∧ p.2 < T.steps.length
  small : ∀ d ∈ T.steps, d.length ≤ T.steps.length
theorem dgi_mem {d : List (Int × Int)} {g j : Int} (h : dgi d g = some j) : (g, j) ∈ d := by
  unfold dgi at h
  refine el1_2 (Option.map_eq_some_iff.mp h) fun p hp eqz1 => ?_
  subst eqz1
  have h1 := List.mem_of_find?_eq_some hp
  have h2 := List.find?_some hp
  simp at h2
  rw [← h2]; exact h1
theorem getD_at {α : Type} {l : List α} {n : Nat} {d : α} (h : n < l.length) : l.getD n d = l[n] := by simp [h]
theorem TrOk.grow {T : Tr} (O : TrOk T) {n : Nat} (hn : n < T.steps.length) (g : Int) : TrOk ⟨T.steps.set n (T.steps.getD n [] ++ [(g, (T.steps.length : Int))]) ++ [[]], T.ends ++ [-1]⟩ := by
  refine ⟨by simp, by simp [O.ends], fun d hd p hp => ?_, fun d hd => ?_⟩
  rotate_left
  · simp only [List.length_append, List.length_set, List.length_singleton]
    rcases List.mem_append.mp hd with hd | hd
    · rcases List.mem_or_eq_of_mem_set hd with hd | hd
      · have := O.small d hd; omega
      · rw [hd, getD_at hn, List.length_append, List.length_singleton]
        have := O.small _ (List.getElem_mem hn); omega
    · rw [List.mem_singleton.mp hd]; simp
  simp only [List.length_append, List.length_set, List.length_singleton]
  rcases List.mem_append.mp hd with hd | hd
  · rcases List.mem_or_eq_of_mem_set hd with hd | hd
    · have := O.child d hd p hp; omega
    · subst hd
      rcases List.mem_append.mp hp with hp | hp
      · rw [getD_at hn] at hp
        have := O.child _ (List.getElem_mem hn) p hp; omega
      · rw [List.mem_singleton.mp hp]
        dsimp only; omega
  · rw [List.mem_singleton.mp hd] at hp; cases hp
theorem rd_steps {σ : St} {t da S N : Addr} {refs : List Addr} {T : Tr} {x : String} {ok : Addr → Prop} (g : ok 108) (v : σ.vars (Str.ofString x) = some (.ref t)) (X : TrieAt σ.mu t da S N refs T) : Rd (wAttr (Str.ofString "steps") ok (wVar x)) σ (.ref S) := rd_attr (rd_var v) X.inst X.attrs g rfl
theorem rd_ends {σ : St} {t da S N : Addr} {refs : List Addr} {T : Tr} {x : String} {ok : Addr → Prop} (g : ok 108) (v : σ.vars (Str.ofString x) = some (.ref t)) (X : TrieAt σ.mu t da S N refs T) : Rd (wAttr (Str.ofString "ends") ok (wVar x)) σ (.ref N) := rd_attr (rd_var v) X.inst X.attrs g rfl
theorem rd_at {σ : St} {t da S N : Addr} {refs : List Addr} {T : Tr} {x y : String} {n : Nat} {a : Addr} {ok : Addr → Prop} (g : ok 108) (v : σ.vars (Str.ofString x) = some (.ref t)) (X : TrieAt σ.mu t da S N refs T) (vn : σ.vars (Str.ofString y) = some (.int n)) (z : T.steps.length ≤ 1000) (ha : refs[n]? = some a) : Rd (Mine.w2 pGetL (wAttr (Str.ofString "steps") ok (wVar x)) (wVar y)) σ (.ref a) :=
  rd_2 (rd_steps g v X) (rd_var vn) (r2_getR X.steps (Int.natCast_nonneg _) (by rw [Int.toNat_natCast, List.getElem?_map, ha]; rfl) (by rw [List.length_map, X.len]; exact Nat.le_trans z (Nat.le_of_ble_eq_true rfl)))
theorem s_appendNew {σ : St} {Q : Fl → St → Prop} {W1 : WE} {r : Addr} {l : List MV} {mo : MObj} (h1 : Rd W1 σ (.ref r)) (m : σ.mu r = some (.list l)) (z : l.length ≤ 1000000) (k : ∀ b, σ.mu b = none → Q .next { σ with mu := upd (upd σ.mu b mo) r (.list (l ++ [.ref b])) }) : wExpr (wBMeth "list" pAppend W1 [wNew mo]) σ Q :=
  h1 _ ⟨recv_list.mpr ⟨r, l, rfl, m⟩, fun b hb => i_append (Q := fun d μ' => d = .none ∧ Q .next { σ with mu := μ' }) (m_pin m hb) z ⟨rfl, k b hb⟩⟩
theorem v_offN {σ : St} {x y : String} {d : MV} (h : x ≠ y) : (σ.setv (Str.ofString y) d).vars (Str.ofString x) = σ.vars (Str.ofString x) := if_neg fun z => h (ofString_inj.mp z)
structure AddI (μ : MHeap) (t da S N : Addr) (refs : List Addr) (W : Tr × Nat) (lig : Int) (rest : List Int) (T : Tr) (n : Nat) (refs' : List Addr) (σ : St) : Prop where
  v1 : σ.vars (Str.ofString "self") = some (.ref t)
  v2 : σ.vars (Str.ofString "ligature") = some (.int lig)
  v3 : σ.vars (Str.ofString "node") = some (.int n)
  X : TrieAt σ.mu t da S N refs' T
  O : TrOk T
  lt : n < T.steps.length
  sz : T.steps.length + rest.length ≤ 1000
  go : addGo T n rest = W
  keep : ∀ y o, ¬ trieIn da S N refs y → μ y = some o → σ.mu y = some o
  new : ∀ y ∈ refs', y ∈ refs ∨ μ y = none
theorem AddI.grow {μ M : MHeap} {t da S N : Addr} {refs refs' : List Addr} {W : Tr × Nat} {lig g : Int} {rest : List Int} {T : Tr} {n : Nat} {σ : St} (I : AddI μ t da S N refs W lig (g :: rest) T n refs' σ) {a b : Addr} (ha : refs'[n]? = some a) (hg : dgi (T.steps.getD n []) g = none)
    (X : TrieAt M t da S N (refs' ++ [b]) ⟨T.steps.set n (T.steps.getD n [] ++ [(g, (T.steps.length : Int))]) ++ [[]], T.ends ++ [-1]⟩) (hb : b ≠ S ∧ b ≠ N ∧ σ.mu b = none) (hM : ∀ y o, y ≠ S → y ≠ N → y ≠ a → σ.mu y = some o → M y = some o) {V : Str → Option MV} (v1 : V (Str.ofString "self") = some (.ref t)) (v2 : V (Str.ofString "ligature") = some (.int lig)) :
    AddI μ t da S N refs W lig rest ⟨T.steps.set n (T.steps.getD n [] ++ [(g, (T.steps.length : Int))]) ++ [[]], T.ends ++ [-1]⟩ T.steps.length (refs' ++ [b]) (St.setv ⟨V, M⟩ (Str.ofString "node") (.int T.steps.length)) := by
  refine ⟨(v_offN (by decide)).trans v1, (v_offN (by decide)).trans v2, v_same, X, I.O.grow I.lt g, ?_, ?_, ?_, fun y o hy e => ?_, fun y hy => ?_⟩
  · show T.steps.length < (T.steps.set n _ ++ [[]]).length
    rw [List.length_append, List.length_set]; exact Nat.lt_succ_self _
  · have := I.sz
    show (T.steps.set n _ ++ [[]]).length + rest.length ≤ 1000
    rw [List.length_append, List.length_set, List.length_singleton]
    rw [List.length_cons] at this; lia
  · rw [← I.go, addGo, hg]
  · refine hM y o (fun q => hy (.inl q)) (fun q => hy (.inr (.inl q))) (fun q => ?_) (I.keep y o hy e)
    rcases I.new a (List.mem_of_getElem? ha) with m | m
    · exact hy (.inr (.inr (q ▸ m)))
    · rw [← q, e] at m; cases m
  · rcases List.mem_append.mp hy with m | m
    · exact I.new y m
    · rw [List.mem_singleton.mp m]
      by_cases hbr : trieIn da S N refs b
      · rcases hbr with q | q | q
        · exact absurd q hb.1
        · exact absurd q hb.2.1
        · exact .inl q
      · right
        cases q : μ b with
        | none => rfl
        | some o => rw [I.keep b o hbr q] at hb; cases hb.2.2
section
variable {prog : Program} {w : World} {c : Cx prog w} (hK : c.K = heapK w.params)
include hK
noncomputable def pCount : List MV → W0 := fun ds μ Q => ∃ t da S N refs T, ds = [.ref t] ∧ TrieAt μ t da S N refs T ∧ T.steps.length ≤ 1000 ∧ Q (.int T.steps.length) μ
theorem sp_count {k : Nat} : CodeN c (k + 1) (.ref 98) pCount := by
  refine' CodeN.mono (CodeN.fn (names := [Str.ofString "self"]) (a := 98) ?ho ?hcd ?hb ?hbind ?hown ?hnd ?hfree ?hco ?hgen ?hk) ?fin
  case ho => rw [hK]; rfl
  case hcd => rw [hK]; rfl
  case hco => rfl
  case hgen => rfl
  case hk => rfl
  case hbind => intro vals hl; obtain ⟨a, rfl⟩ := len1 hl; rfl
  case hown => exact fn_own (by decide)
  case hnd => decide
  case hfree => exact fn_free (by decide)
  case hb =>
    exact (JSs.cons (JS.ret (JE.call (cl_len hK) rfl op_len (JEs.cons (fun _ _ => rfl) (JE.attr (JE.nm "self" _ (by decide)) (fun _ => by with_unfolding_all rfl)) JEs.nil)))
      JSs.nil)
  case fin =>
    intro ds μ Q hz2
    refine el6_4 hz2 fun t da S N refs T eqz3 X hl h => ?_; clear hz2
    subst eqz3
    have g1 := get_steps hK
    have h1 := X.inst
    have h2 := X.attrs
    have h3 := X.steps
    have h5 : (refs.map MV.ref).length ≤ 1000000 := by rw [List.length_map, X.len]; lia
    have e : ((refs.map MV.ref).length : Int) = T.steps.length := by rw [List.length_map, X.len]
    have v1 : paramVars [Str.ofString "self"] [.ref t] (Str.ofString "self") = some (.ref t) := v_par1
    refine ⟨rfl, i_seq (s_ret (d := .int T.steps.length) ?_ (i_retC h))⟩
    rw [← e]
    exact rd_N (rd_a (rd_attr (rd_var v1) h1 h2 g1 rfl) rd_a0) (rn_lenL h3 h5)
noncomputable def pStep : List MV → W0 := fun ds μ Q => ∃ t da S N refs T, ∃ n : Nat, ∃ g, ds = [.ref t, .int n, .int g] ∧ TrieAt μ t da S N refs T ∧ T.steps.length ≤ 1000 ∧ ∃ h : n < T.steps.length, Q (.int ((dgi T.steps[n] g).getD (-1))) μ
theorem sp_step {k : Nat} : CodeN c (k + 1) (.ref 105) pStep := by
  refine' CodeN.mono (CodeN.fn (names := [Str.ofString "self", Str.ofString "node", Str.ofString "glyph"]) (a := 105) ?ho ?hcd ?hb ?hbind ?hown ?hnd ?hfree ?hco ?hgen ?hk) ?fin
  case ho => rw [hK]; rfl
  case hcd => rw [hK]; rfl
  case hco => rfl
  case hgen => rfl
  case hk => rfl
  case hbind => intro vals hl; obtain ⟨a, b, d, rfl⟩ := len3 hl; rfl
  case hown => exact fn_own (by decide)
  case hnd => decide
  case hfree => exact fn_free (by decide)
  case hb =>
    exact (JSs.cons (JS.ret (jm_get (JE.sub op_getL indexes_L (JE.attr (JE.nm "self" _ (by decide)) (fun _ => by with_unfolding_all rfl)) (JE.nm "node" _ (by decide)) (fun _ _ => rfl)) (JEs.cons (fun _ _ => rfl) (JE.nm "glyph" _ (by decide)) (JEs.cons (fun _ _ => rfl) (je_none hK rfl) JEs.nil)) (fun _ => ⟨_, by with_unfolding_all rfl⟩)))
      JSs.nil)
  case fin =>
    rintro ds μ Q ⟨t, da, S, N, refs, T, n, g, rfl, X, hl, hn, h⟩
    have g1 := get_steps hK
    have h1 := X.inst
    have h2 := X.attrs
    have h3 := X.steps
    have h4 := X.len
    have h5 : (refs.map MV.ref).length ≤ 1000000 := by rw [List.length_map]; lia
    refine el1_3 (X.at hn) fun a h6 h7 _ => ?_
    have h8 : (refs.map MV.ref)[(n : Int).toNat]? = some (.ref a) := by rw [Int.toNat_natCast, List.getElem?_map, h6]; rfl
    refine ⟨rfl, i_seq (s_ret (d := .int ((dgi T.steps[n] g).getD (-1))) ?_ (i_retC h))⟩
    rw [← getD_int, ← dget_embD]
    refine' rd_bmethI (rd_2 (rd_attr (rd_var ?va) h1 h2 g1 rfl) (rd_var ?vb) (r2_getR h3 (Int.natCast_nonneg _) h8 h5)) h7 (rd_a (rd_var ?vc) (rd_a ?vd rd_a0)) (rn_getD h7)
    case va => exact (v_mk v_par1)
    case vb => exact (v_mk (v_par2 (by decide) v_par1))
    case vc => exact (v_mk (v_par2 (by decide) (v_par2 (by decide) v_par1)))
    case vd => exact rd_lit
noncomputable def pAdd : List MV → W0 := fun ds μ Q => ∃ t da S N refs T word lig, ds = [.ref t, itup word, .int lig] ∧ TrieAt μ t da S N refs T ∧ TrOk T ∧ T.steps.length + word.length ≤ 1000 ∧
  ∀ refs' μ', TrieAt μ' t da S N refs' (addW T word lig) → TrOk (addW T word lig) → (∀ y o, ¬ trieIn da S N refs y → μ y = some o → μ' y = some o) → (∀ y ∈ refs', y ∈ refs ∨ μ y = none) → Q .none μ'
theorem sp_add {k : Nat} : CodeN c (k + 1) (.ref 91) pAdd := by
  refine' CodeN.mono (CodeN.fn (names := [Str.ofString "self", Str.ofString "glyphs", Str.ofString "ligature"]) (a := 91) ?ho ?hcd ?hb ?hbind ?hown ?hnd ?hfree ?hco ?hgen ?hk) ?fin
  case ho => rw [hK]; rfl
  case hcd => rw [hK]; rfl
  case hco => rfl
  case hgen => rfl
  case hk => rfl
  case hbind => intro vals hl; obtain ⟨a, b, d, rfl⟩ := len3 hl; rfl
  case hown => exact fn_own (by decide)
  case hnd => decide
  case hfree => exact fn_free (by decide)
  case hb =>
    exact (JSs.cons (JS.assign (JE.int _ _ _) (JA.nl rfl) (fun _ _ => rfl) (fun _ => rfl) (fun _ => rfl))
      (JSs.cons (JS.for (JSrc.seq (JE.nm "glyphs" _ (by decide))) (JA.nl rfl)
      (JSs.cons (JS.ite (JT.cmp op_notInI (JE.nm "glyph" _ (by decide)) (JE.sub op_getL indexes_L (JE.attr (JE.nm "self" _ (by decide)) (fun _ => by with_unfolding_all rfl)) (JE.nm "node" _ (by decide)) (fun _ _ => rfl)) rfl)
       (JSs.cons (JS.assign (JE.call (cl_len hK) rfl op_len (JEs.cons (fun _ _ => rfl) (JE.attr (JE.nm "self" _ (by decide)) (fun _ => by with_unfolding_all rfl)) JEs.nil)) (JA.sub op_setI (JE.sub op_getL indexes_L (JE.attr (JE.nm "self" _ (by decide)) (fun _ => by with_unfolding_all rfl)) (JE.nm "node" _ (by decide)) (fun _ _ => rfl)) (JE.nm "glyph" _ (by decide))) (fun _ _ => rfl) (fun _ => rfl) (fun _ => rfl))
        (JSs.cons (JS.expr (jm_append (JE.attr (JE.nm "self" _ (by decide)) (fun _ => by with_unfolding_all rfl)) (JEs.cons (fun _ _ => rfl) JE.dictI JEs.nil) (fun _ => ⟨_, by with_unfolding_all rfl⟩)) (fun _ => rfl))
        (JSs.cons (JS.expr (jm_append (JE.attr (JE.nm "self" _ (by decide)) (fun _ => by with_unfolding_all rfl)) (JEs.cons (fun _ _ => rfl) (je_none hK rfl) JEs.nil) (fun _ => ⟨_, by with_unfolding_all rfl⟩)) (fun _ => rfl))
        JSs.nil)))
       JSs.nil)
       (JSs.cons (JS.assign (JE.sub op_getI indexes_I (JE.sub op_getL indexes_L (JE.attr (JE.nm "self" _ (by decide)) (fun _ => by with_unfolding_all rfl)) (JE.nm "node" _ (by decide)) (fun _ _ => rfl)) (JE.nm "glyph" _ (by decide)) (fun _ _ => rfl)) (JA.nl rfl) (fun _ _ => rfl) (fun _ => rfl) (fun _ => rfl))
       JSs.nil)) (fun _ _ => rfl))
      (JSs.cons (JS.assign (JE.nm "ligature" _ (by decide)) (JA.sub op_setL (JE.attr (JE.nm "self" _ (by decide)) (fun _ => by with_unfolding_all rfl)) (JE.nm "node" _ (by decide))) (fun _ _ => rfl) (fun _ => rfl) (fun _ => rfl))
      JSs.nil)))
  case fin =>
    intro ds μ Q hz503
    refine el8_5 hz503 fun t da S N refs T word lig eqz504 X O hl h => ?_
    clear hz503
    subst eqz504
    have g1 := get_steps hK
    have g2 := get_ends hK
    refine' ⟨rfl, i_seq (s_assign rd_lit (i_next (i_seq (s_for (ri_T (l := word.map MV.int) (rd_var (show _ = some (itup word) from ?vg))) (wLoop_inv (fun l σ => ∃ rest T' n refs', l = rest.map MV.int ∧ AddI μ t da S N refs (addGo T 0 word) lig rest T' n refs' σ) ?_ ?_ ⟨word, T, 0, refs, rfl, ?v1, ?v2, v_same, X, O, O.pos, hl, rfl, (fun y o _ e => e), fun y m => .inl m⟩)))))⟩
    case vg => exact (v_other (by decide) (v_mk (v_par2 (by decide) v_par1)))
    case v1 => exact (v_other (by decide) (v_mk v_par1))
    case v2 => exact (v_other (by decide) (v_mk (v_par2 (by decide) (v_par2 (by decide) v_par1))))
    · intro σ hz8
      refine el4_2 hz8 fun rest T' n refs' e I => ?_; clear hz8
      obtain rfl := List.map_eq_nil_iff.mp e.symm
      have hlen := I.O.ends
      have hn : (n : Int) < ((T'.ends.map MV.int).length : Nat) := by
        have := I.lt
        rw [List.length_map, hlen]; lia
      have hz : (T'.ends.map MV.int).length ≤ 1000000 := by
        have := I.sz
        rw [List.length_map, hlen]; lia
      have eW : addW T word lig = ⟨T'.steps, T'.ends.set n lig⟩ := by unfold addW; rw [← I.go]; rfl
      refine' ⟨trivial, i_next (i_seq (s_store (rd_var I.v2) (rd_ends g2 I.v1 I.X) (rd_var I.v3) (rs_L I.X.ends (Int.natCast_nonneg _) hn hz) (i_next (i_nil (h refs' _ ?_ ?_ (fun y o hy e => (upd_ne _ _ (fun q => hy (.inr (.inl q)))).trans (I.keep y o hy e)) I.new)))))⟩
      · rw [eW, Int.toNat_natCast, ← List.map_set]
        exact I.X.setEnds _
      · rw [eW]
        exact ⟨I.O.pos, (List.length_set).trans hlen, I.O.child, I.O.small⟩
    · intro d l σ C hz505 hC _
      refine el4_2 hz505 fun rest T' n refs' e I => ?_
      clear hz505
      cases rest with
      | nil => cases e
      | cons g rest =>
      injection e with e e'
      subst e
      subst e'
      have hz : T'.steps.length ≤ 1000 := Nat.le_trans (Nat.le_add_right _ _) I.sz
      have hz1 : T'.steps.length + 1 ≤ 1000 := by
        have := I.sz
        rw [List.length_cons] at this; lia
      refine el1_3 (I.X.at I.lt) fun a h6 h7 _ => ?_
      rw [← getD_at (d := []) I.lt] at h7
      have v1 : (σ.setv (Str.ofString "glyph") (.int g)).vars (Str.ofString "self") = some (.ref t) := (v_offN (by decide)).trans I.v1
      have v2 : (σ.setv (Str.ofString "glyph") (.int g)).vars (Str.ofString "ligature") = some (.int lig) := (v_offN (by decide)).trans I.v2
      have v3 : (σ.setv (Str.ofString "glyph") (.int g)).vars (Str.ofString "node") = some (.int n) := (v_offN (by decide)).trans I.v3
      have vg : (σ.setv (Str.ofString "glyph") (.int g)).vars (Str.ofString "glyph") = some (.int g) := v_same
      have h11 := dget_embD (T'.steps.getD n []) g
      cases hg : dgi (T'.steps.getD n []) g with
      | some j =>
        rw [hg] at h11
        have hj := I.O.child _ (getD_at (d := []) I.lt ▸ List.getElem_mem I.lt) _ (dgi_mem hg)
        have ej : (j.toNat : Int) = j := Int.toNat_of_nonneg hj.1
        refine ⟨trivial, i_setv (i_seq (s_condF (rt_cmp (rd_var v_same) (rd_at g1 v1 I.X v3 hz h6) (r2_niIy h7 h11)) (i_nil (i_next (i_seq (s_assign (rd_2 (rd_at g1 v1 I.X v3 hz h6) (rd_var v_same) (r2_getI h7 h11)) (i_next (i_nil (hC _ ⟨rest, T', j.toNat, refs', rfl, (v_offN (by decide)).trans v1, (v_offN (by decide)).trans v2, ej.symm ▸ v_same, I.X, I.O, ?_, ?_, ?_, I.keep, I.new⟩)))))))))⟩
        · have := hj.2
          lia
        · have := I.sz
          rw [List.length_cons] at this; lia
        · rw [← I.go, addGo, hg]
      | none =>
        rw [hg] at h11
        have h13 := I.O.small _ (getD_at (d := []) I.lt ▸ List.getElem_mem I.lt)
        have h14 : (embD (T'.steps.getD n [])).length ≤ 1000000 := by rw [embD, List.length_map]; lia
        have h15 : (refs'.map MV.ref).length ≤ 1000000 := by rw [List.length_map, I.X.len]; lia
        have h16 : (T'.ends.map MV.int).length ≤ 1000000 := by rw [List.length_map, I.O.ends]; lia
        have e5 : ((refs'.map MV.ref).length : Int) = T'.steps.length := by rw [List.length_map, I.X.len]
        refine' ⟨trivial, i_setv (i_seq (s_condT (rt_cmp (rd_var v_same) (rd_at g1 v1 I.X v3 hz h6) (r2_niIn h7 h11)) (i_seq (s_store (v := .int T'.steps.length) ?w1 (rd_at g1 v1 I.X v3 hz h6) (rd_var v_same) (rs_I h7 h14) (i_next ?_)))))⟩
        case w1 =>
          rw [← e5]
          exact rd_N (rd_a (rd_steps g1 v1 I.X) rd_a0) (rn_lenL I.X.steps h15)
        rw [dset_embD hg]
        have X1 := I.X.setDict h6 (T'.steps.getD n [] ++ [(g, (T'.steps.length : Int))])
        refine i_seq (s_appendNew (rd_steps g1 v1 X1) X1.steps h15 fun b hb => i_next ?_)
        have hb : upd σ.mu a (.idict (embD (T'.steps.getD n [] ++ [(g, (T'.steps.length : Int))]))) b = none := hb
        have X2 := X1.push hb []
        have eM2 : (refs'.map MV.ref ++ [MV.ref b]) = (refs' ++ [b]).map MV.ref := by rw [List.map_append]; rfl
        rw [eM2]
        refine i_seq (s_append (rd_ends g2 v1 X2) X2.ends rd_lit h16 (i_next (i_nil (i_next ?_))))
        have X3 := X2.setEnds (T'.ends ++ [-1])
        have eM3 : (T'.ends.map MV.int ++ [MV.int (-1)]) = (T'.ends ++ [-1]).map MV.int := by rw [List.map_append]; rfl
        rw [eM3]
        have hb1 := ne_of_none hb X1.steps
        have hb2 := ne_of_none hb X1.ends
        have hb3 := (upd_none hb).1
        have j6 : (refs' ++ [b])[n]? = some a := (List.getElem?_append_left (List.getElem?_eq_some_iff.mp h6).1).trans h6
        have j7 : upd (upd (upd (upd σ.mu a (.idict (embD (T'.steps.getD n [] ++ [(g, (T'.steps.length : Int))])))) b (.idict (embD []))) S (.list ((refs' ++ [b]).map MV.ref))) N (.list ((T'.ends ++ [-1]).map MV.int)) a = some (.idict (embD (T'.steps.getD n [] ++ [(g, (T'.steps.length : Int))]))) :=
          (upd_ne _ _ (ne_of_obj h7 I.X.ends nofun)).trans ((upd_ne _ _ (ne_of_obj h7 I.X.steps nofun)).trans ((upd_ne _ _ hb3.symm).trans (upd_self _ _ _)))
        have j10 : dget (embD (T'.steps.getD n [] ++ [(g, (T'.steps.length : Int))])) g = some (.int T'.steps.length) := by
          rw [← dset_embD hg, dset_new h11, dget, List.find?_append, Option.map_eq_none_iff.mp h11]
          simp
        have hz3 : (T'.steps.set n (T'.steps.getD n [] ++ [(g, (T'.steps.length : Int))]) ++ [[]]).length ≤ 1000 := by
          rw [List.length_append, List.length_set]; exact hz1
        refine i_seq (s_assign (rd_2 (rd_at g1 v1 X3 v3 hz3 j6) (rd_var vg) (r2_getI j7 j10)) (i_next (i_nil (hC _ ⟨rest, _, _, _, rfl, I.grow h6 hg X3 ⟨hb1, hb2, (upd_none hb).2⟩ (fun y o y1 y2 y4 e => (upd_ne _ _ y2).trans ((upd_ne _ _ y1).trans (m_pin ((upd_ne _ _ y4).trans e) hb))) v1 v2⟩))))
end
end Mine
namespace Mine
open Classical
noncomputable def trieOf (ws : List (List Int × Int)) : Tr := ws.foldl (fun T p => addW T p.1 p.2) ⟨[[]], [-1]⟩
theorem addGo_len : ∀ (r : List Int) (T : Tr) (n : Nat), (addGo T n r).1.steps.length ≤ T.steps.length + r.length
  | [], T, n => Nat.le_refl _
  | g :: r, T, n => by
    unfold addGo
    split
    · have := addGo_len r T (by assumption : Int).toNat; simp only [List.length_cons]; omega
    · have := addGo_len r ⟨T.steps.set n (T.steps.getD n [] ++ [(g, (T.steps.length : Int))]) ++ [[]], T.ends ++ [-1]⟩ T.steps.length
      simp only [List.length_append, List.length_set, List.length_singleton, List.length_cons, List.length_nil] at this ⊢
      omega
theorem addW_len (T : Tr) (word : List Int) (lig : Int) : (addW T word lig).steps.length ≤ T.steps.length + word.length := addGo_len _ _ _
theorem flat_le_one {α β : Type} {f : α → List β} (h : ∀ x, (f x).length ≤ 1) : ∀ l : List α, (l.flatMap f).length ≤ l.length
  | [] => by simp
  | x :: l => by
    have := flat_le_one h l
    have := h x
    rw [List.flatMap_cons, List.length_append, List.length_cons]; omega
noncomputable def restL (ws : List (List Int × Int)) (s : List Int) : List (List Int × Int) := ws.filterMap fun p => if p.1.take s.length = s then some (p.1.drop s.length, p.2) else none
noncomputable def restOf (ws : List (List Int × Int)) (s : List Int) : List (List Int × Int) := srt wordLt (restL ws s)
theorem restL_flat (ws : List (List Int × Int)) (s : List Int) : (ws.flatMap fun p => if p.1.take s.length = s then [embW (p.1.drop s.length, p.2)] else []) = (restL ws s).map embW := by
  induction ws with
  | nil => rfl
  | cons p ws ih =>
    rw [List.flatMap_cons, ih]
    unfold restL
    rw [List.filterMap_cons]
    by_cases e : p.1.take s.length = s
    · simp [e]
    · simp [e]
structure LtrI (μ : MHeap) (ws : List (List Int × Int)) (t da S N : Addr) (done rest : List (List Int × Int)) (refs : List Addr) (σ : St) : Prop where
  eq : ws = done ++ rest
  v1 : σ.vars (Str.ofString "trie") = some (.ref t)
  X : TrieAt σ.mu t da S N refs (trieOf done)
  O : TrOk (trieOf done)
  sz : (trieOf done).steps.length ≤ 1 + 10 * done.length
  keep : ∀ y o, μ y = some o → σ.mu y = some o
  new : ∀ y ∈ refs, μ y = none
theorem LtrI.more {μ μ' : MHeap} {ws : List (List Int × Int)} {t da S N : Addr} {done rest : List (List Int × Int)} {p : List Int × Int} {refs refs' : List Addr} {σ : St} (I : LtrI μ ws t da S N done (p :: rest) refs σ) (hS : μ S = none) (hN : μ N = none) (hp : p.1.length ≤ 10) (X2 : TrieAt μ' t da S N refs' (addW (trieOf done) p.1 p.2)) (O2 : TrOk (addW (trieOf done) p.1 p.2))
    (hk2 : ∀ y o, ¬ trieIn da S N refs y → σ.mu y = some o → μ' y = some o) (hn2 : ∀ y ∈ refs', y ∈ refs ∨ σ.mu y = none) {V : Str → Option MV} (v1 : V (Str.ofString "trie") = some (.ref t)) : LtrI μ ws t da S N (done ++ [p]) rest refs' ⟨V, μ'⟩ := by
  have e3 : trieOf (done ++ [p]) = addW (trieOf done) p.1 p.2 := by unfold trieOf; rw [List.foldl_append]; rfl
  refine ⟨by rw [I.eq, List.append_assoc]; rfl, v1, e3 ▸ X2, e3 ▸ O2, ?_, fun y o e => hk2 y o (fun q => ?_) (I.keep y o e), fun y hy => ?_⟩
  · have hl2 := addW_len (trieOf done) p.1 p.2
    have := I.sz
    rw [e3, List.length_append, List.length_singleton]; lia
  · rcases q with rfl | rfl | hy
    · rw [hS] at e; cases e
    · rw [hN] at e; cases e
    · rw [I.new y hy] at e; cases e
  · rcases hn2 y hy with m | m
    · exact I.new y m
    · cases q : μ y with
      | none => rfl
      | some o => rw [I.keep y o q] at m; cases m
theorem trieOf_nil : TrOk (trieOf []) := by
  refine ⟨Nat.le_of_ble_eq_true rfl, rfl, fun d hd p hp => ?_, fun d hd => ?_⟩
  · rw [List.mem_singleton.mp (show d ∈ [[]] from hd)] at hp; cases hp
  · rw [List.mem_singleton.mp (show d ∈ [[]] from hd)]; exact Nat.zero_le _
section
variable {prog : Program} {w : World} {c : Cx prog w} (hK : c.K = heapK w.params)
include hK
noncomputable def pTrieOf : List MV → W0 := fun ds μ Q => ∃ r ws, ds = [.ref r] ∧ μ r = some (.list (ws.map embW)) ∧ ws.length ≤ 50 ∧ (∀ p ∈ ws, p.1.length ≤ 10) ∧
  ∀ t da S N refs μ', TrieAt μ' t da S N refs (trieOf ws) → TrOk (trieOf ws) → (∀ y o, μ y = some o → μ' y = some o) → Q (.ref t) μ'
theorem sp_law_trie {k : Nat} : CodeN c (k + 4) (.ref 181) pTrieOf := by
  refine' CodeN.mono (CodeN.fn (names := [Str.ofString "words"]) (a := 181) ?ho ?hcd ?hb ?hbind ?hown ?hnd ?hfree ?hco ?hgen ?hk) ?fin
  case ho => rw [hK]; rfl
  case hcd => rw [hK]; rfl
  case hco => rfl
  case hgen => rfl
  case hk => rfl
  case hbind => intro vals hl; obtain ⟨a, rfl⟩ := len1 hl; rfl
  case hown => exact fn_own (by decide)
  case hnd => decide
  case hfree => exact fn_free (by decide)
  case hb =>
    exact (JSs.cons (JS.assign (JE.call (cl_Trie hK) rfl (op_Trie hK) JEs.nil) (JA.nl rfl) (fun _ _ => rfl) (fun _ => rfl) (fun _ => rfl))
      (JSs.cons (JS.for (JSrc.seq (JE.nm "words" _ (by decide))) (JA.tup (JAs.cons (fun _ _ => rfl) (JA.nl rfl) (JAs.cons (fun _ _ => rfl) (JA.nl rfl) JAs.nil)))
      (JSs.cons (JS.expr (JE.meth (JE.nm "trie" _ (by decide)) (JEs.cons (fun _ _ => rfl) (JE.nm "word" _ (by decide)) (JEs.cons (fun _ _ => rfl) (JE.nm "ligature" _ (by decide)) JEs.nil)) (sp_add hK).op (fun _ => ⟨_, by with_unfolding_all rfl⟩)) (fun _ => rfl))
       JSs.nil) (fun _ _ => rfl))
      (JSs.cons (JS.ret (JE.nm "trie" _ (by decide)))
      JSs.nil)))
  case fin =>
    intro ds μ Q hz1
    refine el2_5 hz1 fun r ws eqz2 hr h50 h10 h => ?_; clear hz1
    subst eqz2
    have g1 := meth_add hK
    refine' ⟨rfl, i_seq (i_assign (i_wN (i_args0 ⟨rfl, fun t da S N a μ1 X hk ht hda hS hN ha => i_setv (i_next (i_seq (s_for (ri_R (rd_var ?vw) (hk _ _ hr)) (wLoop_inv (fun l σ => ∃ done rest refs, l = rest.map embW ∧ LtrI μ ws t da S N done rest refs σ) ?_ ?_ ⟨[], ws, [a], rfl, rfl, v_same, X, trieOf_nil, Nat.le_of_ble_eq_true rfl, hk, fun y hy => by rw [List.mem_singleton.mp hy]; exact ha⟩))))⟩)))⟩
    case vw => exact (v_other (by decide) (v_mk (v_mk v_par1)))
    · intro σ hz3
      refine el3_2 hz3 fun done rest refs e2 I => ?_; clear hz3
      obtain rfl := List.map_eq_nil_iff.mp e2.symm
      have e1 := I.eq
      rw [List.append_nil] at e1
      subst e1
      exact ⟨I.keep _ _ hr, i_next (i_seq (s_ret (rd_var I.v1) (i_retC (h t da S N refs _ I.X I.O I.keep))))⟩
    · intro d l σ C hz501 hC _
      refine el3_2 hz501 fun done rest refs e2 I => ?_
      clear hz501
      cases rest with
      | nil => cases e2
      | cons p rest =>
      injection e2 with e2 e2'
      subst e2
      subst e2'
      have hp := h10 p (I.eq ▸ List.mem_append_right _ List.mem_cons_self)
      have hz : (trieOf done).steps.length + p.1.length ≤ 1000 := by
        have h1 := congrArg List.length I.eq
        have := I.sz
        rw [List.length_append, List.length_cons] at h1; lia
      have v1 := I.v1
      refine' ⟨I.keep _ _ hr, i_embW (i_setv (i_setv (i_seq (s_methE (rd_var ?va) I.X.inst I.X.attrs g1 rfl (rd_a (rd_var ?vb) (rd_a (rd_var ?vc) rd_a0)) ⟨t, da, S, N, refs, trieOf done, p.1, p.2, rfl, I.X, I.O, hz, fun refs' μ' X2 O2 hk2 hn2 => ⟨rfl, i_next (i_nil (hC _ ⟨done ++ [p], rest, refs', rfl, I.more hS hN hp X2 O2 hk2 hn2 ?vd⟩))⟩⟩))))⟩
      · exact v1
      · exact (v_other (by decide) v_same)
      · exact v_same
      · exact v1
noncomputable def pRest : List MV → W0 := fun ds μ Q => ∃ r ws s, ds = [.ref r, itup s] ∧ μ r = some (.list (ws.map embW)) ∧ ws.length ≤ 50 ∧ (∀ p ∈ ws, p.1.length ≤ 10) ∧ s.length ≤ 10 ∧ Q (.flist ((restOf ws s).map embW)) μ
theorem sp_law_rest {k : Nat} : CodeN c (k + 1) (.ref 186) pRest := by
  refine' CodeN.mono (CodeN.fn (names := [Str.ofString "words", Str.ofString "start"]) (a := 186) ?ho ?hcd ?hb ?hbind ?hown ?hnd ?hfree ?hco ?hgen ?hk) ?fin
  case ho => rw [hK]; rfl
  case hcd => rw [hK]; rfl
  case hco => rfl
  case hgen => rfl
  case hk => rfl
  case hbind => intro vals hl; obtain ⟨a, b, rfl⟩ := len2 hl; rfl
  case hown => exact fn_own (by decide)
  case hnd => decide
  case hfree => exact fn_free (by decide)
  case hb =>
    exact (JSs.cons (JS.ret (JE.call (cl_sorted hK) rfl op_sortW (JEs.cons (fun _ _ => rfl) (JE.comp' (compOk rfl (by decide) (by decide)) (JSrc.seq (JE.nm "words" _ (by decide))) (fun _ _ => rfl) (JA.tup (JAs.cons (fun _ _ => rfl) (JA.nl rfl) (JAs.cons (fun _ _ => rfl) (JA.nl rfl) JAs.nil))) (JTs.cons (JT.cmp op_eq (JE.slice (JE.nm "word" _ (by decide)) JPart.none (JPart.some (JE.call (cl_len hK) rfl op_len (JEs.cons (fun _ _ => rfl) (JE.nm "start" _ (by decide)) JEs.nil))) (fun _ _ => rfl)) (JE.nm "start" _ (by decide)) rfl) JTs.nil) JGens.nil (JE.tup (JEs.cons (fun _ _ => rfl) (JE.slice (JE.nm "word" _ (by decide)) (JPart.some (JE.call (cl_len hK) rfl op_len (JEs.cons (fun _ _ => rfl) (JE.nm "start" _ (by decide)) JEs.nil))) JPart.none (fun _ _ => rfl)) (JEs.cons (fun _ _ => rfl) (JE.nm "ligature" _ (by decide)) JEs.nil)))) JEs.nil)))
      JSs.nil)
  case fin =>
    intro ds μ Q hz4
    refine el3_6 hz4 fun r ws s eqz5 hr h50 h10 hs h => ?_; clear hz4
    subst eqz5
    have lf : (restL ws s).length < 64 := by
      have := List.length_filterMap_le (fun p : List Int × Int => if p.1.take s.length = s then some (p.1.drop s.length, p.2) else none) ws
      exact Nat.lt_of_le_of_lt (Nat.le_trans this h50) (Nat.le_of_ble_eq_true rfl)
    have hs6 : s.length ≤ 1000000 := Nat.le_trans hs (Nat.le_of_ble_eq_true rfl)
    refine' ⟨rfl, i_seq (i_ret (i_wN1 (i_comp (ri_R (rd_var ?vw) hr _ fun D hD => ?_))))⟩
    case vw => exact (v_mk v_par1)
    refine wItems_pure (emb := embW) (fun p => if p.1.take s.length = s then [embW (p.1.drop s.length, p.2)] else []) (fun V => V (Str.ofString "start") = some (itup s)) (fun its vs => m_pin hr hD) ?_ ?_ ?_ ?_
    · exact (v_free rfl (v_mk (v_par2 (by decide) v_par1)))
    · have := flat_le_one (f := fun p : List Int × Int => if p.1.take s.length = s then [embW (p.1.drop s.length, p.2)] else []) (fun x => by split <;> exact Nat.le_of_ble_eq_true rfl) ws
      rw [List.length_nil]; lia
    · rintro p hp V its vs C hV hl hC
      have hp6 : p.1.length ≤ 1000000 := Nat.le_trans (h10 p hp) (Nat.le_of_ble_eq_true rfl)
      have hv : vs.length < 1000000 := Nat.lt_of_le_of_lt (Nat.le_trans (Nat.le_add_right _ _) hl) (Nat.le_of_ble_eq_true rfl)
      refine' i_embW (i_setv (i_setv (i_and ((show RdT _ _ (decide ((p.1.take s.length).map MV.int = s.map MV.int)) from ?tt) _ ⟨fun e => i_and0 ⟨fun _ => i_emit ((show Rd _ _ (embW (p.1.drop s.length, p.2)) from ?re) _ ⟨hv, fun its' => ?yes⟩), fun e => nomatch e⟩, fun e => ⟨(fun e => nomatch e), fun _ => ?no⟩⟩))))
      case tt =>
        refine' rt_cmp (rd_hi (rd_var ?ta) (rd_N (rd_a (rd_var ?tb) rd_a0) (rn_lenT hs6)) hp6) (rd_var (d := itup s) ?tc) (r2_eqT (plains_ints _) (plains_ints _) (by rw [deps_ints]; decide))
        · exact (v_other (by decide) v_same)
        · exact hV
        · exact hV
      case re =>
        refine' rd_tup (rd_a (rd_lo (rd_var ?tf) (rd_N (rd_a (rd_var ?tg) rd_a0) (rn_lenT hs6)) hp6) (rd_a (rd_var ?th) rd_a0)) (Nat.le_of_ble_eq_true rfl)
        · exact (v_other (by decide) v_same)
        · exact hV
        · exact v_same
      case yes =>
        rw [if_pos (map_int_inj.mp (of_decide_eq_true e))] at hC
        dsimp only [setv_mu]
        rw [upd_upd]
        refine hC _ its' ?_
        exact hV
      case no =>
        rw [if_neg (fun q => of_decide_eq_false e (map_int_inj.mpr q)), List.append_nil] at hC
        refine hC _ _ ?_
        exact hV
    · rintro V its hV
      dsimp only
      rw [erase_upd _ hD, List.nil_append, restL_flat]
      exact ⟨restL ws s, rfl, lf, i_retC h⟩
end
end Mine
namespace Mine
open Classical
noncomputable def rowOf (T : Tr) (hs : List Int) (n : Nat) : List (Int × Int) := (srt iLt ((T.steps.getD n []).map (·.1))).map fun g => (g, hs.getD ((dgi (T.steps.getD n []) g).getD 0).toNat 0)
noncomputable def dsi (d : List (Int × Int)) (g j : Int) : List (Int × Int) := if d.any (fun e => decide (e.1 = g)) then d.map (fun e => if e.1 = g then (e.1, j) else e) else d ++ [(g, j)]
theorem dset_dsi (d : List (Int × Int)) (g j : Int) : dset (embD d) g (.int j) = embD (dsi d g j) := by
  unfold dset dsi embD
  have : (d.map fun p => (p.1, MV.int p.2)).any (fun e => decide (e.1 = g)) = d.any (fun e => decide (e.1 = g)) := by rw [List.any_map]; rfl
  rw [this]
  split
  · rw [List.map_map, List.map_map]
    apply List.map_congr_left
    intro p _
    simp only [Function.comp]
    split <;> rfl
  · rw [List.map_append]; rfl
noncomputable def plOf (o : List Int) : List (Int × Int) := o.zipIdx.map fun p => (p.1, (p.2 : Int))
theorem plOf_snoc (o : List Int) (x : Int) : plOf (o ++ [x]) = plOf o ++ [(x, (o.length : Int))] := by
  unfold plOf
  rw [List.zipIdx_append, List.map_append]; simp
theorem plOf_len (o : List Int) : (plOf o).length = o.length := by unfold plOf; simp
theorem plOf_none {o : List Int} {x : Int} (h : x ∉ o) : dgi (plOf o) x = none := by
  unfold dgi plOf
  rw [Option.map_eq_none_iff, List.find?_eq_none]
  intro p hp
  obtain ⟨q, hq, rfl⟩ := List.mem_map.mp hp
  simp only [decide_eq_true_eq]
  rintro rfl
  obtain ⟨i, hi, e⟩ := List.mem_iff_getElem.mp hq
  rw [List.getElem_zipIdx] at e
  rw [← e] at h
  exact h (List.getElem_mem _)
theorem plOf_some {o : List Int} {x : Int} (h : x ∈ o) : ∃ i : Nat, dgi (plOf o) x = some (i : Int) ∧ i < o.length ∧ o[i]? = some x := by
  have hx : ∃ p, (plOf o).find? (fun e => decide (e.1 = x)) = some p := by
    cases q : (plOf o).find? (fun e => decide (e.1 = x)) with
    | some p => exact ⟨p, rfl⟩
    | none =>
      obtain ⟨i, hi, e⟩ := List.mem_iff_getElem.mp h
      rw [List.find?_eq_none] at q
      have := q (x, (i : Int)) (List.mem_map.mpr ⟨(x, i), by
        rw [List.mem_iff_getElem]
        exact ⟨i, by simpa using hi, by simp [e]⟩, rfl⟩)
      simp at this
  obtain ⟨p, hp⟩ := hx
  have h1 := List.mem_of_find?_eq_some hp
  have h2 := List.find?_some hp
  refine el1_2 (List.mem_map.mp h1) fun q hq eqz2 => ?_
  subst eqz2
  obtain ⟨i, hi, e⟩ := List.mem_iff_getElem.mp hq
  rw [List.getElem_zipIdx] at e
  simp only [decide_eq_true_eq] at h2
  have hl : i < o.length := by simpa using hi
  refine ⟨i, ?_, hl, ?_⟩
  · unfold dgi; rw [hp, ← e]; simp
  · rw [List.getElem?_eq_getElem hl, ← h2, ← e]
noncomputable def goRow : List (Int × Int) → List Int → List (Int × Int) → List Int × List (Int × Int)
  | [], o, st => (o, st)
  | (g, goal) :: r, o, st =>
    let o' := if goal ∈ o then o else o ++ [goal]
    goRow r o' (dsi st g ((dgi (plOf o') goal).getD 0))
inductive Bfs (T : Tr) (hs : List Int) : List Int → List (List (Int × Int)) → List Int → Prop
  | start : Bfs T hs [hs.getD 0 0] [] []
  | step {o : List Int} {rows : List (List (Int × Int))} {ends : List Int} : Bfs T hs o rows ends → rows.length < o.length →
      Bfs T hs (goRow (rowOf T hs (o.getD rows.length 0).toNat) o []).1 (rows ++ [(goRow (rowOf T hs (o.getD rows.length 0).toNat) o []).2]) (ends ++ [T.ends.getD (o.getD rows.length 0).toNat 0])
structure HomesOk (T : Tr) (hs : List Int) : Prop where
  len : hs.length = T.steps.length
  rng : ∀ x ∈ hs, 0 ≤ x ∧ x < T.steps.length
theorem HomesOk.at {T : Tr} {hs : List Int} (H : HomesOk T hs) {n : Nat} (h : n < T.steps.length) : 0 ≤ hs.getD n 0 ∧ hs.getD n 0 < T.steps.length := by
  rw [getD_at (by rw [H.len]; exact h)]
  exact H.rng _ (List.getElem_mem _)
theorem rowOf_rng {T : Tr} {hs : List Int} (O : TrOk T) (H : HomesOk T hs) (n : Nat) : ∀ p ∈ rowOf T hs n, 0 ≤ p.2 ∧ p.2 < T.steps.length := fun p hp => by
  refine el1_2 (List.mem_map.mp hp) fun g hg eqz3 => ?_
  subst eqz3
  dsimp only
  have hg' : g ∈ (T.steps.getD n []).map (·.1) := (srt_perm _ _).mem_iff.mp hg
  refine H.at ?_
  by_cases hn : n < T.steps.length
  · rw [getD_at hn] at hg' ⊢
    cases q : dgi T.steps[n] g with
    | none => have := O.pos; simpa using this
    | some j =>
      have := O.child _ (List.getElem_mem hn) _ (dgi_mem q)
      simp only [Option.getD_some]
      dsimp only at this
      omega
  · rw [List.getD_eq_getElem?_getD, List.getElem?_eq_none (by omega)] at hg'
    simp at hg'
structure OrdOk (N : Nat) (o : List Int) : Prop where
  nd : o.Nodup
  rng : ∀ x ∈ o, 0 ≤ x ∧ x < N
theorem OrdOk.len {N : Nat} {o : List Int} (h : OrdOk N o) : o.length ≤ N := by
  have h1 : (o.map Int.toNat).Nodup := by
    rw [List.nodup_iff_pairwise_ne, List.pairwise_map]
    refine (List.pairwise_iff_forall_sublist.mpr fun {a b} hs e => ?_)
    have hab := List.pairwise_iff_forall_sublist.mp h.nd hs
    have ha := h.rng a (hs.subset (by simp))
    have hb := h.rng b (hs.subset (by simp))
    exact hab (by omega)
  have := h1.length_le_of_subset (l₂ := List.range N) fun x hx => by
    refine el1_2 (List.mem_map.mp hx) fun y hy eqz4 => ?_
    subst eqz4
    have := h.rng y hy
    exact List.mem_range.mpr (by omega)
  simpa using this
theorem OrdOk.add {N : Nat} {o : List Int} (h : OrdOk N o) {x : Int} (hx : 0 ≤ x ∧ x < N) (hn : x ∉ o) : OrdOk N (o ++ [x]) :=
  ⟨by rw [List.nodup_append]; exact ⟨h.nd, List.nodup_cons.mpr ⟨List.not_mem_nil, List.nodup_nil⟩, fun a ha b hb e => hn (by simp at hb; rw [← hb, ← e]; exact ha)⟩, fun y hy => by
    rcases List.mem_append.mp hy with m | m
    · exact h.rng y m
    · rw [List.mem_singleton.mp m]; exact hx⟩
theorem goRow_ok {N : Nat} : ∀ {r : List (Int × Int)} {o : List Int} {st : List (Int × Int)}, OrdOk N o → (∀ p ∈ r, 0 ≤ p.2 ∧ p.2 < N) → OrdOk N (goRow r o st).1 ∧ (goRow r o st).2.length ≤ st.length + r.length
  | [], o, st, h, _ => ⟨h, Nat.le_refl _⟩
  | (g, goal) :: r, o, st, h, hr => by
    unfold goRow
    have h2 : OrdOk N (if goal ∈ o then o else o ++ [goal]) := by
      split
      · exact h
      · rename_i hn; exact h.add (hr _ List.mem_cons_self) hn
    obtain ⟨a, b⟩ := goRow_ok (r := r) (st := dsi st g ((dgi (plOf (if goal ∈ o then o else o ++ [goal])) goal).getD 0)) h2 fun p hp => hr p (List.mem_cons_of_mem _ hp)
    refine ⟨a, Nat.le_trans b ?_⟩
    have : (dsi st g ((dgi (plOf (if goal ∈ o then o else o ++ [goal])) goal).getD 0)).length ≤ st.length + 1 := by
      unfold dsi; split <;> simp
    simp only [List.length_cons]; omega
theorem Bfs.ok {T : Tr} {hs : List Int} (O : TrOk T) (H : HomesOk T hs) {o : List Int} {rows : List (List (Int × Int))} {ends : List Int} (B : Bfs T hs o rows ends) : OrdOk T.steps.length o ∧ rows.length = ends.length := by
  induction B with
  | start => exact ⟨⟨List.nodup_cons.mpr ⟨List.not_mem_nil, List.nodup_nil⟩, fun x hx => by rw [List.mem_singleton.mp hx]; exact H.at O.pos⟩, rfl⟩
  | step B hl ih => exact ⟨(goRow_ok ih.1 (rowOf_rng O H _)).1, by simp [ih.2]⟩
end Mine
namespace Mine
open Classical
theorem TrieAt.ext {μ μ' : MHeap} {t da S N : Addr} {refs : List Addr} {T : Tr} (X : TrieAt μ t da S N refs T) (h : ∀ x o, x = t ∨ x = da ∨ x = S ∨ x = N ∨ x ∈ refs → μ x = some o → μ' x = some o) : TrieAt μ' t da S N refs T :=
  ⟨h _ _ (.inl rfl) X.inst, h _ _ (.inr (.inl rfl)) X.attrs, h _ _ (.inr (.inr (.inl rfl))) X.steps, h _ _ (.inr (.inr (.inr (.inl rfl)))) X.ends, X.len, fun i a e => let ⟨d, p, q⟩ := X.dict i a e; ⟨d, p, h _ _ (.inr (.inr (.inr (.inr (List.mem_of_getElem? e))))) q⟩, X.nd, X.sn⟩
theorem TrieAt.other {μ : MHeap} {t da S N x : Addr} {refs : List Addr} {T : Tr} (X : TrieAt μ t da S N refs T) (o : MObj) (h1 : x ≠ t) (h2 : x ≠ da) (h3 : x ≠ S) (h4 : x ≠ N) (h5 : x ∉ refs) : TrieAt (upd μ x o) t da S N refs T :=
  X.ext fun y p hy e => by
    rw [upd_ne]
    · exact e
    · rintro rfl
      rcases hy with q | q | q | q | q
      · exact h1 q
      · exact h2 q
      · exact h3 q
      · exact h4 q
      · exact h5 q
theorem TrieAt.fresh {μ : MHeap} {t da S N x : Addr} {refs : List Addr} {T : Tr} (X : TrieAt μ t da S N refs T) (h : μ x = none) : x ≠ t ∧ x ≠ da ∧ x ≠ S ∧ x ≠ N ∧ x ∉ refs :=
  ⟨ne_of_none h X.inst, ne_of_none h X.attrs, ne_of_none h X.steps, ne_of_none h X.ends, fun m => by
    obtain ⟨d, e⟩ := X.isDict m
    rw [h] at e; cases e⟩
theorem ext_upd {μ M : MHeap} {x : Addr} {o : MObj} (h : ∀ y p, μ y = some p → M y = some p) (hx : μ x = none) : ∀ y p, μ y = some p → upd M x o y = some p := fun y p e => by
  rw [upd_ne _ _ (fun q => by rw [q, hx] at e; cases e)]; exact h y p e
theorem ext_none {μ M : MHeap} (h : ∀ y p, μ y = some p → M y = some p) {x : Addr} (hx : M x = none) : μ x = none := by
  cases q : μ x with
  | none => rfl
  | some o => rw [h x o q] at hx; cases hx
theorem wWhile_inv {T : WT} {B : WS} {σ : St} {Q : Fl → St → Prop} (I : Nat → St → Prop) (n : Nat) (h0 : I n σ) (h : ∀ n σ (C : Fl → St → Prop), I n σ → (∀ m σ', m < n → I m σ' → C .next σ') → (∀ v σ', Q (.ret v) σ' → C (.ret v) σ') →
    T σ fun b σ1 => (b = false → Q .next σ1) ∧ (b = true → B σ1 C)) : wWhile T B σ Q :=
  ⟨I, n, h0, fun n σ hI => h n σ _ hI (fun m σ' hm hI' => ⟨m, hm, hI'⟩) (fun v σ' q => q)⟩
theorem TrieAt.push' {μ : MHeap} {t da S N b : Addr} {refs : List Addr} {T : Tr} {d : List (Int × Int)} (X : TrieAt μ t da S N refs T) (hnew : b ∉ refs) (hb : μ b = some (.idict (embD d))) : TrieAt (upd μ S (.list ((refs ++ [b]).map MV.ref))) t da S N (refs ++ [b]) { T with steps := T.steps ++ [d] } := by
  refine el0_6 (X.apart) fun h1 h2 h3 h4 h5 h6 => ?_
  have n3 := ne_of_obj hb X.steps nofun
  refine ⟨(upd_ne _ _ h2).trans X.inst, (upd_ne _ _ h4).trans X.attrs, upd_self _ _ _, (upd_ne _ _ X.sn.symm).trans X.ends, by simp [X.len], fun i a e => ?_, ?_, X.sn⟩
  · by_cases hi : i < refs.length
    · rw [List.getElem?_append_left hi] at e
      refine el1_2 (X.dict i a e) fun d' p q => ?_
      exact ⟨d', by rw [List.getElem?_append_left (by rw [← X.len]; exact hi)]; exact p, (upd_ne _ _ (h6 a (List.mem_of_getElem? e)).2.2.1).trans q⟩
    · have hi2 : i = refs.length := by
        have := (List.getElem?_eq_some_iff.mp e).1
        rw [List.length_append, List.length_singleton] at this
        lia
      subst hi2
      rw [List.getElem?_append_right (Nat.le_refl _)] at e
      simp at e
      subst e
      exact ⟨d, by rw [X.len]; simp, (upd_ne _ _ n3).trans hb⟩
  · rw [List.nodup_append]
    exact ⟨X.nd, List.nodup_cons.mpr ⟨List.not_mem_nil, List.nodup_nil⟩, fun x hx y hy e => hnew (by simp at hy; rw [← hy, ← e]; exact hx)⟩
theorem goRow_mono : ∀ (r : List (Int × Int)) (o : List Int) (st : List (Int × Int)), o.length ≤ (goRow r o st).1.length
  | [], o, st => Nat.le_refl _
  | (g, goal) :: r, o, st => by
    unfold goRow
    refine Nat.le_trans ?_ (goRow_mono r _ _)
    split
    · exact Nat.le_refl _
    · simp
theorem dsi_new {d : List (Int × Int)} {g j : Int} (h : dgi d g = none) : dsi d g j = d ++ [(g, j)] := by
  unfold dsi
  rw [if_neg]
  intro h2
  rw [List.any_eq_true] at h2
  refine el1_2 h2 fun p hp e => ?_
  unfold dgi at h
  rw [Option.map_eq_none_iff, List.find?_eq_none] at h
  exact h p hp e
noncomputable def goalOf (T : Tr) (hs : List Int) (n : Nat) (g : Int) : Int := hs.getD ((dgi (T.steps.getD n []) g).getD 0).toNat 0
theorem dgi_some {d : List (Int × Int)} {g : Int} (h : g ∈ d.map (·.1)) : ∃ j, dgi d g = some j := by
  cases q : dgi d g with
  | some j => exact ⟨j, rfl⟩
  | none =>
    refine el1_2 (List.mem_map.mp h) fun p hp eqz1 => ?_
    subst eqz1
    unfold dgi at q
    rw [Option.map_eq_none_iff, List.find?_eq_none] at q
    have := q p hp
    simp at this
theorem newTrie {μ : MHeap} {t da S0 N0 S N : Addr} (h1 : μ t = some (.inst 108 da)) (h2 : μ da = some (.attrs [(sSteps, .ref S0), (sEnds, .ref N0)])) (h3 : t ≠ da) (hS : μ S = none) (hN : μ N = none) (hNS : N ≠ S) :
    TrieAt (upd (upd (upd μ S (.list [])) N (.list [])) da (.attrs [(sSteps, .ref S), (sEnds, .ref N)])) t da S N [] ⟨[], []⟩ := by
  have a1 := ne_of_none hS h1
  have a2 := ne_of_none hN h1
  have a3 := ne_of_none hS h2
  have a4 := ne_of_none hN h2
  exact ⟨(upd_ne _ _ h3).trans ((upd_ne _ _ a2.symm).trans ((upd_ne _ _ a1.symm).trans h1)), upd_self _ _ _, (upd_ne _ _ a3).trans ((upd_ne _ _ hNS.symm).trans (upd_self _ _ _)), (upd_ne _ _ a4).trans (upd_self _ _ _), rfl, fun i b e => by simp at e, List.nodup_nil, hNS.symm⟩
structure BrI (T : Tr) (hs : List Int) (μ : MHeap) (t hh a1 a2 t2 da2 S2 N2 : Addr) (o : List Int) (rows : List (List (Int × Int))) (ends : List Int) (refs : List Addr) (σ : St) : Prop where
  B : Bfs T hs o rows ends
  v1 : σ.vars (Str.ofString "trie") = some (.ref t)
  v2 : σ.vars (Str.ofString "homes") = some (.ref hh)
  v3 : σ.vars (Str.ofString "made") = some (.ref t2)
  v4 : σ.vars (Str.ofString "places") = some (.ref a2)
  v5 : σ.vars (Str.ofString "order") = some (.ref a1)
  X : TrieAt σ.mu t2 da2 S2 N2 refs ⟨rows, ends⟩
  c1 : σ.mu a1 = some (.list (o.map MV.int))
  c2 : σ.mu a2 = some (.idict (embD (plOf o)))
  E : ∀ y p, μ y = some p → σ.mu y = some p
  hne : ∀ b ∈ refs, b ≠ a2
  hle : rows.length ≤ o.length
structure BrR (T : Tr) (hs : List Int) (μ : MHeap) (t hh a1 a2 t2 da2 S2 N2 sd : Addr) (nd : Nat) (rows : List (List (Int × Int))) (ends : List Int) (refs : List Addr) (R : List Int × List (Int × Int)) (rest o : List Int) (st : List (Int × Int)) (σ : St) : Prop where
  v1 : σ.vars (Str.ofString "trie") = some (.ref t)
  v2 : σ.vars (Str.ofString "homes") = some (.ref hh)
  v3 : σ.vars (Str.ofString "made") = some (.ref t2)
  v4 : σ.vars (Str.ofString "places") = some (.ref a2)
  v5 : σ.vars (Str.ofString "order") = some (.ref a1)
  v6 : σ.vars (Str.ofString "steps") = some (.ref sd)
  v7 : σ.vars (Str.ofString "node") = some (.int nd)
  hr : ∀ g ∈ rest, g ∈ (T.steps.getD nd []).map (·.1)
  go : goRow (rest.map fun g => (g, goalOf T hs nd g)) o st = R
  OO : OrdOk T.steps.length o
  sz : st.length + rest.length ≤ 100
  X : TrieAt σ.mu t2 da2 S2 N2 refs ⟨rows, ends⟩
  c1 : σ.mu a1 = some (.list (o.map MV.int))
  c2 : σ.mu a2 = some (.idict (embD (plOf o)))
  c3 : σ.mu sd = some (.idict (embD st))
  E : ∀ y p, μ y = some p → σ.mu y = some p
section
variable {prog : Program} {w : World} {c : Cx prog w} (hK : c.K = heapK w.params)
include hK
noncomputable def pBreadth : List MV → W0 := fun ds μ Q => ∃ t da S N refs T h hs, ds = [.ref t, .ref h] ∧ TrieAt μ t da S N refs T ∧ TrOk T ∧ μ h = some (.list (hs.map MV.int)) ∧ HomesOk T hs ∧ T.steps.length ≤ 60 ∧
  ∀ t' da' S' N' refs' o rows ends μ', Bfs T hs o rows ends → rows.length = o.length → TrieAt μ' t' da' S' N' refs' ⟨rows, ends⟩ → (∀ y o, μ y = some o → μ' y = some o) → Q (.ref t') μ'
theorem sp_in_breadth {k : Nat} : CodeN c (k + 3) (.ref 124) pBreadth := by
  refine' CodeN.mono (CodeN.fn (names := [Str.ofString "trie", Str.ofString "homes"]) (a := 124) ?ho ?hcd ?hb ?hbind ?hown ?hnd ?hfree ?hco ?hgen ?hk) ?fin
  case ho => rw [hK]; rfl
  case hcd => rw [hK]; rfl
  case hco => rfl
  case hgen => rfl
  case hk => rfl
  case hbind => intro vals hl; obtain ⟨a, b, rfl⟩ := len2 hl; rfl
  case hown => exact fn_own (by decide)
  case hnd => decide
  case hfree => exact fn_free (by decide)
  case hb =>
    exact (JSs.cons (JS.assign (JE.list (JEs.cons (fun _ _ => rfl) (JE.sub op_getL indexes_L (JE.nm "homes" _ (by decide)) (JE.int _ _ _) (fun _ _ => rfl)) JEs.nil)) (JA.nl rfl) (fun _ _ => rfl) (fun _ => rfl) (fun _ => rfl))
      (JSs.cons (JS.assign (JE.dict1 (JE.sub op_getL indexes_L (JE.nm "homes" _ (by decide)) (JE.int _ _ _) (fun _ _ => rfl)) (JE.int _ _ _)) (JA.nl rfl) (fun _ _ => rfl) (fun _ => rfl) (fun _ => rfl))
      (JSs.cons (JS.assign (JE.call (cl_Trie hK) rfl (op_Trie hK) JEs.nil) (JA.nl rfl) (fun _ _ => rfl) (fun _ => rfl) (fun _ => rfl))
      (JSs.cons (JS.assign (JE.tup (JEs.cons (fun _ _ => rfl) (JE.list JEs.nil) (JEs.cons (fun _ _ => rfl) (JE.list JEs.nil) JEs.nil))) (JA.tup (JAs.cons (fun _ _ => rfl) (JA.attr (JE.nm "made" _ (by decide))) (JAs.cons (fun _ _ => rfl) (JA.attr (JE.nm "made" _ (by decide))) JAs.nil))) (fun _ _ => rfl) (fun _ => rfl) (fun _ => (by unfold swappedStores; dsimp only; split <;> rfl)))
      (JSs.cons (JS.while (JT.cmp op_lt (JE.call (cl_len hK) rfl op_len (JEs.cons (fun _ _ => rfl) (JE.attr (JE.nm "made" _ (by decide)) (fun _ => by with_unfolding_all rfl)) JEs.nil)) (JE.call (cl_len hK) rfl op_len (JEs.cons (fun _ _ => rfl) (JE.nm "order" _ (by decide)) JEs.nil)) rfl)
      (JSs.cons (JS.assign (JE.sub op_getL indexes_L (JE.nm "order" _ (by decide)) (JE.call (cl_len hK) rfl op_len (JEs.cons (fun _ _ => rfl) (JE.attr (JE.nm "made" _ (by decide)) (fun _ => by with_unfolding_all rfl)) JEs.nil)) (fun _ _ => rfl)) (JA.nl rfl) (fun _ _ => rfl) (fun _ => rfl) (fun _ => rfl))
       (JSs.cons (JS.assign JE.dictI (JA.nl rfl) (fun _ _ => rfl) (fun _ => rfl) (fun _ => rfl))
       (JSs.cons (JS.for (JSrc.seq (JE.call (cl_sorted hK) rfl op_sortK (JEs.cons (fun _ _ => rfl) (JE.sub op_getL indexes_L (JE.attr (JE.nm "trie" _ (by decide)) (fun _ => by with_unfolding_all rfl)) (JE.nm "node" _ (by decide)) (fun _ _ => rfl)) JEs.nil))) (JA.nl rfl)
       (JSs.cons (JS.assign (JE.sub op_getL indexes_L (JE.nm "homes" _ (by decide)) (JE.sub op_getI indexes_I (JE.sub op_getL indexes_L (JE.attr (JE.nm "trie" _ (by decide)) (fun _ => by with_unfolding_all rfl)) (JE.nm "node" _ (by decide)) (fun _ _ => rfl)) (JE.nm "glyph" _ (by decide)) (fun _ _ => rfl)) (fun _ _ => rfl)) (JA.nl rfl) (fun _ _ => rfl) (fun _ => rfl) (fun _ => rfl))
        (JSs.cons (JS.ite (JT.cmp op_notInI (JE.nm "goal" _ (by decide)) (JE.nm "places" _ (by decide)) rfl)
        (JSs.cons (JS.assign (JE.call (cl_len hK) rfl op_len (JEs.cons (fun _ _ => rfl) (JE.nm "order" _ (by decide)) JEs.nil)) (JA.sub op_setI (JE.nm "places" _ (by decide)) (JE.nm "goal" _ (by decide))) (fun _ _ => rfl) (fun _ => rfl) (fun _ => rfl))
         (JSs.cons (JS.expr (jm_append (JE.nm "order" _ (by decide)) (JEs.cons (fun _ _ => rfl) (JE.nm "goal" _ (by decide)) JEs.nil) (fun _ => ⟨_, by with_unfolding_all rfl⟩)) (fun _ => rfl))
         JSs.nil))
        JSs.nil)
        (JSs.cons (JS.assign (JE.sub op_getI indexes_I (JE.nm "places" _ (by decide)) (JE.nm "goal" _ (by decide)) (fun _ _ => rfl)) (JA.sub op_setI (JE.nm "steps" _ (by decide)) (JE.nm "glyph" _ (by decide))) (fun _ _ => rfl) (fun _ => rfl) (fun _ => rfl))
        JSs.nil))) (fun _ _ => rfl))
       (JSs.cons (JS.expr (jm_append (JE.attr (JE.nm "made" _ (by decide)) (fun _ => by with_unfolding_all rfl)) (JEs.cons (fun _ _ => rfl) (JE.nm "steps" _ (by decide)) JEs.nil) (fun _ => ⟨_, by with_unfolding_all rfl⟩)) (fun _ => rfl))
       (JSs.cons (JS.expr (jm_append (JE.attr (JE.nm "made" _ (by decide)) (fun _ => by with_unfolding_all rfl)) (JEs.cons (fun _ _ => rfl) (JE.sub op_getL indexes_L (JE.attr (JE.nm "trie" _ (by decide)) (fun _ => by with_unfolding_all rfl)) (JE.nm "node" _ (by decide)) (fun _ _ => rfl)) JEs.nil) (fun _ => ⟨_, by with_unfolding_all rfl⟩)) (fun _ => rfl))
       JSs.nil))))))
      (JSs.cons (JS.ret (JE.nm "made" _ (by decide)))
      JSs.nil))))))
  case fin =>
    intro ds μ Q hz501
    refine el8_7 hz501 fun t da S N refs T hh hs eqz502 X O hhs H hN h => ?_
    clear hz501
    subst eqz502
    have g1 := get_steps hK
    have g2 := get_ends hK
    have s1 := set_steps hK
    have s2 := set_ends hK
    have l1 : hs.length ≤ 1000000 := by rw [H.len]; lia
    have hp0 : 0 < hs.length := by rw [H.len]; exact O.pos
    have l2 : (hs.map MV.int)[0]? = some (.int (hs.getD 0 0)) := by rw [List.getElem?_map, List.getElem?_eq_getElem hp0, getD_at hp0]; rfl
    show wFn _ _ _ _ _
    refine ⟨rfl, ?_⟩
    refine i_seq (s_list (rd_a (rd_2 (rd_var rfl) rd_lit (r2_getR hhs (by walk_at "ln") l2 (by walk_at "ln"))) rd_a0) (Nat.le_of_ble_eq_true rfl) ?_)
    intro a1 ha1
    have ha1 : μ a1 = none := ha1
    have n1 := ne_of_none ha1 hhs
    have n1' := n1.symm
    refine' i_next ?_
    refine i_seq (s_dict1 (rd_2 (rd_var rfl) rd_lit (r2_getR (m_pin hhs ha1) (by walk_at "ln") l2 (by walk_at "ln"))) rd_lit ?_)
    intro a2 ha2
    have n2 : a2 ≠ a1 ∧ μ a2 = none := upd_none ha2
    refine' i_next ?_
    refine i_seq (s_call rd_a0 ?_)
    have E0 : ∀ y o, μ y = some o → upd (upd μ a1 (MObj.list [MV.int (hs.getD 0 0)])) a2 (MObj.idict [(hs.getD 0 0, MV.int 0)]) y = some o := ext_upd (ext_upd (fun y o e => e) ha1) n2.2
    have b1 : upd (upd μ a1 (MObj.list [MV.int (hs.getD 0 0)])) a2 (MObj.idict [(hs.getD 0 0, MV.int 0)]) a1 = some (.list ([hs.getD 0 0].map MV.int)) := (upd_ne _ _ n2.1.symm).trans (upd_self _ _ _)
    have b2 : upd (upd μ a1 (MObj.list [MV.int (hs.getD 0 0)])) a2 (MObj.idict [(hs.getD 0 0, MV.int 0)]) a2 = some (.idict (embD (plOf [hs.getD 0 0]))) := upd_self _ _ _
    refine ⟨rfl, fun t2 da2 S0 N0 r0 M1 X1 hk1 f1 f2 f3 f4 f5 => ?_⟩
    refine' i_next ?_
    have E1 : ∀ y o, μ y = some o → M1 y = some o := fun y o e => hk1 y o (E0 y o e)
    have b1' := hk1 _ _ b1
    have b2' := hk1 _ _ b2
    have fr : μ da2 = none := (upd_none (upd_none f2).2).2
    refine i_seq (s_init2 (x := "made") (by exact v_same) X1.inst X1.attrs s1 s2 (by decide) X1.apart.1 fun S2 N2 hS2 hN2 hNS => ?_)
    dsimp only [setv_mu] at hS2 hN2 ⊢
    refine i_next ?_
    have p1 := ne_of_none hS2 b1'
    have p2 := ne_of_none hS2 b2'
    have p3 := ne_of_none hN2 b1'
    have p4 := ne_of_none hN2 b2'
    have p5 := ne_of_obj X1.attrs b1' nofun
    have p6 := ne_of_obj X1.attrs b2' nofun
    have p7 := ne_of_obj b1' X1.inst nofun
    have p8 := ne_of_obj b2' X1.inst nofun
    have p9 := ne_of_obj b1' b2' nofun
    have u1 : μ S2 = none := ext_none E1 hS2
    have u2 : μ N2 = none := ext_none E1 hN2
    have start := newTrie X1.inst X1.attrs X1.apart.1 hS2 hN2 hNS
    refine i_seq (wWhile_inv (fun j σ => ∃ o rows ends refs', BrI T hs μ t hh a1 a2 t2 da2 S2 N2 o rows ends refs' σ ∧ j + rows.length = T.steps.length) T.steps.length ?_ ?_)
    · refine ⟨[hs.getD 0 0], [], [], [], ⟨.start, ?_, ?_, ?_, ?_, ?_, start, (upd_ne _ _ p5.symm).trans ((upd_ne _ _ p3.symm).trans ((upd_ne _ _ p1.symm).trans b1')), (upd_ne _ _ p6.symm).trans ((upd_ne _ _ p4.symm).trans ((upd_ne _ _ p2.symm).trans b2')), ext_upd (ext_upd (ext_upd E1 u1) u2) fr, (fun b hb => nomatch hb), Nat.zero_le _⟩, rfl⟩
      · exact (v_mk (v_other (by decide) (v_mk (v_other (by decide) (v_mk (v_other (by decide) (v_mk v_par1)))))))
      · exact (v_mk (v_other (by decide) (v_mk (v_other (by decide) (v_mk (v_other (by decide) (v_mk (v_par2 (by decide) v_par1))))))))
      · exact (v_mk v_same)
      · exact (v_mk (v_other (by decide) (v_mk v_same)))
      · exact (v_mk (v_other (by decide) (v_mk (v_other (by decide) (v_mk v_same)))))
    intro j σ C hz503 hC _
    refine el4_2 hz503 fun o rows ends refs' I hj => ?_
    clear hz503
    have v3 := I.v3
    have v5 := I.v5
    have c1 := I.c1
    have X2 := I.X
    have i1 := X2.inst
    have i2 := X2.attrs
    have i3 := X2.steps
    have i4 : refs'.length = rows.length := X2.len
    have OL := (I.B.ok O H).1.len
    have hle := I.hle
    have l3 : refs'.length ≤ 1000000 := by lia
    have l4 : o.length ≤ 1000000 := by lia
    refine' rw_test (p := (refs'.length : Int) < o.length) ?s0 ?_ ?_
    case s0 => exact (rt_cmp (rd_N (rd_a (rd_attr (rd_var v3) i1 i2 g1 rfl) rd_a0) (rn_lenM i3 l3)) (rd_N (rd_a (rd_var v5) rd_a0) (rn_lenM c1 l4)) r2_cmp)
    · intro hlt
      refine i_next ?_
      refine i_seq (s_ret (rd_var v3) (i_retC ?_))
      exact h t2 da2 S2 N2 refs' o rows ends σ.mu I.B (by lia) X2 I.E
    intro hlt
    have hlt' : rows.length < o.length := by lia
    obtain ⟨nd, hnd, hndl⟩ : ∃ nd : Nat, o.getD rows.length 0 = (nd : Int) ∧ nd < T.steps.length := by
      have := (I.B.ok O H).1.rng (o[rows.length]) (List.getElem_mem hlt')
      rw [getD_at hlt']
      exact ⟨(o[rows.length]).toNat, by lia, by lia⟩
    have g3 : (o.map MV.int)[refs'.length]? = some (.int nd) := by rw [i4, List.getElem?_map, List.getElem?_eq_getElem hlt', ← getD_at (d := 0) hlt', hnd]; rfl
    refine i_seq (s_assign (rd_2 (rd_var v5) (rd_N (rd_a (rd_attr (rd_var v3) i1 i2 g1 rfl) rd_a0) (rn_lenM i3 l3)) (r2_getR c1 (by walk_at "ln") g3 (by walk_at "ln"))) (i_next ?_))
    refine i_seq (s_new ?_)
    intro sd hsd
    dsimp only [setv_mu] at hsd ⊢
    refine' i_next ?_
    refine el0_5 (X2.fresh hsd) fun q1 q2 q3 q4 q5 => ?_
    have q6 := ne_of_none hsd c1
    have q7 := ne_of_none hsd I.c2
    have q8 : μ sd = none := ext_none I.E hsd
    have ES := ext_upd (o := .idict []) I.E q8
    have XT := X.mono ES
    have j1 := XT.inst
    have j2 := XT.attrs
    have j3 := XT.steps
    refine el1_3 (XT.at hndl) fun da3 w6 w7 _ => ?_
    have w8 : (refs.map MV.ref)[nd]? = some (.ref da3) := by rw [List.getElem?_map, w6]; rfl
    have w10 : refs.length ≤ 1000000 := by have := X.len; lia
    have w11 := O.small _ (List.getElem_mem hndl)
    have w12 : (embD T.steps[nd]).length < 64 := by rw [embD, List.length_map]; lia
    have v1 := I.v1
    refine i_seq (s_for (ri_F (rd_N (rd_a (rd_2 (rd_attr (rd_var v1) j1 j2 g1 rfl) (rd_var rfl) (r2_getR j3 (by walk_at "ln") w8 (by walk_at "ln"))) rd_a0) (rn_sortK w7 w12))) ?_)
    have ek : (embD T.steps[nd]).map (·.1) = (T.steps.getD nd []).map (·.1) := by rw [getD_at hndl]; exact keys_embD _
    rw [ek]
    refine wLoop_inv (fun l σ => ∃ (rest o' : List Int) (st : List (Int × Int)), l = rest.map MV.int ∧ BrR T hs μ t hh a1 a2 t2 da2 S2 N2 sd nd rows ends refs' (goRow (rowOf T hs nd) o []) rest o' st σ) ?_ ?_ ?_
    · intro σ hz3
      refine el3_2 hz3 fun rest o' st e1 R => ?_; clear hz3
      obtain rfl := List.map_eq_nil_iff.mp e1.symm
      clear e1
      have u3 := R.v3
      have u6 := R.v6
      have u7 := R.v7
      have u1' := R.v1
      have XP0 := R.X
      have i1 := XP0.inst
      have i2 := XP0.attrs
      have i3 := XP0.steps
      have l6 : (refs'.map MV.ref).length ≤ 1000000 := by rw [List.length_map]; exact l3
      refine ⟨trivial, i_next ?_⟩
      refine i_seq (s_append (rd_attr (rd_var u3) i1 i2 g1 rfl) i3 (rd_var u6) l6 (i_next ?_))
      have eM : (refs'.map MV.ref ++ [MV.ref sd]) = (refs' ++ [sd]).map MV.ref := by rw [List.map_append]; rfl
      rw [eM]
      have z2 := ne_of_obj i3 R.c2 nofun
      have XP := XP0.push' q5 R.c3
      have E' := ext_upd (o := .list ((refs' ++ [sd]).map MV.ref)) R.E u1
      have XT' := X.mono E'
      have k1 := XP.inst
      have k2 := XP.attrs
      have k4 := XP.ends
      have k6 := XT'.inst
      have k7 := XT'.attrs
      have k8 := XT'.ends
      have l7 : (T.ends.map MV.int).length ≤ 1000000 := by rw [List.length_map, O.ends]; lia
      have l8 : nd < T.ends.length := by rw [O.ends]; exact hndl
      have l9 : (ends.map MV.int).length ≤ 1000000 := by
        have := (I.B.ok O H).2
        rw [List.length_map]; lia
      have g4 : (T.ends.map MV.int)[nd]? = some (.int (T.ends.getD nd 0)) := by rw [List.getElem?_map, List.getElem?_eq_getElem l8, getD_at l8]; rfl
      refine i_seq (s_append (rd_attr (rd_var u3) k1 k2 g2 rfl) k4 (rd_2 (rd_attr (rd_var u1') k6 k7 g2 rfl) (rd_var u7) (r2_getR k8 (by walk_at "ln") g4 l7)) l9 (i_next ?_))
      have eM2 : (ends.map MV.int ++ [MV.int (T.ends.getD nd 0)]) = (ends ++ [T.ends.getD nd 0]).map MV.int := by rw [List.map_append]; rfl
      rw [eM2]
      have XQ := XP.setEnds (ends ++ [T.ends.getD nd 0])
      have hB := I.B.step hlt'
      rw [hnd] at hB
      have hgo2 : goRow (rowOf T hs nd) o [] = (o', st) := R.go.symm
      have hB' : Bfs T hs o' (rows ++ [st]) (ends ++ [T.ends.getD nd 0]) := by
        have : goRow (rowOf T hs (nd : Int).toNat) o [] = (o', st) := hgo2
        rw [this] at hB; exact hB
      have hmo : o.length ≤ o'.length := by
        have := goRow_mono (rowOf T hs nd) o []
        rw [hgo2] at this; exact this
      refine i_nil (hC (j - 1) _ (by lia) ⟨o', rows ++ [st], ends ++ [T.ends.getD nd 0], refs' ++ [sd], ⟨hB', R.v1, R.v2, R.v3, R.v4, R.v5, XQ, (upd_ne _ _ p3.symm).trans ((upd_ne _ _ p1.symm).trans R.c1), (upd_ne _ _ (ne_of_obj R.c2 XP0.ends nofun)).trans ((upd_ne _ _ z2.symm).trans R.c2), ext_upd E' u2, ?_, ?_⟩, ?_⟩)
      · intro b hb
        rcases List.mem_append.mp hb with m | m
        · exact I.hne b m
        · rw [List.mem_singleton.mp m]; exact q7
      · rw [List.length_append, List.length_singleton]; lia
      · rw [List.length_append, List.length_singleton]; lia
    · intro d l σ C' hz504 hC' _
      refine el3_2 hz504 fun rest o' st e1 R => ?_
      clear hz504
      cases rest with
      | nil => cases e1
      | cons g rest =>
      obtain ⟨rfl, rfl⟩ := List.cons.inj e1
      clear e1
      refine ⟨trivial, i_setv ?_⟩
      show wSeq _ _ _ _
      have u1' := R.v1
      have u2' := R.v2
      have u4 := R.v4
      have u5 := R.v5
      have u6 := R.v6
      have u7 := R.v7
      have d1 := R.c1
      have d2 := R.c2
      have d3 := R.c3
      have XT' := X.mono R.E
      have i6 := XT'.inst
      have i7 := XT'.attrs
      have i8 := XT'.steps
      have i9 := R.E _ _ hhs
      refine el1_3 (XT'.at hndl) fun da4 x6 x7 _ => ?_
      have x8 : (refs.map MV.ref)[nd]? = some (.ref da4) := by rw [List.getElem?_map, x6]; rfl
      have hgk := R.hr g List.mem_cons_self
      obtain ⟨jj, hjj'⟩ := dgi_some hgk
      have hjj : dgi T.steps[nd] g = some jj := by rw [← getD_at (d := []) hndl]; exact hjj'
      have hch := O.child _ (List.getElem_mem hndl) _ (dgi_mem hjj)
      have hch1 : 0 ≤ jj := hch.1
      have hch2 : jj < T.steps.length := hch.2
      have w14 : dget (embD T.steps[nd]) g = some (.int jj) := by rw [dget_embD, hjj]; rfl
      have hjl : jj.toNat < hs.length := by rw [H.len]; lia
      have eg : goalOf T hs nd g = hs.getD jj.toNat 0 := by unfold goalOf; rw [hjj']; rfl
      have w15 : (hs.map MV.int)[jj.toNat]? = some (.int (goalOf T hs nd g)) := by rw [List.getElem?_map, List.getElem?_eq_getElem hjl, eg, getD_at hjl]; rfl
      have w17 : (refs.map MV.ref).length ≤ 1000000 := by rw [List.length_map]; exact w10
      have l1' : (hs.map MV.int).length ≤ 1000000 := by rw [List.length_map]; exact l1
      have hgr : 0 ≤ goalOf T hs nd g ∧ goalOf T hs nd g < T.steps.length := by rw [eg]; exact H.at (by rw [← H.len]; exact hjl)
      have hsz := R.sz
      rw [List.length_cons] at hsz
      have OL' := R.OO.len
      have w18 : o'.length ≤ 1000000 := by lia
      have w18' : (o'.map MV.int).length ≤ 1000000 := by rw [List.length_map]; exact w18
      have w19 : (embD (plOf o')).length ≤ 1000000 := by rw [embD, List.length_map, plOf_len]; exact w18
      have w20 : (embD st).length ≤ 1000000 := by rw [embD, List.length_map]; lia
      have hgo := R.go
      rw [List.map_cons, goRow] at hgo
      clear eg
      refine i_seq (s_assign (rd_2 (rd_var u2') (rd_2 (rd_2 (rd_attr (rd_var u1') i6 i7 g1 rfl) (rd_var u7) (r2_getR i8 (by walk_at "ln") x8 w17)) (rd_var rfl) (r2_getI x7 w14)) (r2_getR i9 hch1 w15 l1')) (i_next ?_))
      have hdg := dget_embD (plOf o') (goalOf T hs nd g)
      have hsz2 : ∀ ix, (dsi st g ix).length + rest.length ≤ 100 := fun ix => by
        have : (dsi st g ix).length ≤ st.length + 1 := by unfold dsi; split <;> simp
        lia
      have hr' := fun x hx => R.hr x (List.mem_cons_of_mem _ hx)
      by_cases hin : goalOf T hs nd g ∈ o'
      · refine el1_3 (plOf_some hin) fun ix hix hixl hixe => ?_
        rw [hix] at hdg
        have hdg' : dget (embD (plOf o')) (goalOf T hs nd g) = some (.int ix) := hdg
        refine i_seq (s_condF (rt_cmp (rd_var rfl) (rd_var u4) (r2_niIy d2 hdg')) ?_)
        with_reducible refine i_nil (i_next ?_)
        refine i_seq (s_store (rd_2 (rd_var u4) (rd_var rfl) (r2_getI d2 hdg')) (rd_var u6) (rd_var rfl) (rs_I d3 w20) (i_next ?_))
        rw [dset_dsi]
        simp only [if_pos hin, hix, Option.getD_some] at hgo
        refine i_nil (hC' _ ⟨rest, o', dsi st g ix, rfl, ?_, ?_, ?_, ?_, ?_, ?_, ?_, hr', hgo, R.OO, hsz2 _, R.X.other _ q1 q2 q3 q4 q5, (upd_ne _ _ q6.symm).trans d1, (upd_ne _ _ q7.symm).trans d2, upd_self _ _ _, ext_upd R.E q8⟩)
        · exact u1'
        · exact u2'
        · have u3 := R.v3
          exact u3
        · exact u4
        · exact u5
        · exact u6
        · exact u7
      · have hnone := plOf_none hin
        rw [hnone] at hdg
        have hdg' : dget (embD (plOf o')) (goalOf T hs nd g) = none := hdg
        refine i_seq (s_condT (rt_cmp (rd_var rfl) (rd_var u4) (r2_niIn d2 hdg')) ?_)
        refine i_seq (s_store (rd_N (rd_a (rd_var u5) rd_a0) (rn_lenM d1 w18)) (rd_var u4) (rd_var rfl) (rs_I d2 w19) (i_next ?_))
        rw [dset_dsi, dsi_new hnone, ← plOf_snoc]
        have A1 : a1 ≠ a2 := p9
        have A2 : a2 ≠ a1 := p9.symm
        refine i_seq (s_append (rd_var u5) (Eq.trans (upd_ne _ _ A1) d1) (rd_var rfl) w18' (i_next ?_))
        have eMl : o'.map MV.int ++ [MV.int (goalOf T hs nd g)] = (o' ++ [goalOf T hs nd g]).map MV.int := by rw [List.map_append]; rfl
        rw [eMl]
        with_reducible refine i_nil (i_next ?_)
        refine el1_3 (plOf_some (o := o' ++ [goalOf T hs nd g]) (x := goalOf T hs nd g) (by simp)) fun ix hix hixl hixe => ?_
        have hdg2 := dget_embD (plOf (o' ++ [goalOf T hs nd g])) (goalOf T hs nd g)
        rw [hix] at hdg2
        have hdg3 : dget (embD (plOf (o' ++ [goalOf T hs nd g]))) (goalOf T hs nd g) = some (.int ix) := hdg2
        refine i_seq (s_store (rd_2 (rd_var u4) (rd_var rfl) (r2_getI (Eq.trans (upd_ne _ _ A2) (upd_self _ _ _)) hdg3)) (rd_var u6) (rd_var rfl) (rs_I (Eq.trans (upd_ne _ _ q6) (Eq.trans (upd_ne _ _ q7) d3)) w20) (i_next ?_))
        rw [dset_dsi]
        simp only [if_neg hin, hix, Option.getD_some] at hgo
        refine i_nil (hC' _ ⟨rest, o' ++ [goalOf T hs nd g], dsi st g ix, rfl, ?_, ?_, ?_, ?_, ?_, ?_, ?_, hr', hgo, R.OO.add hgr hin, hsz2 _, ?_, ?_, ?_, upd_self _ _ _, ext_upd (ext_upd (ext_upd R.E n2.2) ha1) q8⟩)
        · exact u1'
        · exact u2'
        · have u3 := R.v3
          exact u3
        · exact u4
        · exact u5
        · exact u6
        · exact u7
        · refine ((R.X.other _ p8 p6.symm p2.symm p4.symm (fun m => I.hne _ m rfl)).other _ p7 p5.symm p1.symm p3.symm (fun m => ?_)).other _ q1 q2 q3 q4 q5
          obtain ⟨dd, hdd⟩ := R.X.isDict m
          rw [d1] at hdd; cases hdd
        · exact (upd_ne _ _ q6.symm).trans (upd_self _ _ _)
        · exact (upd_ne _ _ q7.symm).trans ((upd_ne _ _ A2).trans (upd_self _ _ _))
    · refine ⟨_, o, [], rfl, ?_, ?_, ?_, ?_, ?_, ?_, ?_, fun g hg => (srt_perm _ _).mem_iff.mp hg, rfl, (I.B.ok O H).1, ?_, X2.other _ q1 q2 q3 q4 q5, (upd_ne _ _ q6.symm).trans c1, (upd_ne _ _ q7.symm).trans I.c2, upd_self _ _ _, ES⟩
      · exact v1
      · have v2 := I.v2
        exact v2
      · exact v3
      · have v4 := I.v4
        exact v4
      · exact v5
      · exact v_same
      · exact (v_other (by decide) (v_mk v_same))
      · rw [(srt_perm _ _).length_eq, getD_at hndl, List.length_map, List.length_nil]; lia
end
end Mine
namespace Mine
open Classical
noncomputable def rowMV (r : List (Int × Int)) : List MV := r.map fun p => .tup [.int p.1, .int p.2]
noncomputable def keyOf (T : Tr) (hs : List Int) (n : Nat) : List MV := [.int (T.ends.getD n 0), .tup (rowMV (rowOf T hs n))]
theorem rowMV_inj {r r' : List (Int × Int)} (h : rowMV r = rowMV r') : r = r' := by
  refine (List.map_inj_right fun a b e => ?_).mp h
  injection e with e
  injection e with e1 e2
  injection e2 with e2 _
  injection e1 with e1
  injection e2 with e2
  exact Prod.ext e1 e2
theorem keyOf_eq {T : Tr} {hs hs' : List Int} {n m : Nat} : keyOf T hs n = keyOf T hs' m ↔ T.ends.getD n 0 = T.ends.getD m 0 ∧ rowOf T hs n = rowOf T hs' m := by
  unfold keyOf
  constructor
  · intro h
    injection h with h1 h2
    injection h2 with h2 _
    injection h1 with h1
    injection h2 with h2
    exact ⟨h1, rowMV_inj h2⟩
  · rintro ⟨a, b⟩; rw [a, b]
theorem keys_rowMV : ∀ r : List (Int × Int), keys 4 (rowMV r) = true
  | [] => rfl
  | p :: r => by
    show (MV.key 4 (.tup [.int p.1, .int p.2]) && keys 4 (rowMV r)) = true
    rw [keys_rowMV r]; rfl
theorem keys_keyOf (T : Tr) (hs : List Int) (n : Nat) : keys 5 (keyOf T hs n) = true := by
  unfold keyOf
  show (MV.key 5 (.int _) && (MV.key 5 (.tup (rowMV (rowOf T hs n))) && true)) = true
  have := keys_rowMV (rowOf T hs n)
  simp [MV.key, this]
noncomputable def Asc (T : Tr) : Prop := ∀ (n : Nat) (h : n < T.steps.length), ∀ p ∈ T.steps[n], (n : Int) < p.2
theorem rowOf_congr {T : Tr} (A : Asc T) {hs hs' : List Int} {n : Nat} (hn : n < T.steps.length) (h : ∀ m, n < m → hs.getD m 0 = hs'.getD m 0) : rowOf T hs n = rowOf T hs' n := by
  unfold rowOf
  refine List.map_congr_left fun g hg => ?_
  have hg' : g ∈ (T.steps.getD n []).map (·.1) := (srt_perm _ _).mem_iff.mp hg
  obtain ⟨j, hj⟩ := dgi_some hg'
  have hj' := hj
  rw [getD_at hn] at hj
  have := A n hn _ (dgi_mem hj)
  dsimp only at this
  rw [hj']
  simp only [Option.getD_some]
  rw [h j.toNat (by lia)]
theorem keyOf_congr {T : Tr} (A : Asc T) {hs hs' : List Int} {n : Nat} (hn : n < T.steps.length) (h : ∀ m, n < m → hs.getD m 0 = hs'.getD m 0) : keyOf T hs n = keyOf T hs' n := by
  unfold keyOf; rw [rowOf_congr A hn h]
theorem getD_set_ne {l : List Int} {n m : Nat} {x : Int} (h : n ≠ m) : (l.set n x).getD m 0 = l.getD m 0 := by
  rw [List.getD_eq_getElem?_getD, List.getD_eq_getElem?_getD, List.getElem?_set_ne h]
theorem getD_set_self {l : List Int} {n : Nat} {x : Int} (h : n < l.length) : (l.set n x).getD n 0 = x := by
  rw [List.getD_eq_getElem?_getD, List.getElem?_set_self h]; rfl
structure HInv (T : Tr) (n : Nat) (hs : List Int) (es : List (List MV × MV)) : Prop where
  len : hs.length = T.steps.length
  rng : ∀ x ∈ hs, 0 ≤ x ∧ x < T.steps.length
  got : ∀ m, n ≤ m → m < T.steps.length → dget es (keyOf T hs m) = some (.int (hs.getD m 0))
  of : ∀ ks v, dget es ks = some v → ∃ m, n ≤ m ∧ m < T.steps.length ∧ ks = keyOf T hs m ∧ v = .int (m : Nat) ∧ hs.getD m 0 = (m : Nat)
  sz : es.length + n ≤ T.steps.length
theorem HInv.start {T : Tr} (O : TrOk T) : HInv T T.steps.length (List.replicate T.steps.length 0) [] :=
  ⟨by simp, fun x hx => by
    have := O.pos
    rw [(List.mem_replicate.mp hx).2]; lia, fun m a b => by lia, fun ks v e => by simp [dget] at e, by simp⟩
theorem mem_set_or {l : List Int} {n : Nat} {x y : Int} (h : y ∈ l.set n x) : y ∈ l ∨ y = x := List.mem_or_eq_of_mem_set h
theorem dget_dset_self {K : Type} [DecidableEq K] (es : List (K × MV)) (k : K) (v : MV) : dget (dset es k v) k = some v := by
  unfold dset
  split
  · rename_i h
    induction es with
    | nil => simp at h
    | cons p es ih =>
      unfold dget at ih ⊢
      by_cases q : p.1 = k
      · simp [q]
      · simp only [List.map_cons, q, if_false, List.find?_cons, decide_false]
        refine ih ?_
        simpa [q] using h
  · rename_i h
    unfold dget
    rw [List.find?_append]
    have : es.find? (fun e => decide (e.1 = k)) = none := by
      rw [List.find?_eq_none]
      intro x hx e
      exact h (List.any_eq_true.mpr ⟨x, hx, e⟩)
    rw [this]; simp
theorem dget_dset_ne {K : Type} [DecidableEq K] (es : List (K × MV)) {k k' : K} (v : MV) (hk : k' ≠ k) : dget (dset es k v) k' = dget es k' := by
  unfold dset
  split
  · rename_i h0
    clear h0
    induction es with
    | nil => rfl
    | cons p es ih =>
      unfold dget at ih ⊢
      by_cases q : p.1 = k
      · have : p.1 ≠ k' := fun e => hk (e.symm.trans q)
        simp only [List.map_cons, q, if_true, List.find?_cons]
        simp only [Ne.symm hk, decide_false]
        exact ih
      · simp only [List.map_cons, q, if_false, List.find?_cons]
        by_cases q2 : p.1 = k'
        · simp [q2]
        · simp only [q2, decide_false]; exact ih
  · unfold dget
    rw [List.find?_append]
    cases es.find? (fun e => decide (e.1 = k')) with
    | some p => simp
    | none => simp [Ne.symm hk]
theorem dset_len {K : Type} [DecidableEq K] (es : List (K × MV)) (k : K) (v : MV) : (dset es k v).length ≤ es.length + 1 := by
  unfold dset; split <;> simp
theorem HInv.old {T : Tr} (A : Asc T) {n : Nat} {hs : List Int} {es : List (List MV × MV)} (I : HInv T (n + 1) hs es) (hn : n < T.steps.length) {v : MV} (h : dget es (keyOf T hs n) = some v) : ∃ m : Nat, v = .int m ∧ HInv T n (hs.set n m) es := by
  refine el1_5 (I.of _ _ h) fun m h1 h2 h3 eqz1 h5 => ?_
  subst eqz1
  have hc : ∀ j, n ≤ j → j < T.steps.length → keyOf T (hs.set n (m : Int)) j = keyOf T hs j := fun j a b => keyOf_congr A b fun i hi => getD_set_ne (by lia)
  refine ⟨m, rfl, by simpa using I.len, fun x hx => ?_, fun j a b => ?_, fun ks v e => ?_, by have := I.sz; lia⟩
  · rcases mem_set_or hx with q | q
    · exact I.rng x q
    · rw [q]; lia
  · rw [hc j a b]
    by_cases q : j = n
    · subst q
      rw [h, getD_set_self (by rw [I.len]; exact hn)]
    · rw [getD_set_ne (Ne.symm q)]; exact I.got j (by lia) b
  · refine el1_5 (I.of ks v e) fun j a b d eqz2 f => ?_
    subst eqz2
    exact ⟨j, by lia, b, by rw [hc j (by lia) b]; exact d, rfl, by rw [getD_set_ne (by lia)]; exact f⟩
theorem HInv.new {T : Tr} (A : Asc T) {n : Nat} {hs : List Int} {es : List (List MV × MV)} (I : HInv T (n + 1) hs es) (hn : n < T.steps.length) (h : dget es (keyOf T hs n) = none) : HInv T n (hs.set n n) (dset es (keyOf T hs n) (.int n)) := by
  have hc : ∀ j, n ≤ j → j < T.steps.length → keyOf T (hs.set n (n : Int)) j = keyOf T hs j := fun j a b => keyOf_congr A b fun i hi => getD_set_ne (by lia)
  have hs' : (hs.set n (n : Int)).getD n 0 = n := getD_set_self (by rw [I.len]; exact hn)
  refine ⟨by simpa using I.len, fun x hx => ?_, fun j a b => ?_, fun ks v e => ?_, ?_⟩
  · rcases mem_set_or hx with q | q
    · exact I.rng x q
    · rw [q]; lia
  · rw [hc j a b]
    by_cases q : j = n
    · subst q
      rw [dget_dset_self, hs']
    · have hg := I.got j (by lia) b
      have : keyOf T hs j ≠ keyOf T hs n := fun e => by rw [e, h] at hg; cases hg
      rw [dget_dset_ne _ _ this, getD_set_ne (Ne.symm q)]; exact hg
  · by_cases q : ks = keyOf T hs n
    · subst q
      rw [dget_dset_self] at e
      cases e
      exact ⟨n, Nat.le_refl _, hn, (hc n (Nat.le_refl _) hn).symm, rfl, hs'⟩
    · rw [dget_dset_ne _ _ q] at e
      refine el1_5 (I.of ks v e) fun j a b d eqz3 f => ?_
      subst eqz3
      exact ⟨j, by lia, b, by rw [hc j (by lia) b]; exact d, rfl, by rw [getD_set_ne (by lia)]; exact f⟩
  · have := dset_len es (keyOf T hs n) (.int n)
    have := I.sz
    lia
noncomputable def downL : Nat → List MV
  | 0 => []
  | n + 1 => .int n :: downL n
theorem rngL_down (n : Nat) : ∀ a : Int, a = (n : Int) - 1 → rngL a (-1) n = downL n := by
  induction n with
  | zero => intro a e; rfl
  | succ n ih =>
    intro a e
    have := ih (a - 1) (by lia)
    unfold rngL at this ⊢
    rw [List.range_succ_eq_map, List.map_cons, List.map_map, downL, ← this]
    refine congr (congrArg List.cons ?_) (List.map_congr_left fun i _ => ?_)
    · rw [e]; simp
    · simp only [Function.comp]
      congr 1
      rw [Int.natCast_succ]; lia
theorem s_mulL {W1 W2 : WE} {σ : St} {d : MV} {Q : Fl → St → Prop} {n : Int} {x : Str} (h1 : Rd W1 σ (.flist [d])) (h2 : Rd W2 σ (.int n)) (h0 : 0 ≤ n) (z : n ≤ 1000000) (k : ∀ a, σ.mu a = none → Q .next (St.setv { σ with mu := upd σ.mu a (.list (List.replicate n.toNat d)) } x (.ref a))) : wAssign (w2 pMulL W1 W2) (wSetv x) σ Q := h1 _ (h2 _ ⟨d, n, rfl, rfl, h0, z, k⟩)
theorem rn_count {μ : MHeap} {t da S N : Addr} {refs : List Addr} {T : Tr} (X : TrieAt μ t da S N refs T) (z : T.steps.length ≤ 1000) : RdN pCount [.ref t] μ (.int T.steps.length) := fun _ q => ⟨t, da, S, N, refs, T, rfl, X, z, q⟩
structure LtI (T : Tr) (μ : MHeap) (t da S N a kd : Addr) (refs : List Addr) (n : Nat) (hs : List Int) (es : List (List MV × MV)) (σ : St) : Prop where
  le : n ≤ T.steps.length
  v1 : σ.vars (Str.ofString "trie") = some (.ref t)
  v2 : σ.vars (Str.ofString "homes") = some (.ref a)
  v3 : σ.vars (Str.ofString "known") = some (.ref kd)
  I : HInv T n hs es
  X : TrieAt σ.mu t da S N refs T
  d1 : σ.mu a = some (.list (hs.map MV.int))
  d2 : σ.mu kd = some (.tdict es)
  E : ∀ y p, μ y = some p → σ.mu y = some p
section
variable {prog : Program} {w : World} {c : Cx prog w} (hK : c.K = heapK w.params)
include hK
noncomputable def pLeast : List MV → W0 := fun ds μ Q => ∃ t da S N refs T, ds = [.ref t] ∧ TrieAt μ t da S N refs T ∧ TrOk T ∧ Asc T ∧ T.steps.length ≤ 60 ∧
  ∀ t' da' S' N' refs' hs es o rows ends μ', HInv T 0 hs es → Bfs T hs o rows ends → rows.length = o.length → TrieAt μ' t' da' S' N' refs' ⟨rows, ends⟩ → (∀ y o, μ y = some o → μ' y = some o) → Q (.ref t') μ'
theorem sp_least_trie {k : Nat} : CodeN c (k + 4) (.ref 117) pLeast := by
  refine' CodeN.mono (CodeN.fn (names := [Str.ofString "trie"]) (a := 117) ?ho ?hcd ?hb ?hbind ?hown ?hnd ?hfree ?hco ?hgen ?hk) ?fin
  case ho => rw [hK]; rfl
  case hcd => rw [hK]; rfl
  case hco => rfl
  case hgen => rfl
  case hk => rfl
  case hbind => intro vals hl; obtain ⟨a, rfl⟩ := len1 hl; rfl
  case hown => exact fn_own (by decide)
  case hnd => decide
  case hfree => exact fn_free (by decide)
  case hb =>
    exact (JSs.cons (JS.assign (JE.binop op_mulL (JE.flist (JEs.cons (fun _ _ => rfl) (JE.int _ _ _) JEs.nil)) (JE.meth (JE.nm "trie" _ (by decide)) JEs.nil (sp_count hK).op (fun _ => ⟨_, by with_unfolding_all rfl⟩))) (JA.nc rfl) (fun _ _ => rfl) (fun _ => rfl) (fun _ => rfl))
      (JSs.cons (JS.assign JE.dictT (JA.nl rfl) (fun _ _ => rfl) (fun _ => rfl) (fun _ => rfl))
      (JSs.cons (JS.for (JSrc.range (cl_range hK) rfl (JEs.cons (fun _ _ => rfl) (JE.binop op_sub (JE.meth (JE.nm "trie" _ (by decide)) JEs.nil (sp_count hK).op (fun _ => ⟨_, by with_unfolding_all rfl⟩)) (JE.int _ _ _)) (JEs.cons (fun _ _ => rfl) (JE.neg (JE.int _ _ _)) (JEs.cons (fun _ _ => rfl) (JE.neg (JE.int _ _ _)) JEs.nil)))) (JA.nc rfl)
      (JSs.cons (JS.assign (JE.call (cl_tuple hK) rfl op_tuple (JEs.cons (fun _ _ => rfl) (JE.comp' (compOk rfl (by decide) (by decide)) (JSrc.seq (JE.call (cl_sorted hK) rfl op_sortK (JEs.cons (fun _ _ => rfl) (JE.sub op_getL indexes_L (JE.attr (JE.nm "trie" _ (by decide)) (fun _ => by with_unfolding_all rfl)) (JE.nm "node" _ (by decide)) (fun _ _ => rfl)) JEs.nil))) (fun _ _ => rfl) (JA.nl rfl) JTs.nil JGens.nil (JE.tup (JEs.cons (fun _ _ => rfl) (JE.nm "glyph" _ (by decide)) (JEs.cons (fun _ _ => rfl) (JE.sub op_getL indexes_L (JE.nm "homes" _ (by decide)) (JE.sub op_getI indexes_I (JE.sub op_getL indexes_L (JE.attr (JE.nm "trie" _ (by decide)) (fun _ => by with_unfolding_all rfl)) (JE.nm "node" _ (by decide)) (fun _ _ => rfl)) (JE.nm "glyph" _ (by decide)) (fun _ _ => rfl)) (fun _ _ => rfl)) JEs.nil)))) JEs.nil)) (JA.nl rfl) (fun _ _ => rfl) (fun _ => rfl) (fun _ => rfl))
       (JSs.cons (JS.assign (JE.tup (JEs.cons (fun _ _ => rfl) (JE.sub op_getL indexes_L (JE.attr (JE.nm "trie" _ (by decide)) (fun _ => by with_unfolding_all rfl)) (JE.nm "node" _ (by decide)) (fun _ _ => rfl)) (JEs.cons (fun _ _ => rfl) (JE.nm "steps" _ (by decide)) JEs.nil))) (JA.nl rfl) (fun _ _ => rfl) (fun _ => rfl) (fun _ => rfl))
       (JSs.cons (JS.ite (JT.cmp op_notInT (JE.nm "key" _ (by decide)) (JE.nm "known" _ (by decide)) rfl)
       (JSs.cons (JS.assign (JE.nm "node" _ (by decide)) (JA.sub op_setT (JE.nm "known" _ (by decide)) (JE.nm "key" _ (by decide))) (fun _ _ => rfl) (fun _ => rfl) (fun _ => rfl))
        JSs.nil)
       JSs.nil)
       (JSs.cons (JS.assign (JE.sub op_getT indexes_T (JE.nm "known" _ (by decide)) (JE.nm "key" _ (by decide)) (fun _ _ => rfl)) (JA.sub op_setL (JE.nm "homes" _ (by decide)) (JE.nm "node" _ (by decide))) (fun _ _ => rfl) (fun _ => rfl) (fun _ => rfl))
       JSs.nil)))) (fun _ _ => rfl))
      (JSs.cons (JS.ret (JE.call (cl_in_breadth hK) rfl (sp_in_breadth hK).op (JEs.cons (fun _ _ => rfl) (JE.nm "trie" _ (by decide)) (JEs.cons (fun _ _ => rfl) (JE.nm "homes" _ (by decide)) JEs.nil))))
      JSs.nil))))
  case fin =>
    intro ds μ Q hz4
    refine el6_6 hz4 fun t da S N refs T eqz5 X O As hN h => ?_; clear hz4
    subst eqz5
    have g1 := get_steps hK
    have g2 := get_ends hK
    have m1 := meth_count hK
    have i1 := X.inst
    have i2 := X.attrs
    have z6 : T.steps.length ≤ 1000 := by lia
    have hpos := O.pos
    have rc := rn_count X z6
    show wFn _ _ _ _ _
    refine' ⟨rfl, i_seq (s_mulL (n := T.steps.length) ?s0 ?s1 (by lia) (by lia) fun a ha => ?_)⟩
    case s0 => exact (rd_flist (rd_a rd_lit rd_a0) (Nat.le_of_ble_eq_true rfl))
    case s1 => exact (rd_meth (rd_var rfl) i1 i2 m1 rfl rd_a0 rc)
    dsimp only [Int.toNat_natCast]
    have ha : μ a = none := ha
    refine el0_5 (X.fresh ha) fun ht1 ht2 ht3 ht4 ht5 => ?_
    refine i_next ?_
    refine i_seq (s_new ?_)
    intro kd hkd
    obtain ⟨hka, hk2⟩ := upd_none hkd
    refine el0_5 (X.fresh hk2) fun hq1 hq2 hq3 hq4 hq5 => ?_
    refine i_next ?_
    have X1 : TrieAt (upd (upd μ a (MObj.list (List.replicate T.steps.length (MV.int 0)))) kd (MObj.tdict [])) t da S N refs T := (X.other _ ht1 ht2 ht3 ht4 ht5).other _ hq1 hq2 hq3 hq4 hq5
    have E1 : ∀ y p, μ y = some p → upd (upd μ a (MObj.list (List.replicate T.steps.length (MV.int 0)))) kd (MObj.tdict []) y = some p := ext_upd (ext_upd (fun y p e => e) ha) hk2
    have c1 : upd (upd μ a (MObj.list (List.replicate T.steps.length (MV.int 0)))) kd (MObj.tdict []) a = some (.list ((List.replicate T.steps.length (0 : Int)).map MV.int)) := by
      rw [upd_ne _ _ hka.symm, upd_self, List.map_replicate]
    have c2 : upd (upd μ a (MObj.list (List.replicate T.steps.length (MV.int 0)))) kd (MObj.tdict []) kd = some (.tdict []) := upd_self _ _ _
    dsimp only [setv_mu] at X1 E1 c1 c2 ⊢
    generalize upd (upd μ a (MObj.list (List.replicate T.steps.length (MV.int 0)))) kd (MObj.tdict []) = M1 at X1 E1 c1 c2 ⊢
    have j1 := X1.inst
    have j2 := X1.attrs
    have rc := rn_count X1 z6
    refine i_seq (s_for (ri_3 (rd_a (rd_2 (rd_meth (rd_var rfl) j1 j2 m1 rfl rd_a0 rc) rd_lit (r2_int trivial)) (rd_a (rd_neg rd_lit) (rd_a (rd_neg rd_lit) rd_a0))) (by walk_at "ln") (Nat.le_of_ble_eq_true rfl)) ?_)
    have hN2 : ((T.steps.length : Int) - 1 - -1).toNat = T.steps.length := by lia
    rw [hN2, rngL_down _ _ rfl]
    clear rc j1 j2
    refine wLoop_inv (fun l σ => ∃ n hs es, l = downL n ∧ LtI T μ t da S N a kd refs n hs es σ) ?_ ?_ ?_
    · intro σ hz6
      refine el3_2 hz6 fun n hs es e1 R => ?_; clear hz6
      cases n with
      | succ n => cases e1
      | zero =>
      have v1 := R.v1
      have v2 := R.v2
      refine ⟨trivial, i_next ?_⟩
      refine i_seq (s_retCall (rd_a (rd_var v1) (rd_a (rd_var v2) rd_a0)) ?_)
      exact ⟨t, da, S, N, refs, T, a, hs, rfl, R.X, O, R.d1, ⟨R.I.len, R.I.rng⟩, hN, fun t' da' S' N' refs' o rows ends μ' B hl XR ER => h t' da' S' N' refs' hs es o rows ends μ' R.I B hl XR fun y p e => ER y p (R.E y p e)⟩
    · intro d l σ C hz501 hC _
      refine el3_2 hz501 fun n hs es e1 R => ?_
      clear hz501
      cases n with
      | zero => cases e1
      | succ n =>
      injection e1 with e1 e2
      subst e1
      subst e2
      have hndl : n < T.steps.length := R.le
      have v1 := R.v1
      have v2 := R.v2
      have v3 := R.v3
      have I := R.I
      have X2 := R.X
      have d1 := R.d1
      have d2 := R.d2
      have E := R.E
      have i1 := X2.inst
      have i2 := X2.attrs
      have i3 := X2.steps
      have i4 := X2.ends
      refine el1_3 (X2.at hndl) fun da3 w6 w7 _ => ?_
      have w8 : (refs.map MV.ref)[n]? = some (.ref da3) := by rw [List.getElem?_map, w6]; rfl
      have w10 : (refs.map MV.ref).length ≤ 1000000 := by have := X2.len; rw [List.length_map]; lia
      have w11 := O.small _ (List.getElem_mem hndl)
      have w12 : (embD T.steps[n]).length < 64 := by rw [embD, List.length_map]; lia
      have w13 : (hs.map MV.int).length ≤ 1000000 := by rw [List.length_map, I.len]; lia
      have sl : (srt iLt ((embD T.steps[n]).map (·.1))).length = T.steps[n].length := by rw [(srt_perm _ _).length_eq, List.length_map, embD, List.length_map]
      have eR : (srt iLt ((embD T.steps[n]).map (·.1))).map (fun g => MV.tup [.int g, .int (goalOf T hs n g)]) = rowMV (rowOf T hs n) := by
        unfold rowMV rowOf goalOf; rw [keys_embD, getD_at hndl, List.map_map]; rfl
      have l0 : (rowMV (rowOf T hs n)).length ≤ 1000000 := by rw [← eR, List.length_map, sl]; lia
      have l7 : (T.ends.map MV.int).length ≤ 1000000 := by rw [List.length_map, O.ends]; lia
      have l8 : n < T.ends.length := by rw [O.ends]; exact hndl
      have g4 : (T.ends.map MV.int)[n]? = some (.int (T.ends.getD n 0)) := by rw [List.getElem?_map, List.getElem?_eq_getElem l8, getD_at l8]; rfl
      have hkk : keys 5 [.int (T.ends.getD n 0), .tup (rowMV (rowOf T hs n))] = true := keys_keyOf T hs n
      have hsz := I.sz
      have l10 : es.length ≤ 1000000 := by lia
      have hnl : (n : Int) < (hs.map MV.int).length := by rw [List.length_map, I.len]; lia
      refine' ⟨trivial, i_setv (i_seq (s_assign (d := .tup (rowMV (rowOf T hs n))) ?s0 (i_next ?_)))⟩
      case s0 =>
        rw [← eR] at l0 ⊢
        refine' rd_N (rd_a (rd_comp (fun g => .tup [.int g, .int (goalOf T hs n g)]) (ri_F ?src) (fun _ _ _ => trivial) (by lia) ?bd) rd_a0) (rn_tupleF l0)
        case src => exact (rd_N (rd_a (rd_2 (rd_attr (rd_var v1) i1 i2 g1 rfl) (rd_var rfl) (r2_getR i3 (by walk_at "ln") w8 w10)) rd_a0) (rn_sortK w7 w12))
        case bd =>
          intro D hD g hg V its vs hV hx
          have hg2 : g ∈ T.steps[n].map (·.1) := keys_embD T.steps[n] ▸ (srt_perm _ _).mem_iff.mp hg
          obtain ⟨jj, hjj⟩ := dgi_some hg2
          have hch := O.child _ (List.getElem_mem hndl) _ (dgi_mem hjj)
          have w14 : dget (embD T.steps[n]) g = some (.int jj) := by rw [dget_embD, hjj]; rfl
          have hjl : jj.toNat < hs.length := by rw [I.len]; lia
          have w15 : (hs.map MV.int)[jj.toNat]? = some (.int (goalOf T hs n g)) := by
            rw [List.getElem?_map, List.getElem?_eq_getElem hjl, goalOf, getD_at hndl, hjj, ← getD_at (d := 0) hjl]; rfl
          have w16 : 0 ≤ jj := hch.1
          exact (rd_tup (rd_a (rd_var hx) (rd_a (rd_2 (rd_var (v_mk (v_comp hV (by decide) v2))) (rd_2 (rd_2 (rd_attr (rd_var (v_mk (v_comp hV (by decide) v1))) (m_pin i1 hD) (m_pin i2 hD) g1 rfl) (rd_var (v_mk (v_comp hV (by decide) (v_free rfl v_same)))) (r2_getR (m_pin i3 hD) (by walk_at "ln") w8 w10)) (rd_var hx) (r2_getI (m_pin w7 hD) w14)) (r2_getR (m_pin d1 hD) w16 w15 w13)) rd_a0)) (Nat.le_of_ble_eq_true rfl))
      refine i_seq (s_assign (rd_tup (rd_a (rd_2 (rd_attr (rd_var v1) i1 i2 g2 rfl) (rd_var rfl) (r2_getR i4 (by walk_at "ln") g4 l7)) (rd_a (rd_var rfl) rd_a0)) (Nat.le_of_ble_eq_true rfl)) (i_next ?_))
      cases hg : dget es [.int (T.ends.getD n 0), .tup (rowMV (rowOf T hs n))] with
      | some v =>
        refine el1_2 (I.old As hndl hg) fun m eqz7 I' => ?_
        subst eqz7
        refine i_seq (s_condF (rt_cmp (rd_var rfl) (rd_var v3) (r2_niKy d2 hkk hg)) ?_)
        with_reducible refine i_nil (i_next ?_)
        refine i_seq (s_store (rd_2 (rd_var v3) (rd_var rfl) (r2_getK d2 hkk hg)) (rd_var v2) (rd_var rfl) (rs_L d1 (by walk_at "ln") hnl w13) (i_next ?_))
        have eM : (hs.map MV.int).set n (.int m) = (hs.set n m).map MV.int := by rw [List.map_set]
        dsimp only [setv_mu, List.set_cons_zero, List.set_cons_succ, Int.reduceToNat, Int.reduceNeg]
        rw [Int.toNat_natCast, eM]
        refine i_nil (hC _ ⟨n, hs.set n m, es, rfl, Nat.le_of_lt hndl, ?_, ?_, ?_, I', X2.other _ ht1 ht2 ht3 ht4 ht5, upd_self _ _ _, (upd_ne _ _ hka).trans d2, ext_upd E ha⟩)
        · exact v1
        · exact v2
        · exact v3
      | none =>
        have I' := I.new As hndl hg
        have hgs := dget_dset_self es [.int (T.ends.getD n 0), .tup (rowMV (rowOf T hs n))] (.int n)
        have d1' : upd σ.mu kd (.tdict (dset es [.int (T.ends.getD n 0), .tup (rowMV (rowOf T hs n))] (.int n))) a = some (.list (hs.map MV.int)) := (upd_ne _ _ hka.symm).trans d1
        refine i_seq (s_condT (rt_cmp (rd_var rfl) (rd_var v3) (r2_niKn d2 hkk hg)) ?_)
        refine i_seq (s_store (rd_var rfl) (rd_var v3) (rd_var rfl) (rs_K d2 hkk l10) (i_next ?_))
        with_reducible refine i_nil (i_next ?_)
        refine i_seq (s_store (rd_2 (rd_var v3) (rd_var rfl) (r2_getK (upd_self _ _ _) hkk hgs)) (rd_var v2) (rd_var rfl) (rs_L d1' (by walk_at "ln") hnl w13) (i_next ?_))
        have eM : (hs.map MV.int).set n (.int n) = (hs.set n n).map MV.int := by rw [List.map_set]
        dsimp only [setv_mu, List.set_cons_zero, List.set_cons_succ, Int.reduceToNat, Int.reduceNeg]
        rw [Int.toNat_natCast, eM]
        refine i_nil (hC _ ⟨n, hs.set n n, dset es (keyOf T hs n) (.int n), rfl, Nat.le_of_lt hndl, ?_, ?_, ?_, I', (X2.other _ hq1 hq2 hq3 hq4 hq5).other _ ht1 ht2 ht3 ht4 ht5, upd_self _ _ _, (upd_ne _ _ hka).trans (upd_self _ _ _), ext_upd (ext_upd E hk2) ha⟩)
        · exact v1
        · exact v2
        · exact v3
    · refine ⟨T.steps.length, List.replicate T.steps.length 0, [], rfl, Nat.le_refl _, ?_, ?_, ?_, HInv.start O, X1, c1, c2, E1⟩
      · exact (v_other (by decide) (v_mk (v_other (by decide) (v_mk v_par1))))
      · exact (v_other (by decide) (v_mk v_same))
      · exact v_same
end
end Mine
namespace Mine
open Classical
section
variable {prog : Program} {w : World}
theorem newDictI (h : Heap) (μ : MHeap) (a : Addr) (e : h.get? a = some { cls := .type "dict", data := .dict #[] }) : MuRep prog w h μ a (.idict []) :=
  ⟨[], ⟨_, #[], 0, e, ⟨rfl, rfl, rfl⟩, rfl, fun _ he => by simp at he, Pairs.nil, List.nodup_nil⟩, .nil⟩
theorem newDictT (h : Heap) (μ : MHeap) (a : Addr) (e : h.get? a = some { cls := .type "dict", data := .dict #[] }) : MuRep prog w h μ a (.tdict []) :=
  ⟨_, #[], 0, [], e, ⟨rfl, rfl, rfl⟩, rfl, rfl, List.nodup_nil, .nil, fun _ m => nomatch m⟩
end
noncomputable def addKeys (gs : List Int) (d : List (Int × Int)) : List Int := d.foldl (fun gs p => if p.1 ∈ gs then gs else gs ++ [p.1]) gs
noncomputable def glyphsOf (rows : List (List (Int × Int))) : List Int := rows.foldl addKeys []
noncomputable def colOf (rows : List (List (Int × Int))) (g : Int) : List Int := rows.map fun d => (dgi d g).getD (-1)
noncomputable def colsOf (rows : List (List (Int × Int))) : List (Int × List Int) := (srt iLt (glyphsOf rows)).map fun g => (g, colOf rows g)
noncomputable def embC (l : List (Int × List Int)) : List (Int × MV) := l.map fun p => (p.1, itup p.2)
noncomputable def embB (gs : List Int) : List (Int × MV) := gs.map fun g => (g, .bool true)
theorem dset_embB (gs : List Int) (g : Int) : dset (embB gs) g (.bool true) = embB (if g ∈ gs then gs else gs ++ [g]) := by
  unfold dset embB
  have : (gs.map fun g => (g, MV.bool true)).any (fun e => decide (e.1 = g)) = decide (g ∈ gs) := by
    rw [List.any_map, Bool.eq_iff_iff, List.any_eq_true, decide_eq_true_eq]
    simp
  rw [this]
  by_cases h : g ∈ gs
  · simp only [h, decide_true, if_true, List.map_map]
    refine List.map_congr_left fun x _ => ?_
    simp only [Function.comp]
    split <;> rfl
  · simp [h]
structure GlOk (l : List Int) : Prop where
  nd : l.Nodup
  rng : ∀ g ∈ l, 1 ≤ g ∧ g ≤ 4
theorem GlOk.len {l : List Int} (h : GlOk l) : l.length ≤ 4 := by
  have := h.nd.length_le_of_subset (l₂ := [1, 2, 3, 4]) fun x hx => by
    have := h.rng x hx
    simp; lia
  simpa using this
theorem GlOk.add {l : List Int} (h : GlOk l) {g : Int} (hg : 1 ≤ g ∧ g ≤ 4) : GlOk (if g ∈ l then l else l ++ [g]) := by
  split
  · exact h
  · rename_i hn
    refine ⟨by rw [List.nodup_append]; exact ⟨h.nd, List.nodup_cons.mpr ⟨List.not_mem_nil, List.nodup_nil⟩, fun a ha b hb e => hn (by simp at hb; rw [← hb, ← e]; exact ha)⟩, fun y hy => ?_⟩
    rcases List.mem_append.mp hy with m | m
    · exact h.rng y m
    · rw [List.mem_singleton.mp m]; exact hg
theorem addKeys_ok : ∀ {d : List (Int × Int)} {gs : List Int}, GlOk gs → (∀ p ∈ d, 1 ≤ p.1 ∧ p.1 ≤ 4) → GlOk (addKeys gs d)
  | [], gs, h, _ => h
  | p :: d, gs, h, hp => by
    show GlOk (addKeys _ d)
    exact addKeys_ok (h.add (hp p List.mem_cons_self)) fun q hq => hp q (List.mem_cons_of_mem _ hq)
theorem glyphs_ok : ∀ {rows : List (List (Int × Int))} {gs : List Int}, GlOk gs → (∀ d ∈ rows, ∀ p ∈ d, 1 ≤ p.1 ∧ p.1 ≤ 4) → GlOk (rows.foldl addKeys gs)
  | [], gs, h, _ => h
  | d :: rows, gs, h, hp => by
    rw [List.foldl_cons]
    exact glyphs_ok (addKeys_ok h (hp d List.mem_cons_self)) fun q hq => hp q (List.mem_cons_of_mem _ hq)
theorem foldl_dset_nodup {K : Type} [DecidableEq K] : ∀ {ps es : List (K × MV)}, ((es ++ ps).map (·.1)).Nodup → ps.foldl (fun es p => dset es p.1 p.2) es = es ++ ps
  | [], es, _ => by simp
  | p :: ps, es, h => by
    rw [List.foldl_cons]
    have hn : dget es p.1 = none := by
      unfold dget
      rw [Option.map_eq_none_iff, List.find?_eq_none]
      intro x hx e
      simp only [decide_eq_true_eq] at e
      rw [List.map_append, List.nodup_append] at h
      exact h.2.2 x.1 (List.mem_map.mpr ⟨x, hx, rfl⟩) p.1 (by simp) e
    rw [dset_new hn, foldl_dset_nodup (by simpa [List.append_assoc] using h)]
    simp [List.append_assoc]
theorem s_forKeys {W : WE} {T : WA} {B : WS} {σ : St} {Q : Fl → St → Prop} {r : Addr} {es : List (Int × MV)} (h : Rd W σ (.ref r)) (m : σ.mu r = some (.idict es)) (k : ∀ kvs ep, wLoop (fun _ => True) T B (es.map fun e => .int e.1) { σ with mu := upd σ.mu r (.ipin kvs ep es) } fun g σ2 => Q g { σ2 with mu := upd σ2.mu r (.idict es) }) : wForKeys W T B σ Q := h _ ⟨r, es, rfl, m, k⟩
theorem rn_step {μ : MHeap} {t da S N : Addr} {refs : List Addr} {T : Tr} {n : Nat} {g : Int} (X : TrieAt μ t da S N refs T) (z : T.steps.length ≤ 1000) (h : n < T.steps.length) : RdN pStep [.ref t, .int n, .int g] μ (.int ((colOf T.steps g).getD n 0)) := fun Q q => ⟨t, da, S, N, refs, T, n, g, rfl, X, z, h, by
  have e : (colOf T.steps g).getD n 0 = (dgi T.steps[n] g).getD (-1) := by
    unfold colOf
    rw [getD_at (by rw [List.length_map]; exact h), List.getElem_map]
  rw [e] at q; exact q⟩
theorem map_getD (l : List Int) : (List.range l.length).map (fun i => MV.int (l.getD i 0)) = l.map MV.int := by
  apply List.ext_getElem
  · rw [List.length_map, List.length_range, List.length_map]
  · intro n h1 h2
    rw [List.length_map] at h2
    rw [List.getElem_map, List.getElem_map, List.getElem_range, getD_at h2]
structure ColI (T : Tr) (μ : MHeap) (t da S N gd : Addr) (refs : List Addr) (i : Nat) (gs : List Int) (σ : St) : Prop where
  le : i ≤ refs.length
  go : (T.steps.drop i).foldl addKeys gs = glyphsOf T.steps
  G : GlOk gs
  v1 : σ.vars (Str.ofString "trie") = some (.ref t)
  v2 : σ.vars (Str.ofString "glyphs") = some (.ref gd)
  X : TrieAt σ.mu t da S N refs T
  d1 : σ.mu gd = some (.idict (embB gs))
  E : ∀ y p, μ y = some p → σ.mu y = some p
structure ColR (M : MHeap) (t gd r : Addr) (o : MObj) (d rest : List (Int × Int)) (gs gs' : List Int) (σ : St) : Prop where
  go : addKeys gs' rest = addKeys gs d
  G : GlOk gs'
  rng : ∀ p ∈ rest, 1 ≤ p.1 ∧ p.1 ≤ 4
  v1 : σ.vars (Str.ofString "trie") = some (.ref t)
  v2 : σ.vars (Str.ofString "glyphs") = some (.ref gd)
  d1 : σ.mu gd = some (.idict (embB gs'))
  same : ∀ y, y ≠ gd → σ.mu y = upd M r o y
section
variable {prog : Program} {w : World} {c : Cx prog w} (hK : c.K = heapK w.params)
include hK
noncomputable def pCols : List MV → W0 := fun ds μ Q => ∃ t da S N refs T, ds = [.ref t] ∧ TrieAt μ t da S N refs T ∧ T.steps.length ≤ 60 ∧ (∀ d ∈ T.steps, ∀ p ∈ d, 1 ≤ p.1 ∧ p.1 ≤ 4) ∧
  ∀ r μ', μ' r = some (.idict (embC (colsOf T.steps))) → μ r = none → (∀ y o, μ y = some o → μ' y = some o) → Q (.ref r) μ'
theorem sp_columns_of {k : Nat} : CodeN c (k + 3) (.ref 157) pCols := by
  refine' CodeN.mono (CodeN.fn (names := [Str.ofString "trie"]) (a := 157) ?ho ?hcd ?hb ?hbind ?hown ?hnd ?hfree ?hco ?hgen ?hk) ?fin
  case ho => rw [hK]; rfl
  case hcd => rw [hK]; rfl
  case hco => rfl
  case hgen => rfl
  case hk => rfl
  case hbind => intro vals hl; obtain ⟨a, rfl⟩ := len1 hl; rfl
  case hown => exact fn_own (by decide)
  case hnd => decide
  case hfree => exact fn_free (by decide)
  case hb =>
    exact (JSs.cons (JS.assign JE.dictI (JA.nl rfl) (fun _ _ => rfl) (fun _ => rfl) (fun _ => rfl))
      (JSs.cons (JS.for (JSrc.seq (JE.attr (JE.nm "trie" _ (by decide)) (fun _ => by with_unfolding_all rfl))) (JA.nl rfl)
      (JSs.cons (JS.forKeys (JE.nm "steps" _ (by decide)) (JA.nl rfl)
       (JSs.cons (JS.assign (JE.bool _ _ _) (JA.sub op_setI (JE.nm "glyphs" _ (by decide)) (JE.nm "glyph" _ (by decide))) (fun _ _ => rfl) (fun _ => rfl) (fun _ => rfl))
        JSs.nil) (fun _ _ => rfl))
       JSs.nil) (fun _ _ => rfl))
      (JSs.cons (JS.ret (JE.call (cl_dict hK) rfl (op_dict setStepI (fun _ h => h) newDictI) (JEs.cons (fun _ _ => rfl) (JE.comp' (compOk rfl (by decide) (by decide)) (JSrc.seq (JE.call (cl_sorted hK) rfl op_sortK (JEs.cons (fun _ _ => rfl) (JE.nm "glyphs" _ (by decide)) JEs.nil))) (fun _ _ => rfl) (JA.nc rfl) JTs.nil JGens.nil (JE.tup (JEs.cons (fun _ _ => rfl) (JE.nm "glyph" _ (by decide)) (JEs.cons (fun _ _ => rfl) (JE.call (cl_tuple hK) rfl op_tuple (JEs.cons (fun _ _ => rfl) (JE.comp' (compOk rfl (by decide) (by decide)) (JSrc.range (cl_range hK) rfl (JEs.cons (fun _ _ => rfl) (JE.meth (JE.nm "trie" _ (by decide)) JEs.nil (sp_count hK).op (fun _ => ⟨_, by with_unfolding_all rfl⟩)) JEs.nil)) (fun _ _ => rfl) (JA.nl rfl) JTs.nil JGens.nil (JE.meth (JE.nm "trie" _ (by decide)) (JEs.cons (fun _ _ => rfl) (JE.nm "node" _ (by decide)) (JEs.cons (fun _ _ => rfl) (JE.nm "glyph" _ (by decide)) JEs.nil)) (sp_step hK).op (fun _ => ⟨_, by with_unfolding_all rfl⟩))) JEs.nil)) JEs.nil)))) JEs.nil)))
      JSs.nil)))
  case fin =>
    intro ds μ Q hz1
    refine el6_5 hz1 fun t da S N refs T eqz2 X hN hgl h => ?_; clear hz1
    subst eqz2
    have g1 := get_steps hK
    have m1 := meth_count hK
    have m2 := meth_step hK
    have z6 : T.steps.length ≤ 1000 := by lia
    show wFn _ _ _ _ _
    refine ⟨rfl, ?_⟩
    refine i_seq (s_new ?_)
    intro gd hgd
    have hgd : μ gd = none := hgd
    refine el0_5 (X.fresh hgd) fun ht1 ht2 ht3 ht4 ht5 => ?_
    have X1 := X.other (.idict []) ht1 ht2 ht3 ht4 ht5
    have E1 : ∀ y p, μ y = some p → upd μ gd (MObj.idict []) y = some p := ext_upd (fun y p e => e) hgd
    have c1 : upd μ gd (MObj.idict []) gd = some (.idict (embB [])) := upd_self _ _ _
    dsimp only
    refine i_next ?_
    generalize upd μ gd (MObj.idict []) = M1 at X1 E1 c1 ⊢
    have i1 := X1.inst
    have i2 := X1.attrs
    have i3 := X1.steps
    refine i_seq (s_for (ri_R (rd_attr (rd_var rfl) i1 i2 g1 rfl) i3) ?_)
    refine wLoop_inv (fun l σ => ∃ i gs, l = (refs.drop i).map MV.ref ∧ ColI T μ t da S N gd refs i gs σ) ?_ ?_ ?_
    · intro σ hz3
      refine el2_2 hz3 fun i gs e1 R => ?_; clear hz3
      have hii : T.steps.length ≤ i := by
        have := List.map_eq_nil_iff.mp e1.symm
        rw [List.drop_eq_nil_iff, X.len] at this; exact this
      have hf := R.go
      rw [List.drop_of_length_le hii, List.foldl_nil] at hf
      subst hf
      have X2 := R.X
      have v1 := R.v1
      have v2 := R.v2
      have d1 := R.d1
      have i1 := X2.inst
      have i2 := X2.attrs
      refine ⟨X2.steps, i_next ?_⟩
      have eB : (embB (glyphsOf T.steps)).map (·.1) = glyphsOf T.steps := by unfold embB; rw [List.map_map]; exact List.map_id' _
      have l1 : (embB (glyphsOf T.steps)).length < 64 := by have := R.G.len; rw [embB, List.length_map]; lia
      have hlen : (srt iLt ((embB (glyphsOf T.steps)).map (·.1))).length ≤ 4 := by rw [(srt_perm _ _).length_eq, eB]; exact R.G.len
      refine' i_seq (s_retCall (rd_a (rd_comp (emb := MV.int) (items := srt iLt ((embB (glyphsOf T.steps)).map (·.1))) (need := fun _ => True) (fun g => .tup [.int g, itup (colOf T.steps g)]) (ri_F ?src) (fun _ _ _ => trivial) (by lia) ?bd) rd_a0) ?_)
      case src => exact (rd_N (rd_a (rd_var v2) rd_a0) (rn_sortK d1 l1))
      case bd =>
        intro D hD g hg V its vs hV hx
        have XD : TrieAt (upd σ.mu D (.pin its vs)) t da S N refs T := X2.mono (ext_upd (fun y p e => e) hD)
        have rc := rn_count XD z6
        have lc : (colOf T.steps g).length = T.steps.length := by rw [colOf, List.length_map]
        have e6 := map_getD (colOf T.steps g)
        rw [lc] at e6
        have lz : ((List.range T.steps.length).map fun i => MV.int ((colOf T.steps g).getD i 0)).length ≤ 1000000 := by rw [List.length_map, List.length_range]; lia
        refine' rd_tup (rd_a (rd_var hx) (rd_a ?col rd_a0)) (Nat.le_of_ble_eq_true rfl)
        case col =>
          rw [itup, ← e6]
          refine' rd_N (rd_a (rd_comp (items := List.range T.steps.length) (emb := fun (i : Nat) => MV.int (0 + (i : Int) * 1)) (fun i => .int ((colOf T.steps g).getD i 0)) (need := fun _ => True) ?src (fun _ _ _ => trivial) (by rw [List.length_range]; lia) ?bd2) rd_a0) (rn_tupleF lz)
          case src =>
            refine' ri_1 (i := (T.steps.length : Int)) ?a (by lia)
            exact (rd_a (rd_meth (rd_var (v_mk (v_comp hV (by decide) v1))) (m_pin i1 hD) (m_pin i2 hD) m1 rfl rd_a0 rc) rd_a0)
          case bd2 =>
            intro D2 hD2 i hi V3 its3 vs3 hV3 hx3
            have hil : i < T.steps.length := List.mem_range.mp hi
            have XE : TrieAt (upd (upd σ.mu D (.pin its vs)) D2 (.pin its3 vs3)) t da S N refs T := XD.mono (ext_upd (fun y p e => e) hD2)
            have rs := rn_step (g := g) XE z6 hil
            have e0 : (0 : Int) + (i : Int) * 1 = i := by lia
            rw [e0] at hx3
            exact (rd_meth (rd_var (v_mk (v_comp hV3 (by decide) (v_free rfl (v_mk (v_comp hV (by decide) v1)))))) (m_pin (m_pin i1 hD) hD2) (m_pin (m_pin i2 hD) hD2) m2 rfl (rd_a (rd_var hx3) (rd_a (rd_var (v_mk (v_comp hV3 (by decide) hx))) rd_a0)) rs)
      refine ⟨_, (colsOf T.steps).map (fun p => (p.1, itup p.2)), fun _ => True, rfl, trivial, ?_, fun _ _ => trivial, ?_, fun r hr => ?_⟩
      · show some _ = some _
        rw [eB]
        unfold colsOf
        rw [List.map_map, List.map_map]; rfl
      · rw [eB] at hlen
        rw [List.length_map, colsOf, List.length_map]; lia
      · rw [foldl_dset_nodup]
        · rw [List.nil_append]
          exact h r _ (upd_self _ _ _) (ext_none R.E hr) (ext_upd R.E (ext_none R.E hr))
        · unfold colsOf
          rw [List.nil_append, List.map_map, List.map_map]
          have : ∀ l : List Int, l.map (((fun x : Int × MV => x.1) ∘ fun p : Int × List Int => (p.1, itup p.2)) ∘ fun g => (g, colOf T.steps g)) = l := fun l => List.map_id' _
          rw [this]
          exact (srt_perm _ _).nodup_iff.mpr R.G.nd
    · intro d l σ C hz501 hC hR
      refine el2_2 hz501 fun i gs e1 R => ?_
      clear hz501
      have hil : i < refs.length := by
        rcases Nat.lt_or_ge i refs.length with q | q
        · exact q
        · rw [List.drop_of_length_le q] at e1; cases e1
      rw [List.drop_eq_getElem_cons hil, List.map_cons, List.cons.injEq] at e1
      obtain ⟨rfl, rfl⟩ := e1
      have hil2 : i < T.steps.length := by rw [← X.len]; exact hil
      have X2 := R.X
      refine el1_3 (X2.at hil2) fun a w6 w7 w8 => ?_
      obtain rfl : refs[i] = a := by rw [List.getElem?_eq_getElem hil] at w6; exact Option.some.inj w6
      have hag : refs[i] ≠ gd := fun e => ht5 (e ▸ w8)
      refine ⟨X2.steps, i_setv (i_seq (s_forKeys (rd_var v_same) w7 fun kvs ep => ?_))⟩
      refine wLoop_inv (fun l σ' => ∃ rest gs', l = rest.map (fun e => MV.int e.1) ∧ ColR σ.mu t gd refs[i] (.ipin kvs ep (embD T.steps[i])) T.steps[i] rest gs gs' σ') ?_ ?_ ?_
      · intro σ' hz4
        refine el2_2 hz4 fun rest gs' e1 R' => ?_; clear hz4
        obtain rfl := List.map_eq_nil_iff.mp e1.symm
        have hback : ∀ y, y ≠ gd → upd σ'.mu refs[i] (.idict (embD T.steps[i])) y = σ.mu y := fun y hy => by
          by_cases q : y = refs[i]
          · rw [q, upd_self, w7]
          · rw [upd_ne _ _ q, R'.same y hy, upd_ne _ _ q]
        refine ⟨trivial, i_next (i_nil (hC _ ⟨i + 1, gs', rfl, hil, ?_, R'.G, R'.v1, R'.v2, X2.ext fun y p hy e => ?_, (upd_ne _ _ hag.symm).trans R'.d1, fun y p e => ?_⟩))⟩
        · have hf2 := R.go
          rw [List.drop_eq_getElem_cons hil2, List.foldl_cons] at hf2
          rw [← hf2, ← R'.go]; rfl
        · refine (hback y ?_).trans e
          rintro rfl
          rcases hy with q | q | q | q | q
          · exact ht1 q
          · exact ht2 q
          · exact ht3 q
          · exact ht4 q
          · exact ht5 q
        · exact (hback y (by rintro rfl; rw [hgd] at e; cases e)).trans (R.E y p e)
      · intro d' l' σ' C' hz502 hC' _
        refine el2_2 hz502 fun rest gs' e1 R' => ?_
        clear hz502
        cases rest with
        | nil => cases e1
        | cons p rest =>
        injection e1 with e1 e2
        subst e1
        subst e2
        have l1 : (embB gs').length ≤ 1000000 := by have := R'.G.len; rw [embB, List.length_map]; lia
        have v1 := R'.v1
        have v2 := R'.v2
        have d1 := R'.d1
        refine ⟨trivial, i_setv ?_⟩
        refine i_seq (s_store rd_lit (rd_var v2) (rd_var rfl) (rs_I d1 l1) (i_next ?_))
        rw [dset_embB gs' p.1]
        refine i_nil (hC' _ ⟨rest, if p.1 ∈ gs' then gs' else gs' ++ [p.1], rfl, ?_, R'.G.add (R'.rng p List.mem_cons_self), fun q hq => R'.rng q (List.mem_cons_of_mem _ hq), ?_, ?_, upd_self _ _ _, fun y hy => (upd_ne _ _ hy).trans (R'.same y hy)⟩)
        · rw [← R'.go]; rfl
        · exact v1
        · exact v2
      · refine ⟨T.steps[i], gs, ?_, rfl, R.G, hgl _ (List.getElem_mem hil2), ?_, ?_, (upd_ne _ _ hag.symm).trans R.d1, fun y _ => rfl⟩
        · rw [embD, List.map_map]; rfl
        · have v1 := R.v1
          exact v1
        · have v2 := R.v2
          exact v2
    · refine ⟨0, [], rfl, Nat.zero_le _, rfl, ⟨List.nodup_nil, fun _ m => nomatch m⟩, ?_, ?_, X1, c1, E1⟩
      · exact (v_other (by decide) (v_mk v_par1))
      · exact v_same
end
end Mine
namespace Mine
open Classical
noncomputable abbrev sClasses : Str := Str.ofString "classes"
noncomputable abbrev sRows : Str := Str.ofString "rows"
noncomputable def rowsMV (rows : List (List Int)) : MV := .flist (rows.map fun r => .flist (r.map MV.int))
noncomputable def intsMV (l : List Int) : MV := .flist (l.map MV.int)
structure ClassAt (μ : MHeap) (cd dc cl : Addr) (cls : List (Int × Int)) : Prop where
  inst : μ cd = some (.inst 66 dc)
  attrs : μ dc = some (.attrs [(sClasses, .ref cl)])
  dict : μ cl = some (.idict (embD cls))
structure TableAt (μ : MHeap) (tb dt cd : Addr) (rows : List (List Int)) (ends : List Int) : Prop where
  inst : μ tb = some (.inst 148 dt)
  attrs : μ dt = some (.attrs [(sClasses, .ref cd), (sRows, rowsMV rows), (sEnds, intsMV ends)])
section
variable {prog : Program} {w : World} {c : Cx prog w} {k : Nat} {sc : List (Str × NameKind)}
noncomputable def pGetP : MV → MV → W0 := fun a b μ Q => ∃ r kvs ep es i d, a = .ref r ∧ μ r = some (.ipin kvs ep es) ∧ b = .int i ∧ dget es i = some d ∧ Q d μ
theorem op_getP : Op2 c getItem pGetP := by
  intro A s μ va vb a b Q rm x r1 r2 hz1
  refine el6_5 hz1 fun r kvs ep es i d eqz2 hm eqz3 hd h => ?_; clear hz1
  subst eqz2
  subst eqz3
  obtain ⟨t, rfl⟩ := r2.isInt
  obtain rfl := r1.isRef
  obtain ⟨⟨o, es', ho, hr⟩, hp⟩ := x.mu r _ hm
  refine el1_2 (hp.get hd) fun v hv rv => ?_
  have hD : s.heap.DictOf (intKind prog w) r kvs := ⟨o, es', ep, ho, hr⟩
  exact wpAny_getItem_of (intKind_is prog w i t) hD.mapOf hv ⟨d, μ, rv, x.tok _, Evo0.refl _ _, h⟩
theorem JE.subP {l r : Expr} {pos : Pos} {W1 W2 : WE} (hl : JE c k sc l W1) (hr : JE c k sc r W2) (hs : ∀ o i, subscripted r false o i = operate [o, i] (getItem o i)) :
    JE c k sc (.Subscript l r pos) (w2 pGetP W1 W2) := fun f A σ Q s e1 ok rm x h => by
  refine Subscript_ (wpAny_mono (hl f A σ _ s e1 ok rm x h) ?_ fun _ _ e => e)
  intro a s₁ hz4
  refine el2_4 hz4 fun d σ1 r1 x1 ev1 h1 => ?_; clear hz4
  refine wpAny_mono (hr f A σ1 _ s₁ e1 ok rm x1 h1) ?_ fun _ _ e => e
  intro b s₂ hz5
  refine el2_4 hz5 fun e σ2 r2 x2 ev2 h2 => ?_; clear hz5
  have r1' := r1.mono (ev2.keep x1.fr)
  have h2' := h2
  refine el6_3 (h2') fun q kvs ep es i dd eqz6 hm _ => ?_
  subst eqz6
  obtain rfl := r1'.isRef
  obtain ⟨⟨o, es', ho, hrr⟩, _⟩ := x2.s0.mu q _ hm
  have hD : s₂.heap.DictOf (intKind prog w) q kvs := ⟨o, es', ep, ho, hrr⟩
  exact tail_any hD.typeIs PySem.F.slot_dict_getitem.lookup (OKF.from (ev1.trans ev2) (lift0 x2 (op_getP A s₂ σ2.mu _ b _ e _ (rm.le (Nat.zero_le _)) x2.s0 r1' r2 h2))) (hs _ _)
end
theorem s_setAttr {W1 W2 : WE} {σ : St} {Q : Fl → St → Prop} {n : Str} {ok : Addr → Prop} {C x dd : Addr} {es : List (Str × MV)} {v : MV} (h : Rd W1 σ v) (h2 : Rd W2 σ (.ref x)) (i1 : σ.mu x = some (.inst C dd)) (i2 : σ.mu dd = some (.attrs es)) (h3 : ok C) (h4 : es.length ≤ 900) (h5 : es.lookup n = none)
    (k : Q .next { σ with mu := upd σ.mu dd (.attrs (es ++ [(n, v)])) }) : wAssign W1 (wSetAttr n ok W2) σ Q := h _ (h2 _ ⟨C, x, dd, es, ⟨rfl, i1, i2⟩, h3, h4, by rw [aset_new h5]; exact k⟩)
theorem ClassAt.reads {μ : MHeap} {cd dc cl : Addr} {cls : List (Int × Int)} (X : ClassAt μ cd dc cl cls) {g : Int} : RdN (fun ds μ Q => ∃ cd dc cl cls g, ds = [.ref cd, .int g] ∧ ClassAt μ cd dc cl cls ∧ Q (.int ((dgi cls g).getD 0)) μ) [.ref cd, .int g] μ (.int ((dgi cls g).getD 0)) := fun _ q => ⟨cd, dc, cl, cls, g, rfl, X, q⟩
section
variable {prog : Program} {w : World} {c : Cx prog w} (hK : c.K = heapK w.params)
include hK
theorem get_classes : GetOk c 66 (Str.ofString "classes") := ⟨by rw [hK]; rfl, by rw [hK]; rfl, ⟨_, by rw [hK]; rfl, by rw [hK]; rfl⟩⟩
theorem set_classes : SetOk c 66 (Str.ofString "classes") := ⟨by rw [hK]; rfl, by rw [hK]; rfl, by rw [hK]; rfl, by rw [hK]; rfl⟩
theorem meth_class_of : MethOk c 66 (Str.ofString "class_of") 42 := ⟨by rw [hK]; rfl, by rw [hK]; rfl, by rw [hK]; rfl, by rw [hK]; rfl⟩
theorem get_tclasses : GetOk c 148 (Str.ofString "classes") := ⟨by rw [hK]; rfl, by rw [hK]; rfl, ⟨_, by rw [hK]; rfl, by rw [hK]; rfl⟩⟩
theorem set_tclasses : SetOk c 148 (Str.ofString "classes") := ⟨by rw [hK]; rfl, by rw [hK]; rfl, by rw [hK]; rfl, by rw [hK]; rfl⟩
theorem get_trows : GetOk c 148 (Str.ofString "rows") := ⟨by rw [hK]; rfl, by rw [hK]; rfl, ⟨_, by rw [hK]; rfl, by rw [hK]; rfl⟩⟩
theorem set_trows : SetOk c 148 (Str.ofString "rows") := ⟨by rw [hK]; rfl, by rw [hK]; rfl, by rw [hK]; rfl, by rw [hK]; rfl⟩
theorem get_tends : GetOk c 148 (Str.ofString "ends") := ⟨by rw [hK]; rfl, by rw [hK]; rfl, ⟨_, by rw [hK]; rfl, by rw [hK]; rfl⟩⟩
theorem set_tends : SetOk c 148 (Str.ofString "ends") := ⟨by rw [hK]; rfl, by rw [hK]; rfl, by rw [hK]; rfl, by rw [hK]; rfl⟩
theorem meth_tstep : MethOk c 148 (Str.ofString "step") 145 := ⟨by rw [hK]; rfl, by rw [hK]; rfl, by rw [hK]; rfl, by rw [hK]; rfl⟩
noncomputable def pClassInit : List MV → W0 := fun ds μ Q => ∃ x dd v, ds = [.ref x, v] ∧ μ x = some (.inst 66 dd) ∧ μ dd = some (.attrs []) ∧ Q .none (upd μ dd (.attrs [(sClasses, v)]))
theorem sp_Class_init {k : Nat} : CodeN c (k + 1) (.ref 35) pClassInit := by
  refine' CodeN.mono (CodeN.fn (names := [Str.ofString "self", Str.ofString "classes"]) (a := 35) ?ho ?hcd ?hb ?hbind ?hown ?hnd ?hfree ?hco ?hgen ?hk) ?fin
  case ho => rw [hK]; rfl
  case hcd => rw [hK]; rfl
  case hco => rfl
  case hgen => rfl
  case hk => rfl
  case hbind => intro vals hl; obtain ⟨a, b, rfl⟩ := len2 hl; rfl
  case hown => exact fn_own (by decide)
  case hnd => decide
  case hfree => exact fn_free (by decide)
  case hb =>
    exact (JSs.cons (JS.assign (JE.nm "classes" _ (by decide)) (JA.attr (JE.nm "self" _ (by decide))) (fun _ _ => rfl) (fun _ => rfl) (fun _ => rfl))
      JSs.nil)
  case fin =>
    intro ds μ Q hz7
    refine el3_4 hz7 fun x dd v eqz8 hx hdd h => ?_; clear hz7
    subst eqz8
    have s1 := set_classes hK
    show wFn _ _ _ _ _
    refine' ⟨rfl, i_seq (s_setAttr (rd_var ?a) (rd_var ?b) hx hdd s1 (Nat.zero_le _) rfl (i_next (i_nil h)))⟩
    case a => exact (v_mk (v_par2 (by decide) v_par1))
    case b => exact (v_mk v_par1)
theorem makes_class : makesIn c.K 66 = true := by rw [hK]; rfl
noncomputable def pClassNew : List MV → W0 := fun ds μ Q => ∃ v, ds = [v] ∧ ∀ x dd μ', μ' x = some (.inst 66 dd) → μ' dd = some (.attrs [(sClasses, v)]) → μ x = none → μ dd = none → (∀ y o, μ y = some o → μ' y = some o) → Q (.ref x) μ'
theorem op_ClassDef {k : Nat} : OpN c (k + 2) (fun vs => PySem.call (.ref 66) vs) pClassNew :=
  (OpN.make (fI := 35) (makes_class hK) (by rw [hK]; rfl) (by rw [hK]; rfl) (sp_Class_init hK)).mono fun ds μ Q ⟨v, e, h⟩ => by
    subst e
    intro x dd hx hdd hne
    refine ⟨x, dd, v, rfl, upd_self _ _ _, (upd_ne _ _ (Ne.symm hne)).trans (upd_self _ _ _), rfl, h x dd _ ?_ (upd_self _ _ _) hx hdd (ext_upd (ext_upd (ext_upd (fun y o e => e) hdd) hx) hdd)⟩
    rw [upd_ne _ _ hne, upd_self]
noncomputable def pClassOf : List MV → W0 := fun ds μ Q => ∃ cd dc cl cls g, ds = [.ref cd, .int g] ∧ ClassAt μ cd dc cl cls ∧ Q (.int ((dgi cls g).getD 0)) μ
theorem sp_class_of {k : Nat} : CodeN c (k + 1) (.ref 42) pClassOf := by
  refine' CodeN.mono (CodeN.fn (names := [Str.ofString "self", Str.ofString "glyph"]) (a := 42) ?ho ?hcd ?hb ?hbind ?hown ?hnd ?hfree ?hco ?hgen ?hk) ?fin
  case ho => rw [hK]; rfl
  case hcd => rw [hK]; rfl
  case hco => rfl
  case hgen => rfl
  case hk => rfl
  case hbind => intro vals hl; obtain ⟨a, b, rfl⟩ := len2 hl; rfl
  case hown => exact fn_own (by decide)
  case hnd => decide
  case hfree => exact fn_free (by decide)
  case hb =>
    exact (JSs.cons (JS.ret (jm_get (JE.attr (JE.nm "self" _ (by decide)) (fun _ => by with_unfolding_all rfl)) (JEs.cons (fun _ _ => rfl) (JE.nm "glyph" _ (by decide)) (JEs.cons (fun _ _ => rfl) (JE.int _ _ _) JEs.nil)) (fun _ => ⟨_, by with_unfolding_all rfl⟩)))
      JSs.nil)
  case fin =>
    intro ds μ Q hz9
    refine el5_3 hz9 fun cd dc cl cls g eqz10 X h => ?_; clear hz9
    subst eqz10
    have g1 := get_classes hK
    have h1 := X.inst
    have h2 := X.attrs
    have h3 := X.dict
    show wFn _ _ _ _ _
    refine ⟨rfl, ?_⟩
    refine i_seq (s_ret (rd_bmethI (rd_attr (rd_var rfl) h1 h2 g1 rfl) h3 (rd_a (rd_var rfl) (rd_a rd_lit rd_a0)) (rn_getD h3)) (i_retC ?_))
    dsimp only [retOf]
    rw [dget_embD, getD_int]
    exact h
noncomputable def pTableInit : List MV → W0 := fun ds μ Q => ∃ x dd v1 v2 v3, ds = [.ref x, v1, v2, v3] ∧ μ x = some (.inst 148 dd) ∧ μ dd = some (.attrs []) ∧ Q .none (upd μ dd (.attrs [(sClasses, v1), (sRows, v2), (sEnds, v3)]))
theorem sp_Table_init {k : Nat} : CodeN c (k + 1) (.ref 138) pTableInit := by
  refine' CodeN.mono (CodeN.fn (names := [Str.ofString "self", Str.ofString "classes", Str.ofString "rows", Str.ofString "ends"]) (a := 138) ?ho ?hcd ?hb ?hbind ?hown ?hnd ?hfree ?hco ?hgen ?hk) ?fin
  case ho => rw [hK]; rfl
  case hcd => rw [hK]; rfl
  case hco => rfl
  case hgen => rfl
  case hk => rfl
  case hbind => intro vals hl; obtain ⟨a, b, d, e, rfl⟩ := len4 hl; rfl
  case hown => exact fn_own (by decide)
  case hnd => decide
  case hfree => exact fn_free (by decide)
  case hb =>
    exact (JSs.cons (JS.assign (JE.nm "classes" _ (by decide)) (JA.attr (JE.nm "self" _ (by decide))) (fun _ _ => rfl) (fun _ => rfl) (fun _ => rfl))
      (JSs.cons (JS.assign (JE.nm "rows" _ (by decide)) (JA.attr (JE.nm "self" _ (by decide))) (fun _ _ => rfl) (fun _ => rfl) (fun _ => rfl))
      (JSs.cons (JS.assign (JE.nm "ends" _ (by decide)) (JA.attr (JE.nm "self" _ (by decide))) (fun _ _ => rfl) (fun _ => rfl) (fun _ => rfl))
      JSs.nil)))
  case fin =>
    intro ds μ Q hz11
    refine el5_4 hz11 fun x dd v1 v2 v3 eqz12 hx hdd h => ?_; clear hz11
    subst eqz12
    have s1 := set_tclasses hK
    have s2 := set_trows hK
    have s3 := set_tends hK
    have hxd : x ≠ dd := ne_of_obj hx hdd nofun
    show wFn _ _ _ _ _
    refine' ⟨rfl, i_seq (s_setAttr (rd_var ?a) (rd_var ?b) hx hdd s1 (Nat.zero_le _) rfl (i_next ?_))⟩
    case a => exact (v_mk (v_par2 (by decide) v_par1))
    case b => exact (v_mk v_par1)
    refine' i_seq (s_setAttr (rd_var ?a0) (rd_var ?b0) ((upd_ne _ _ hxd).trans hx) (upd_self _ _ _) s2 (Nat.le_of_ble_eq_true rfl) rfl (i_next ?_))
    case a0 => exact (v_mk (v_mk (v_par2 (by decide) (v_par2 (by decide) v_par1))))
    case b0 => exact (v_mk (v_mk v_par1))
    dsimp only
    rw [upd_upd]
    refine' i_seq (s_setAttr (rd_var ?a1) (rd_var ?b1) ((upd_ne _ _ hxd).trans hx) (upd_self _ _ _) s3 (Nat.le_of_ble_eq_true rfl) rfl (i_next (i_nil ?_)))
    case a1 => exact (v_mk (v_par2 (by decide) (v_par2 (by decide) (v_par2 (by decide) v_par1))))
    case b1 => exact (v_mk v_par1)
    dsimp only
    rw [upd_upd]
    exact h
theorem makes_table : makesIn c.K 148 = true := by rw [hK]; rfl
noncomputable def pTableNew : List MV → W0 := fun ds μ Q => ∃ v1 v2 v3, ds = [v1, v2, v3] ∧ ∀ x dd μ', μ' x = some (.inst 148 dd) → μ' dd = some (.attrs [(sClasses, v1), (sRows, v2), (sEnds, v3)]) → μ x = none → μ dd = none → (∀ y o, μ y = some o → μ' y = some o) → Q (.ref x) μ'
theorem op_StateTable {k : Nat} : OpN c (k + 2) (fun vs => PySem.call (.ref 148) vs) pTableNew :=
  (OpN.make (fI := 138) (makes_table hK) (by rw [hK]; rfl) (by rw [hK]; rfl) (sp_Table_init hK)).mono fun ds μ Q ⟨v1, v2, v3, e, h⟩ => by
    subst e
    intro x dd hx hdd hne
    refine ⟨x, dd, v1, v2, v3, rfl, upd_self _ _ _, (upd_ne _ _ (Ne.symm hne)).trans (upd_self _ _ _), rfl, h x dd _ ?_ (upd_self _ _ _) hx hdd (ext_upd (ext_upd (ext_upd (fun y o e => e) hdd) hx) hdd)⟩
    rw [upd_ne _ _ hne, upd_self]
noncomputable def pTStep : List MV → W0 := fun ds μ Q => ∃ tb dt cd dc cl cls rows ends, ∃ n : Nat, ∃ g v : Int, ds = [.ref tb, .int n, .int g] ∧ TableAt μ tb dt cd rows ends ∧ ClassAt μ cd dc cl cls ∧ rows.length ≤ 1000 ∧ (∀ r ∈ rows, r.length ≤ 1000) ∧ (∃ r, rows[n]? = some r ∧ 0 ≤ (dgi cls g).getD 0 ∧ r[((dgi cls g).getD 0).toNat]? = some v) ∧ Q (.int v) μ
theorem sp_tstep {k : Nat} : CodeN c (k + 2) (.ref 145) pTStep := by
  refine' CodeN.mono (CodeN.fn (names := [Str.ofString "self", Str.ofString "state", Str.ofString "glyph"]) (a := 145) ?ho ?hcd ?hb ?hbind ?hown ?hnd ?hfree ?hco ?hgen ?hk) ?fin
  case ho => rw [hK]; rfl
  case hcd => rw [hK]; rfl
  case hco => rfl
  case hgen => rfl
  case hk => rfl
  case hbind => intro vals hl; obtain ⟨a, b, d, rfl⟩ := len3 hl; rfl
  case hown => exact fn_own (by decide)
  case hnd => decide
  case hfree => exact fn_free (by decide)
  case hb =>
    exact (JSs.cons (JS.ret (JE.sub op_getL indexes_L (JE.sub op_getL indexes_L (JE.attr (JE.nm "self" _ (by decide)) (fun _ => by with_unfolding_all rfl)) (JE.nm "state" _ (by decide)) (fun _ _ => rfl)) (JE.meth (JE.attr (JE.nm "self" _ (by decide)) (fun _ => by with_unfolding_all rfl)) (JEs.cons (fun _ _ => rfl) (JE.nm "glyph" _ (by decide)) JEs.nil) (sp_class_of hK).op (fun _ => ⟨_, by with_unfolding_all rfl⟩)) (fun _ _ => rfl)))
      JSs.nil)
  case fin =>
    intro ds μ Q hz501
    refine el11_7 hz501 fun tb dt cd dc cl cls rows ends n g v eqz502 X Y hl hrl inz503 h => ?_
    clear hz501
    subst eqz502
    refine el1_3 inz503 fun r hr h0 hv => ?_
    clear inz503
    have g1 := get_tclasses hK
    have g2 := get_trows hK
    have m1 := meth_class_of hK
    have h1 := X.inst
    have h2 := X.attrs
    have h3 := Y.inst
    have h4 := Y.attrs
    unfold rowsMV at h2
    have h5 : (rows.map fun r => MV.flist (r.map MV.int))[n]? = some (.flist (r.map MV.int)) := by rw [List.getElem?_map, hr]; rfl
    have h6 : (rows.map fun r => MV.flist (r.map MV.int)).length ≤ 1000000 := by rw [List.length_map]; lia
    have h7 : (r.map MV.int).length ≤ 1000000 := by have := hrl r (List.mem_of_getElem? hr); rw [List.length_map]; lia
    have h8 : (r.map MV.int)[((dgi cls g).getD 0).toNat]? = some (.int v) := by rw [List.getElem?_map, hv]; rfl
    have rc : RdN pClassOf [.ref cd, .int g] μ (.int ((dgi cls g).getD 0)) := Y.reads
    show wFn _ _ _ _ _
    refine ⟨rfl, ?_⟩
    refine i_seq (s_ret (rd_2 (rd_2 (rd_attr (rd_var rfl) h1 h2 g2 rfl) (rd_var rfl) (r2_getF (by walk_at "ln") h5 h6)) (rd_meth (rd_attr (rd_var rfl) h1 h2 g1 rfl) h3 h4 m1 rfl (rd_a (rd_var rfl) rd_a0) rc) (r2_getF h0 h8 h7)) (i_retC ?_))
    exact h
end
end Mine
namespace Mine
open Classical
theorem swaps_ok {prog : Program} {w : World} {c : Cx prog w} {f : Fm} {x : Str} {xp pos : Pos} {elt : Expr} {gens : List Comprehension} {scope : Scope} {line : Nat} (fo : FmOk c f) (hl : f.sc.lookup x = some .local) (hp : (xp.line == pos.line) = true) (hn : (scope.names.any fun (n, k) => n == x && (k == .local || k == .cell)) = false) :
    swapsWith (.ListComp elt gens scope pos) (some (.Name x xp)) line f.env = pure true := by
  have hk := (fo.look _ _ hl).resolve_right (fun q => nomatch q.1)
  have hb : f.env.blockKind = .function := by unfold Env.blockKind; rw [fo.kind]; rfl
  show (pure (f.env.blockKind == .function && f.env.kindOf x == some .local && xp.line == pos.line && !(scope.names.any fun (n, k) => n == x && (k == .local || k == .cell))) : Sem Bool) = pure true
  rw [hb, hk, hp, hn]; rfl
noncomputable def addKind (K : List (List Int)) (c : List Int) : List (List Int) := if c ∈ K then K else K ++ [c]
noncomputable def posOf (K : List (List Int)) (c : List Int) : Nat := K.findIdx fun x => decide (x = c)
noncomputable def stGo : List (Int × List Int) → List (List Int) → List (Int × Int) → List (List Int) × List (Int × Int)
  | [], K, cls => (K, cls)
  | (g, c) :: r, K, cls => stGo r (addKind K c) (dsi cls g (1 + (posOf (addKind K c) c : Int)))
noncomputable def embN (K : List (List Int)) : List (List MV × MV) := K.zipIdx.map fun p => (p.1.map MV.int, MV.int (1 + (p.2 : Int)))
theorem embN_snoc (K : List (List Int)) (c : List Int) : embN (K ++ [c]) = embN K ++ [(c.map MV.int, .int (1 + (K.length : Int)))] := by
  unfold embN
  rw [List.zipIdx_append, List.map_append]; simp
theorem embN_len (K : List (List Int)) : (embN K).length = K.length := by unfold embN; simp
theorem dget_snoc {K : Type} [DecidableEq K] (es : List (K × MV)) (k k' : K) (v : MV) : dget (es ++ [(k, v)]) k' = match dget es k' with
    | some d => some d
    | none => if k = k' then some v else none := by
  unfold dget
  rw [List.find?_append]
  cases es.find? (fun e => decide (e.1 = k')) with
  | some p => simp
  | none =>
    by_cases h : k = k' <;> simp [h]
theorem posOf_snoc {K : List (List Int)} {c d : List Int} : posOf (K ++ [d]) c = if c ∈ K then posOf K c else if d = c then K.length else K.length + 1 := by
  unfold posOf
  rw [List.findIdx_append]
  by_cases h : c ∈ K
  · rw [if_pos h, if_pos]
    rw [List.findIdx_lt_length]
    exact ⟨c, h, by simp⟩
  · rw [if_neg h, if_neg]
    · by_cases e : d = c <;> simp [List.findIdx_cons, e]
      lia
    · rw [List.findIdx_lt_length]
      intro hz1
      refine el1_2 hz1 fun x hx e => ?_; clear hz1
      simp at e
      exact h (e ▸ hx)
theorem dget_embN (K : List (List Int)) (c : List Int) : dget (embN K) (c.map MV.int) = if c ∈ K then some (.int (1 + (posOf K c : Int))) else none := by
  induction h : K.length generalizing K with
  | zero => rw [List.length_eq_zero_iff.mp h]; rfl
  | succ n ih =>
    obtain ⟨K, d, rfl⟩ : ∃ K' d, K = K' ++ [d] := ⟨K.dropLast, K.getLast (fun e => by rw [e] at h; cases h), (List.dropLast_concat_getLast _).symm⟩
    replace ih := ih K (by simpa using h)
    clear h
    rw [embN_snoc, dget_snoc, ih]
    by_cases h : c ∈ K
    · rw [if_pos h, posOf_snoc, if_pos h]; simp [h]
    · rw [if_neg h]
      by_cases e : d = c
      · subst e; rw [posOf_snoc, if_neg h]; simp
      · have e2 : d.map MV.int ≠ c.map MV.int := fun q => e (map_int_inj.mp q)
        have e3 : ¬ c = d := fun q => e q.symm
        simp [e2, h, e3]
theorem glyphs_gl {rows : List (List (Int × Int))} (h : ∀ d ∈ rows, ∀ p ∈ d, 1 ≤ p.1 ∧ p.1 ≤ 4) : GlOk (glyphsOf rows) := glyphs_ok ⟨List.nodup_nil, fun _ m => nomatch m⟩ h
theorem cols_keys (rows : List (List (Int × Int))) : (colsOf rows).map (·.1) = srt iLt (glyphsOf rows) := by
  unfold colsOf; rw [List.map_map]; exact List.map_id' _
theorem dget_embC {cols : List (Int × List Int)} (h : (cols.map (·.1)).Nodup) {p : Int × List Int} (hp : p ∈ cols) : dget (embC cols) p.1 = some (itup p.2) := by
  induction cols with
  | nil => cases hp
  | cons q cols ih =>
    simp only [List.map_cons, List.nodup_cons] at h
    unfold dget embC at ih ⊢
    rcases List.mem_cons.mp hp with e | m
    · subst e; simp
    · have : q.1 ≠ p.1 := fun e => h.1 (e ▸ List.mem_map.mpr ⟨p, m, rfl⟩)
      simp only [List.map_cons, List.find?_cons, this, decide_false]
      exact ih h.2 m
theorem posOf_mem {K : List (List Int)} {c : List Int} (h : c ∈ K) : posOf K c < K.length := by
  unfold posOf
  rw [List.findIdx_lt_length]
  exact ⟨c, h, by simp⟩
theorem mem_addKind {K : List (List Int)} {c : List Int} : c ∈ addKind K c := by
  unfold addKind; split
  · assumption
  · simp
noncomputable def tableRows (n : Nat) (K : List (List Int)) : List (List Int) := (List.range n).map fun i => (List.replicate n (-1) :: K).map fun c => c.getD i 0
theorem i_rdA {Ws : List WE} {σ : St} {ds : List MV} {Q : List MV → St → Prop} (h : RdA Ws σ ds) (q : Q ds σ) : wArgs Ws σ Q := h _ q
structure StI (T : Tr) (μ : MHeap) (t r na ca ka : Addr) (o : MObj) (rest : List (Int × List Int)) (K : List (List Int)) (cls : List (Int × Int)) (σ : St) : Prop where
  mem : ∀ p ∈ rest, p ∈ colsOf T.steps
  go : stGo rest K cls = stGo (colsOf T.steps) [] []
  k4 : K.length + rest.length ≤ 4
  c4 : cls.length + rest.length ≤ 4
  kl : ∀ x ∈ K, x.length = T.steps.length
  v1 : σ.vars (Str.ofString "trie") = some (.ref t)
  v2 : σ.vars (Str.ofString "columns") = some (.ref r)
  v3 : σ.vars (Str.ofString "numbers") = some (.ref na)
  v4 : σ.vars (Str.ofString "classes") = some (.ref ca)
  v5 : σ.vars (Str.ofString "kept") = some (.ref ka)
  f1 : σ.mu r = some o
  f2 : σ.mu na = some (.tdict (embN K))
  f3 : σ.mu ca = some (.idict (embD cls))
  f4 : σ.mu ka = some (.list ((List.replicate T.steps.length (-1) :: K).map itup))
  E : ∀ y p, μ y = some p → σ.mu y = some p
theorem r2_getP {μ : MHeap} {r : Addr} {kvs : List (Int × Value)} {ep : Nat} {es : List (Int × MV)} {i : Int} {d : MV} (m : μ r = some (.ipin kvs ep es)) (e : dget es i = some d) : Rd2 pGetP (.ref r) (.int i) μ d := fun _ q => ⟨r, kvs, ep, es, i, d, rfl, m, rfl, e, q⟩
theorem dsi_len (cls : List (Int × Int)) (g j : Int) : (dsi cls g j).length ≤ cls.length + 1 := by
  unfold dsi
  split
  · rw [List.length_map]; exact Nat.le_succ _
  · rw [List.length_append]; exact Nat.le_refl _
section
variable {prog : Program} {w : World} {c : Cx prog w} (hK : c.K = heapK w.params)
include hK
noncomputable def pState : List MV → W0 := fun ds μ Q => ∃ t da S N refs T, ds = [.ref t] ∧ TrieAt μ t da S N refs T ∧ T.steps.length ≤ 60 ∧ T.ends.length ≤ 60 ∧ (∀ d ∈ T.steps, ∀ p ∈ d, 1 ≤ p.1 ∧ p.1 ≤ 4) ∧
  ∀ tb dt cd dc cl μ', TableAt μ' tb dt cd (tableRows T.steps.length (stGo (colsOf T.steps) [] []).1) T.ends → ClassAt μ' cd dc cl (stGo (colsOf T.steps) [] []).2 → (∀ y o, μ y = some o → μ' y = some o) → Q (.ref tb) μ'
theorem sp_state_table {k : Nat} : CodeN c (k + 4) (.ref 162) pState := by
  refine' CodeN.mono (CodeN.fn (names := [Str.ofString "trie"]) (a := 162) ?ho ?hcd ?hb ?hbind ?hown ?hnd ?hfree ?hco ?hgen ?hk) ?fin
  case ho => rw [hK]; rfl
  case hcd => rw [hK]; rfl
  case hco => rfl
  case hgen => rfl
  case hk => rfl
  case hbind => intro vals hl; obtain ⟨a, rfl⟩ := len1 hl; rfl
  case hown => exact fn_own (by decide)
  case hnd => decide
  case hfree => exact fn_free (by decide)
  case hb =>
    exact (JSs.cons (JS.assign (JE.call (cl_columns_of hK) rfl (sp_columns_of hK).op (JEs.cons (fun _ _ => rfl) (JE.nm "trie" _ (by decide)) JEs.nil)) (JA.nl rfl) (fun _ _ => rfl) (fun _ => rfl) (fun _ => rfl))
      (JSs.cons (JS.assign JE.dictT (JA.nl rfl) (fun _ _ => rfl) (fun _ => rfl) (fun _ => rfl))
      (JSs.cons (JS.assign JE.dictI (JA.nl rfl) (fun _ _ => rfl) (fun _ => rfl) (fun _ => rfl))
      (JSs.cons (JS.assign (JE.list (JEs.cons (fun _ _ => rfl) (JE.call (cl_tuple hK) rfl op_tuple (JEs.cons (fun _ _ => rfl) (JE.binop op_mulF (JE.flist (JEs.cons (fun _ _ => rfl) (je_none hK rfl) JEs.nil)) (JE.meth (JE.nm "trie" _ (by decide)) JEs.nil (sp_count hK).op (fun _ => ⟨_, by with_unfolding_all rfl⟩))) JEs.nil)) JEs.nil)) (JA.nc rfl) (fun _ _ => rfl) (fun _ => rfl) (fun _ => rfl))
      (JSs.cons (JS.forKeys (JE.nm "columns" _ (by decide)) (JA.nl rfl)
      (JSs.cons (JS.assign (JE.subP (JE.nm "columns" _ (by decide)) (JE.nm "glyph" _ (by decide)) (fun _ _ => rfl)) (JA.nl rfl) (fun _ _ => rfl) (fun _ => rfl) (fun _ => rfl))
       (JSs.cons (JS.ite (JT.cmp op_notInT (JE.nm "column" _ (by decide)) (JE.nm "numbers" _ (by decide)) rfl)
       (JSs.cons (JS.assign (JE.call (cl_len hK) rfl op_len (JEs.cons (fun _ _ => rfl) (JE.nm "kept" _ (by decide)) JEs.nil)) (JA.sub op_setT (JE.nm "numbers" _ (by decide)) (JE.nm "column" _ (by decide))) (fun _ _ => rfl) (fun _ => rfl) (fun _ => rfl))
        (JSs.cons (JS.expr (jm_append (JE.nm "kept" _ (by decide)) (JEs.cons (fun _ _ => rfl) (JE.nm "column" _ (by decide)) JEs.nil) (fun _ => ⟨_, by with_unfolding_all rfl⟩)) (fun _ => rfl))
        JSs.nil))
       JSs.nil)
       (JSs.cons (JS.assign (JE.sub op_getT indexes_T (JE.nm "numbers" _ (by decide)) (JE.nm "column" _ (by decide)) (fun _ _ => rfl)) (JA.sub op_setI (JE.nm "classes" _ (by decide)) (JE.nm "glyph" _ (by decide))) (fun _ _ => rfl) (fun _ => rfl) (fun _ => rfl))
       JSs.nil))) (fun _ _ => rfl))
      (JSs.cons (JS.assignComp' (compOk rfl (by decide) (by decide)) (JSrc.range (cl_range hK) rfl (JEs.cons (fun _ _ => rfl) (JE.meth (JE.nm "trie" _ (by decide)) JEs.nil (sp_count hK).op (fun _ => ⟨_, by with_unfolding_all rfl⟩)) JEs.nil)) (fun _ _ => rfl) (JA.nc rfl) JTs.nil JGens.nil (JE.comp' (compOk rfl (by decide) (by decide)) (JSrc.seq (JE.nm "kept" _ (by decide))) (fun _ _ => rfl) (JA.nl rfl) JTs.nil JGens.nil (JE.sub op_getL indexes_L (JE.nm "column" _ (by decide)) (JE.nm "node" _ (by decide)) (fun _ _ => rfl))) (by first | exact .inl rfl | exact .inr rfl) (fun _ e fo => swaps_ok fo (by rw [e]; rfl) rfl rfl))
      (JSs.cons (JS.ret (JE.call (cl_StateTable hK) rfl (op_StateTable hK) (JEs.cons (fun _ _ => rfl) (JE.call (cl_ClassDef hK) rfl (op_ClassDef hK) (JEs.cons (fun _ _ => rfl) (JE.nm "classes" _ (by decide)) JEs.nil)) (JEs.cons (fun _ _ => rfl) (JE.nm "rows" _ (by decide)) (JEs.cons (fun _ _ => rfl) (JE.call (cl_list hK) rfl op_list (JEs.cons (fun _ _ => rfl) (JE.attr (JE.nm "trie" _ (by decide)) (fun _ => by with_unfolding_all rfl)) JEs.nil)) JEs.nil)))))
      JSs.nil)))))))
  case fin =>
    intro ds μ Q hz2
    refine el6_6 hz2 fun t da S N refs T eqz3 X hN hE hgl h => ?_; clear hz2
    subst eqz3
    have g2 := get_ends hK
    have m1 := meth_count hK
    have z6 : T.steps.length ≤ 1000 := by lia
    show wFn _ _ _ _ _
    refine ⟨rfl, ?_⟩
    refine i_seq (s_call (rd_a (rd_var rfl) rd_a0) ?_)
    refine ⟨t, da, S, N, refs, T, rfl, X, hN, hgl, fun r M1 hr hrn E1 => i_next ?_⟩
    refine i_seq (s_new ?_)
    intro na hna
    have hna : M1 na = none := hna
    have hna1 := ext_none E1 hna
    have n1 := ne_of_none hna hr
    refine i_next ?_
    refine i_seq (s_new ?_)
    intro ca hca
    obtain ⟨n2, hca0⟩ := upd_none hca
    have hca1 := ext_none E1 hca0
    have n3 := ne_of_none hca0 hr
    refine i_next ?_
    dsimp only [setv_mu]
    have E2 : ∀ y p, μ y = some p → upd (upd M1 na (MObj.tdict [])) ca (MObj.idict []) y = some p := ext_upd (ext_upd E1 hna1) hca1
    have c1 : upd (upd M1 na (MObj.tdict [])) ca (MObj.idict []) r = some (.idict (embC (colsOf T.steps))) := (upd_ne _ _ n3.symm).trans ((upd_ne _ _ n1.symm).trans hr)
    have c2 : upd (upd M1 na (MObj.tdict [])) ca (MObj.idict []) na = some (.tdict (embN [])) := (upd_ne _ _ n2.symm).trans (upd_self _ _ _)
    have c3 : upd (upd M1 na (MObj.tdict [])) ca (MObj.idict []) ca = some (.idict (embD [])) := upd_self _ _ _
    generalize upd (upd M1 na (MObj.tdict [])) ca (MObj.idict []) = M2 at E2 c1 c2 c3 ⊢
    have X2 := X.mono E2
    have i1 := X2.inst
    have i2 := X2.attrs
    have rc := rn_count X2 z6
    have lr : (List.replicate (T.steps.length : Int).toNat (MV.int (-1))).length ≤ 1000000 := by rw [List.length_replicate]; lia
    refine i_seq (s_list (rd_a (rd_N (rd_a (rd_2 (rd_flist (rd_a rd_lit rd_a0) (Nat.le_of_ble_eq_true rfl)) (rd_meth (rd_var rfl) i1 i2 m1 rfl rd_a0 rc) (r2_mulF (by walk_at "ln") (by walk_at "ln"))) rd_a0) (rn_tupleF lr)) rd_a0) (Nat.le_of_ble_eq_true rfl) ?_)
    intro ka hka
    have hka : M2 ka = none := hka
    have hka1 := ext_none E2 hka
    have n4 := ne_of_none hka c1
    have n5 := ne_of_none hka c2
    have n6 := ne_of_none hka c3
    have hrep : MV.tup (List.replicate (T.steps.length : Int).toNat (MV.int (-1))) = itup (List.replicate T.steps.length (-1)) := by unfold itup; rw [List.map_replicate]; rfl
    refine i_next ?_
    rw [hrep]
    dsimp only [setv_mu]
    have E3 : ∀ y p, μ y = some p → upd M2 ka (MObj.list [itup (List.replicate T.steps.length (-1))]) y = some p := ext_upd E2 hka1
    have d1 : upd M2 ka (MObj.list [itup (List.replicate T.steps.length (-1))]) r = some (.idict (embC (colsOf T.steps))) := (upd_ne _ _ n4.symm).trans c1
    have d2 : upd M2 ka (MObj.list [itup (List.replicate T.steps.length (-1))]) na = some (.tdict (embN [])) := (upd_ne _ _ n5.symm).trans c2
    have d3 : upd M2 ka (MObj.list [itup (List.replicate T.steps.length (-1))]) ca = some (.idict (embD [])) := (upd_ne _ _ n6.symm).trans c3
    have d4 : upd M2 ka (MObj.list [itup (List.replicate T.steps.length (-1))]) ka = some (.list ((List.replicate T.steps.length (-1) :: []).map itup)) := upd_self _ _ _
    generalize upd M2 ka (MObj.list [itup (List.replicate T.steps.length (-1))]) = M3 at E3 d1 d2 d3 d4 ⊢
    clear rc i1 i2 X2 lr
    have G := glyphs_gl hgl
    have hnd : ((colsOf T.steps).map (·.1)).Nodup := by rw [cols_keys]; exact (srt_perm _ _).nodup_iff.mpr G.nd
    have hcl : (colsOf T.steps).length ≤ 4 := by
      have := G.len
      rw [← List.length_map (f := (·.1)), cols_keys, (srt_perm _ _).length_eq]; exact this
    have hcn : ∀ p ∈ colsOf T.steps, p.2.length = T.steps.length := fun p hp => by
      unfold colsOf at hp
      refine el1_2 (List.mem_map.mp hp) fun g _ eqz4 => ?_
      subst eqz4
      exact List.length_map _
    refine' i_seq (s_forKeys (rd_var ?vc) d1 fun kvs ep => ?_)
    case vc => exact (v_other (by decide) (v_mk (v_other (by decide) (v_mk (v_other (by decide) (v_mk v_same))))))
    refine wLoop_inv (fun l σ => ∃ rest K cls, l = rest.map (fun p => MV.int p.1) ∧ StI T μ t r na ca ka (.ipin kvs ep (embC (colsOf T.steps))) rest K cls σ) ?_ ?_ ?_
    · intro σ hz5
      refine el3_2 hz5 fun rest K cls e1 R => ?_; clear hz5
      obtain rfl := List.map_eq_nil_iff.mp e1.symm
      have v1 := R.v1
      have v2 := R.v2
      have v4 := R.v4
      have v5 := R.v5
      have k4 := R.k4
      have kl := R.kl
      have ER := ext_upd (x := r) (o := .idict (embC (colsOf T.steps))) R.E hrn
      have XT := X.mono ER
      have e3 : upd σ.mu r (.idict (embC (colsOf T.steps))) ca = some (.idict (embD cls)) := (upd_ne _ _ n3).trans R.f3
      have e4 : upd σ.mu r (.idict (embC (colsOf T.steps))) ka = some (.list ((List.replicate T.steps.length (-1) :: K).map itup)) := (upd_ne _ _ n4).trans R.f4
      refine ⟨trivial, i_next ?_⟩
      generalize upd σ.mu r (.idict (embC (colsOf T.steps))) = M4 at ER XT e3 e4 ⊢
      have i1 := XT.inst
      have i2 := XT.attrs
      have rc := rn_count XT z6
      rw [List.length_nil] at k4
      have eR : MV.flist ((List.range T.steps.length).map fun i => MV.flist (((List.replicate T.steps.length (-1) :: K).map fun x => MV.int (x.getD i 0)))) = rowsMV (tableRows T.steps.length K) := by
        unfold rowsMV tableRows
        rw [List.map_map]
        refine congrArg _ (List.map_congr_left fun i _ => ?_)
        simp only [Function.comp, List.map_map]
        rfl
      refine' i_seq (s_assign (d := rowsMV (tableRows T.steps.length K)) ?s0 (i_next ?_))
      case s0 =>
        rw [← eR]
        refine' rd_comp (items := List.range T.steps.length) (emb := fun (i : Nat) => MV.int (0 + (i : Int) * 1)) (fun i => MV.flist (((List.replicate T.steps.length (-1) :: K).map fun x => MV.int (x.getD i 0)))) (need := fun _ => True) ?src (fun _ _ _ => trivial) (by rw [List.length_range]; lia) ?bd
        case src =>
          refine' ri_1 (i := (T.steps.length : Int)) ?arg (by lia)
          exact (rd_a (rd_meth (rd_var v1) i1 i2 m1 rfl rd_a0 rc) rd_a0)
        case bd =>
          intro D hD i hi V its vs hV hx
          have hD : M4 D = none := hD
          have e5 : upd M4 D (.pin its vs) ka = some (.list ((List.replicate T.steps.length (-1) :: K).map itup)) := m_pin e4 hD
          have hil : i < T.steps.length := List.mem_range.mp hi
          have e0 : (0 : Int) + (i : Int) * 1 = i := by lia
          rw [e0] at hx
          refine' rd_comp (emb := itup) (fun x => .int (x.getD i 0)) (ri_R (rd_var ?va) e5) (fun D2 p hD2 => m_pin e5 hD2) (by rw [List.length_cons]; lia) ?bd2
          case va => exact (v_mk (v_comp hV (by decide) v5))
          case bd2 =>
            intro D2 hD2 x hxm V4 its4 vs4 hV4 hx4
            have hxl : x.length = T.steps.length := by
              rcases List.mem_cons.mp hxm with q | q
              · rw [q]; exact List.length_replicate
              · exact kl x q
            have hx2 : (x.map MV.int)[i]? = some (.int (x.getD i 0)) := by
              rw [List.getElem?_map, List.getElem?_eq_getElem (by lia), getD_at (by lia)]; rfl
            have hx3 : (x.map MV.int).length ≤ 1000000 := by rw [List.length_map]; lia
            have hx4 : V4 (Str.ofString "column") = some (.tup (x.map MV.int)) := hx4
            exact (rd_2 (rd_var hx4) (rd_var (v_mk (v_comp hV4 (by decide) hx))) (r2_getT (by walk_at "ln") hx2 hx3))
      have hKst : K = (stGo (colsOf T.steps) [] []).1 := by rw [← R.go]; rfl
      have hcst : cls = (stGo (colsOf T.steps) [] []).2 := by rw [← R.go]; rfl
      have hE' : (T.ends.map MV.int).length ≤ 1000000 := by rw [List.length_map]; lia
      refine' i_seq (i_ret (i_wN (i_args (i_wN1 (i_var ?va3 ⟨_, rfl, fun cd dc M5 q1 q2 q3 q4 E5 => ?_⟩)))))
      case va3 => exact v4
      have X5 := XT.mono E5
      have k1 := X5.inst
      have k2 := X5.attrs
      have k3 := X5.ends
      have q5 := E5 _ _ e3
      dsimp only
      refine' i_rdA (ds := [rowsMV (tableRows T.steps.length K), .flist (T.ends.map MV.int)]) ?ra ⟨_, _, _, rfl, fun tb dt M6 p1 p2 p3 p4 E6 => ?_⟩
      case ra => exact (rd_a (rd_var rfl) (rd_a (rd_N (rd_a (rd_attr (rd_var v1) k1 k2 g2 rfl) rd_a0) (rn_listR k3 hE')) rd_a0))
      refine h tb dt cd dc ca M6 ⟨p1, ?_⟩ ⟨E6 _ _ q1, E6 _ _ q2, ?_⟩ fun y p e => E6 _ _ (E5 _ _ (ER y p e))
      · rw [← hKst]; exact p2
      · rw [← hcst]; exact E6 _ _ q5
    · intro d l σ C hz501 hC _
      refine el3_2 hz501 fun rest K cls e1 R => ?_
      clear hz501
      cases rest with
      | nil => cases e1
      | cons p rest =>
      injection e1 with e1 e2
      subst e1
      subst e2
      have v1 := R.v1
      have v2 := R.v2
      have v3 := R.v3
      have v4 := R.v4
      have v5 := R.v5
      have f1 := R.f1
      have f2 := R.f2
      have f3 := R.f3
      have f4 := R.f4
      have k4 := R.k4
      have c4 := R.c4
      rw [List.length_cons] at k4 c4
      have hd := dget_embC hnd (R.mem p List.mem_cons_self)
      have hlen := hcn p (R.mem p List.mem_cons_self)
      have rg : Rd2 pGetP (.ref r) (.int p.1) σ.mu (.tup (p.2.map MV.int)) := r2_getP f1 hd
      have hkk := keys_ints 5 p.2
      have hdg := dget_embN K p.2
      have hK1 : (embN K).length ≤ 1000000 := by rw [embN_len]; lia
      have hK2 : (embD cls).length ≤ 1000000 := by rw [embD, List.length_map]; lia
      have hK3 : ((List.replicate T.steps.length (-1 : Int) :: K).map itup).length ≤ 1000000 := by rw [List.length_map, List.length_cons]; lia
      refine ⟨trivial, i_setv ?_⟩
      refine i_seq (s_assign (rd_2 (rd_var v2) (rd_var rfl) rg) (i_next ?_))
      by_cases hin : p.2 ∈ K
      · rw [if_pos hin] at hdg
        refine i_seq (s_condF (rt_cmp (rd_var rfl) (rd_var v3) (r2_niKy f2 hkk hdg)) ?_)
        with_reducible refine i_nil (i_next ?_)
        refine i_seq (s_store (rd_2 (rd_var v3) (rd_var rfl) (r2_getK f2 hkk hdg)) (rd_var v4) (rd_var rfl) (rs_I f3 hK2) (i_next ?_))
        rw [dset_dsi]
        refine i_nil (hC _ ⟨rest, K, dsi cls p.1 (1 + (posOf K p.2 : Int)), rfl, fun q hq => R.mem q (List.mem_cons_of_mem _ hq), ?_, by lia, ?_, R.kl, ?_, ?_, ?_, ?_, ?_, (upd_ne _ _ n3.symm).trans f1, (upd_ne _ _ n2.symm).trans f2, upd_self _ _ _, (upd_ne _ _ n6).trans f4, ext_upd R.E hca1⟩)
        · rw [← R.go, stGo]
          have : addKind K p.2 = K := if_pos hin
          rw [this]
        · have := dsi_len cls p.1 (1 + (posOf K p.2 : Int))
          lia
        · exact v1
        · exact v2
        · exact v3
        · exact v4
        · exact v5
      · rw [if_neg hin] at hdg
        refine i_seq (s_condT (rt_cmp (rd_var rfl) (rd_var v3) (r2_niKn f2 hkk hdg)) ?_)
        refine i_seq (s_store (rd_N (rd_a (rd_var v5) rd_a0) (rn_lenM f4 (by walk_at "ln"))) (rd_var v3) (rd_var rfl) (rs_K f2 hkk hK1) (i_next ?_))
        have hsn : dset (embN K) (p.2.map MV.int) (.int ((List.replicate T.steps.length (-1 : Int) :: K).length : Nat)) = embN (K ++ [p.2]) := by
          rw [dset_new hdg, embN_snoc, List.length_cons]
          have : ((K.length + 1 : Nat) : Int) = 1 + (K.length : Int) := by lia
          rw [this]
        rw [hsn]
        dsimp only [setv_mu]
        have f4' : upd σ.mu na (.tdict (embN (K ++ [p.2]))) ka = some (.list ((List.replicate T.steps.length (-1) :: K).map itup)) := (upd_ne _ _ n5).trans f4
        refine i_seq (s_append (rd_var v5) f4' (rd_var rfl) hK3 (i_next ?_))
        have eM : ((List.replicate T.steps.length (-1) :: K).map itup ++ [MV.tup (p.2.map MV.int)]) = (List.replicate T.steps.length (-1) :: (K ++ [p.2])).map itup := by rw [List.map_cons, List.map_cons, List.map_append]; rfl
        rw [eM]
        with_reducible refine i_nil (i_next ?_)
        have hdg2 := dget_embN (K ++ [p.2]) p.2
        rw [if_pos (List.mem_append_right _ List.mem_cons_self)] at hdg2
        have f2' : upd (upd σ.mu na (.tdict (embN (K ++ [p.2])))) ka (.list ((List.replicate T.steps.length (-1) :: (K ++ [p.2])).map itup)) na = some (.tdict (embN (K ++ [p.2]))) := (upd_ne _ _ n5.symm).trans (upd_self _ _ _)
        have f3' : upd (upd σ.mu na (.tdict (embN (K ++ [p.2])))) ka (.list ((List.replicate T.steps.length (-1) :: (K ++ [p.2])).map itup)) ca = some (.idict (embD cls)) := (upd_ne _ _ n6.symm).trans ((upd_ne _ _ n2).trans f3)
        refine i_seq (s_store (rd_2 (rd_var v3) (rd_var rfl) (r2_getK f2' hkk hdg2)) (rd_var v4) (rd_var rfl) (rs_I f3' hK2) (i_next ?_))
        rw [dset_dsi]
        have hak : addKind K p.2 = K ++ [p.2] := if_neg hin
        refine i_nil (hC _ ⟨rest, K ++ [p.2], dsi cls p.1 (1 + (posOf (K ++ [p.2]) p.2 : Int)), rfl, fun q hq => R.mem q (List.mem_cons_of_mem _ hq), ?_, by rw [List.length_append, List.length_singleton]; lia, ?_, ?_, ?_, ?_, ?_, ?_, ?_, (upd_ne _ _ n3.symm).trans ((upd_ne _ _ n4.symm).trans ((upd_ne _ _ n1.symm).trans f1)), (upd_ne _ _ n2.symm).trans f2', upd_self _ _ _, (upd_ne _ _ n6).trans (upd_self _ _ _), ext_upd (ext_upd (ext_upd R.E hna1) hka1) hca1⟩)
        · rw [← R.go, stGo, hak]
        · have := dsi_len cls p.1 (1 + (posOf (K ++ [p.2]) p.2 : Int))
          lia
        · intro x hx
          rcases List.mem_append.mp hx with q | q
          · exact R.kl x q
          · rw [List.mem_singleton.mp q]; exact hlen
        · exact v1
        · exact v2
        · exact v3
        · exact v4
        · exact v5
    · refine ⟨colsOf T.steps, [], [], ?_, fun p hp => hp, rfl, by rw [List.length_nil]; lia, by rw [List.length_nil]; lia, (fun _ m => nomatch m), ?_, ?_, ?_, ?_, ?_, upd_self _ _ _, (upd_ne _ _ n1).trans d2, (upd_ne _ _ n3).trans d3, (upd_ne _ _ n4).trans d4, ext_upd E3 hrn⟩
      · unfold embC; rw [List.map_map]; rfl
      · exact (v_mk (v_other (by decide) (v_mk (v_other (by decide) (v_mk (v_other (by decide) (v_mk (v_other (by decide) (v_mk v_par1)))))))))
      · exact (v_mk (v_other (by decide) (v_mk (v_other (by decide) (v_mk (v_other (by decide) (v_mk v_same)))))))
      · exact (v_mk (v_other (by decide) (v_mk (v_other (by decide) (v_mk v_same)))))
      · exact (v_mk (v_other (by decide) (v_mk v_same)))
      · exact (v_mk v_same)
end
end Mine
namespace Mine
open Classical
noncomputable def kindsOf (l : List (Int × List Int)) (K : List (List Int)) : List (List Int) := l.foldl (fun K p => addKind K p.2) K
theorem posOf_add {K : List (List Int)} {c d : List Int} (h : c ∈ K) : posOf (addKind K d) c = posOf K c ∧ c ∈ addKind K d := by
  unfold addKind
  split
  · exact ⟨rfl, h⟩
  · exact ⟨by rw [posOf_snoc, if_pos h], by simp [h]⟩
theorem posOf_kinds : ∀ {l : List (Int × List Int)} {K : List (List Int)} {c : List Int}, c ∈ K → posOf (kindsOf l K) c = posOf K c ∧ c ∈ kindsOf l K
  | [], K, c, h => ⟨rfl, h⟩
  | p :: l, K, c, h => by
    have h1 := posOf_add (d := p.2) h
    have h2 := posOf_kinds (l := l) h1.2
    exact ⟨h2.1.trans h1.1, h2.2⟩
theorem dgi_snoc (d : List (Int × Int)) (g j g' : Int) : dgi (d ++ [(g, j)]) g' = match dgi d g' with
    | some x => some x
    | none => if g = g' then some j else none := by
  unfold dgi
  rw [List.find?_append]
  cases d.find? (fun e => decide (e.1 = g')) with
  | some p => simp
  | none => by_cases h : g = g' <;> simp [h]
theorem stGo_spec : ∀ (l : List (Int × List Int)) (K : List (List Int)) (cls : List (Int × Int)), (l.map (·.1)).Nodup → (∀ p ∈ l, dgi cls p.1 = none) →
    (stGo l K cls).1 = kindsOf l K ∧ (∀ p ∈ l, dgi (stGo l K cls).2 p.1 = some (1 + (posOf (kindsOf l K) p.2 : Int)) ∧ p.2 ∈ kindsOf l K) ∧ ∀ g, g ∉ l.map (·.1) → dgi (stGo l K cls).2 g = dgi cls g
  | [], K, cls, _, _ => ⟨rfl, (fun _ m => nomatch m), fun _ _ => rfl⟩
  | (g, c) :: l, K, cls, hnd, hno => by
    simp only [List.map_cons, List.nodup_cons] at hnd
    have hg : dgi cls g = none := hno _ List.mem_cons_self
    have e : dsi cls g (1 + (posOf (addKind K c) c : Int)) = cls ++ [(g, 1 + (posOf (addKind K c) c : Int))] := dsi_new hg
    obtain ⟨i1, i2, i3⟩ := stGo_spec l (addKind K c) (dsi cls g (1 + (posOf (addKind K c) c : Int))) hnd.2 fun p hp => by
      rw [e, dgi_snoc, hno p (List.mem_cons_of_mem _ hp)]
      exact if_neg fun (q : g = p.1) => hnd.1 (q ▸ List.mem_map.mpr ⟨p, hp, rfl⟩)
    refine ⟨i1, fun p hp => ?_, fun g' hg' => ?_⟩
    · rcases List.mem_cons.mp hp with rfl | m
      · obtain ⟨a, b⟩ := posOf_kinds (l := l) (mem_addKind (K := K) (c := c))
        refine ⟨?_, b⟩
        show dgi (stGo l _ _).2 g = some (1 + (posOf (kindsOf l (addKind K c)) c : Int))
        rw [i3 g hnd.1, e, dgi_snoc, hg, a]
        exact if_pos rfl
      · exact i2 p m
    · simp only [List.map_cons, List.mem_cons, not_or] at hg'
      show dgi (stGo l _ _).2 g' = _
      rw [i3 g' hg'.2, e, dgi_snoc]
      cases dgi cls g' with
      | some x => rfl
      | none => exact if_neg fun q => hg'.1 q.symm
theorem kinds_len : ∀ {l : List (Int × List Int)} {K : List (List Int)}, (kindsOf l K).length ≤ K.length + l.length
  | [], K => Nat.le_refl _
  | p :: l, K => by
    have := kinds_len (l := l) (K := addKind K p.2)
    have h2 : (addKind K p.2).length ≤ K.length + 1 := by unfold addKind; split <;> simp
    show (kindsOf l (addKind K p.2)).length ≤ _
    simp only [List.length_cons]; omega
theorem posOf_spec {K : List (List Int)} {c : List Int} (h : c ∈ K) : (K.map itup)[posOf K c]? = some (itup c) ∧ ∀ j < posOf K c, (K.map itup)[j]? ≠ some (itup c) := by
  have hl := posOf_mem h
  constructor
  · have := List.findIdx_getElem (xs := K) (p := fun x => decide (x = c)) (w := hl)
    rw [decide_eq_true_eq] at this
    rw [List.getElem?_map, List.getElem?_eq_getElem hl]
    exact congrArg (fun x => some (itup x)) this
  · intro j hj e
    have := List.not_of_lt_findIdx hj
    rw [List.getElem?_map, List.getElem?_eq_getElem (by omega)] at e
    simp only [Option.map_some, Option.some.injEq] at e
    rw [itup_inj.mp e, decide_eq_false_iff_not] at this
    exact this rfl
noncomputable def wordD (ws : List (List Int × Int)) : List (List MV × MV) := ws.map fun p => (p.1.map MV.int, .int p.2)
theorem dget_wordD (ws : List (List Int × Int)) (s : List Int) : (dget (wordD ws) (s.map MV.int)).getD (.int (-1)) = .int (((ws.find? fun p => decide (p.1 = s)).map (·.2)).getD (-1)) := by
  induction ws with
  | nil => rfl
  | cons p ws ih =>
    unfold dget wordD at ih ⊢
    rw [List.map_cons, List.find?_cons, List.find?_cons]
    by_cases h : p.1 = s
    · have : p.1.map MV.int = s.map MV.int := by rw [h]
      simp [h]
    · have : ¬ p.1.map MV.int = s.map MV.int := fun e => h (map_int_inj.mp e)
      simp only [this, h, decide_false]
      exact ih
theorem wordD_nd {ws : List (List Int × Int)} (h : (ws.map (·.1)).Nodup) : ((wordD ws).map (·.1)).Nodup := by
  unfold wordD
  rw [List.map_map]
  have : (fun x : List MV × MV => x.1) ∘ (fun p : List Int × Int => (p.1.map MV.int, MV.int p.2)) = (fun l : List Int => l.map MV.int) ∘ fun p : List Int × Int => p.1 := rfl
  rw [this, ← List.map_map]
  rw [List.nodup_iff_pairwise_ne] at h ⊢
  exact List.Pairwise.map _ (fun a b hab e => hab (map_int_inj.mp e)) h
noncomputable def duesay (due : List (Int × List Int)) (n : Nat) (g : Int) : Int := match due.find? (fun p => decide (p.1 = g)) with
  | some p => p.2.getD n 0
  | none => -1
theorem table_val {due : List (Int × List Int)} {N : Nat} (hnd : (due.map (·.1)).Nodup) (hl : ∀ p ∈ due, p.2.length = N) {n : Nat} (hn : n < N) (g : Int) :
    ∃ r, (tableRows N (stGo due [] []).1)[n]? = some r ∧ 0 ≤ (dgi (stGo due [] []).2 g).getD 0 ∧ r[((dgi (stGo due [] []).2 g).getD 0).toNat]? = some (duesay due n g) := by
  refine el0_3 (stGo_spec due [] [] hnd fun _ _ => rfl) fun h1 h2 h3 => ?_
  refine ⟨(List.replicate N (-1) :: (stGo due [] []).1).map fun c => c.getD n 0, ?_, ?_⟩
  · unfold tableRows
    rw [List.getElem?_map, List.getElem?_range hn]; rfl
  · unfold duesay
    cases hf : due.find? (fun p => decide (p.1 = g)) with
    | some p =>
      have hp := List.mem_of_find?_eq_some hf
      have he := List.find?_some hf
      simp only [decide_eq_true_eq] at he
      subst he
      obtain ⟨a, b⟩ := h2 p hp
      rw [a, Option.getD_some, h1]
      have hpos := posOf_mem b
      refine ⟨by omega, ?_⟩
      have e : (1 + (posOf (kindsOf due []) p.2 : Int)).toNat = posOf (kindsOf due []) p.2 + 1 := by omega
      rw [e, List.map_cons, List.getElem?_cons_succ, List.getElem?_map, List.getElem?_eq_getElem hpos]
      have : (kindsOf due [])[posOf (kindsOf due []) p.2] = p.2 := by
        have := List.findIdx_getElem (xs := kindsOf due []) (p := fun x => decide (x = p.2)) (w := hpos)
        rw [decide_eq_true_eq] at this
        exact this
      rw [this]; rfl
    | none =>
      have hg : g ∉ due.map (·.1) := fun m => by
        refine el1_2 (List.mem_map.mp m) fun p hp e => ?_
        rw [List.find?_eq_none] at hf
        exact hf p hp (by simpa using e)
      rw [h3 g hg]
      show 0 ≤ (0 : Int) ∧ _
      refine ⟨Int.le_refl _, ?_⟩
      show ((List.replicate N (-1) :: (stGo due [] []).1).map fun c => c.getD n 0)[0]? = _
      simp [hn]
end Mine
namespace Mine
open Classical
noncomputable def go (T : Tr) : Nat → List Int → Option Nat
  | n, [] => some n
  | n, g :: r => match dgi (T.steps.getD n []) g with
    | some j => go T j.toNat r
    | none => none
theorem go_cons (T : Tr) (n : Nat) (g : Int) (r : List Int) : go T n (g :: r) = match dgi (T.steps.getD n []) g with
    | some j => go T j.toNat r
    | none => none := rfl
theorem go_append (T : Tr) : ∀ (s t : List Int) (n : Nat), go T n (s ++ t) = (go T n s).bind fun m => go T m t
  | [], t, n => rfl
  | g :: s, t, n => by
    rw [List.cons_append, go_cons, go_cons]
    cases dgi (T.steps.getD n []) g with
    | some j => exact go_append T s t j.toNat
    | none => rfl
theorem go_lt {T : Tr} (O : TrOk T) : ∀ {s : List Int} {n m : Nat}, n < T.steps.length → go T n s = some m → m < T.steps.length
  | [], n, m, hn, e => by cases e; exact hn
  | g :: s, n, m, hn, e => by
    unfold go at e
    cases h : dgi (T.steps.getD n []) g with
    | none => rw [h] at e; cases e
    | some j =>
      rw [h] at e
      have := O.child _ (by rw [getD_at hn]; exact List.getElem_mem hn) _ (dgi_mem h)
      exact go_lt O (n := j.toNat) (by omega) e
structure TJ (T : Tr) (P : List Int → Prop) (E : List Int → Int) : Prop where
  ok : TrOk T
  asc : Asc T
  nd : ∀ d ∈ T.steps, (d.map (·.1)).Nodup
  walk : ∀ s, (∃ n, go T 0 s = some n) ↔ P s
  inj : ∀ s s' n, go T 0 s = some n → go T 0 s' = some n → s = s'
  sur : ∀ n, n < T.steps.length → ∃ s, go T 0 s = some n
  ends : ∀ s n, go T 0 s = some n → T.ends.getD n 0 = E s
noncomputable def growT (T : Tr) (n : Nat) (g : Int) : Tr := ⟨T.steps.set n (T.steps.getD n [] ++ [(g, (T.steps.length : Int))]) ++ [[]], T.ends ++ [-1]⟩
theorem grow_at {T : Tr} {n m : Nat} (hn : n < T.steps.length) (g : Int) (hm : m < T.steps.length) : (growT T n g).steps.getD m [] = if m = n then T.steps.getD n [] ++ [(g, (T.steps.length : Int))] else T.steps.getD m [] := by
  unfold growT
  simp only
  rw [List.getD_eq_getElem?_getD, List.getElem?_append_left (by simpa using hm)]
  by_cases h : m = n
  · subst h; rw [List.getElem?_set_self hm, if_pos rfl]; rfl
  · rw [List.getElem?_set_ne (Ne.symm h), if_neg h, ← List.getD_eq_getElem?_getD]
theorem grow_new {T : Tr} {n : Nat} (g : Int) : (growT T n g).steps.getD T.steps.length [] = [] := by
  unfold growT
  simp only
  rw [List.getD_eq_getElem?_getD, List.getElem?_append_right (by simp)]
  simp
theorem go_grow {T : Tr} (O : TrOk T) (A : Asc T) {n : Nat} (hn : n < T.steps.length) {g : Int} (hg : dgi (T.steps.getD n []) g = none) : ∀ (s : List Int) (m k : Nat), m < T.steps.length →
    (go (growT T n g) m s = some k ↔ go T m s = some k ∨ (k = T.steps.length ∧ ∃ s1, s = s1 ++ [g] ∧ go T m s1 = some n))
  | [], m, k, hm => by
    constructor
    · intro h; exact .inl h
    · rintro (h | ⟨_, s1, e, _⟩)
      · exact h
      · simp at e
  | x :: r, m, k, hm => by
    have hstep : ∀ j, dgi (T.steps.getD m []) x = some j → (go (growT T n g) j.toNat r = some k ↔ go T j.toNat r = some k ∨ (k = T.steps.length ∧ ∃ s1, x :: r = s1 ++ [g] ∧ go T m s1 = some n)) := fun j hj => by
      have hd := O.child _ (by rw [getD_at hm]; exact List.getElem_mem hm) _ (dgi_mem hj)
      have hjl : j.toNat < T.steps.length := by simp only at hd; omega
      rw [go_grow O A hn hg r j.toNat k hjl]
      constructor
      · rintro (h | ⟨e, s1, e1, h⟩)
        · exact .inl h
        · refine .inr ⟨e, x :: s1, by rw [e1]; rfl, ?_⟩
          show go T m (x :: s1) = some n
          unfold go
          rw [hj]; exact h
      · rintro (h | ⟨e, s1, e1, h⟩)
        · exact .inl h
        · cases s1 with
          | nil =>
            simp only [List.nil_append, List.cons.injEq] at e1
            obtain ⟨rfl, rfl⟩ := e1
            cases h
            rw [hg] at hj; cases hj
          | cons y s1 =>
            simp only [List.cons_append, List.cons.injEq] at e1
            obtain ⟨rfl, rfl⟩ := e1
            refine .inr ⟨e, s1, rfl, ?_⟩
            unfold go at h
            rw [hj] at h; exact h
    have hnone : dgi (T.steps.getD m []) x = none → ∀ s1, x :: r = s1 ++ [g] → go T m s1 = some n → s1 = [] := fun hx s1 e h => by
      cases s1 with
      | nil => rfl
      | cons y s1 =>
        simp only [List.cons_append, List.cons.injEq] at e
        obtain ⟨rfl, rfl⟩ := e
        unfold go at h
        rw [hx] at h; cases h
    show (match dgi ((growT T n g).steps.getD m []) x with
      | some j => go (growT T n g) j.toNat r
      | none => none) = some k ↔ (match dgi (T.steps.getD m []) x with
      | some j => go T j.toNat r
      | none => none) = some k ∨ _
    rw [grow_at hn g hm]
    by_cases hmn : m = n
    · subst hmn
      rw [if_pos rfl, dgi_snoc]
      cases hx : dgi (T.steps.getD m []) x with
      | some j => exact hstep j hx
      | none =>
        simp only
        by_cases hgx : g = x
        · subst hgx
          rw [if_pos rfl]
          simp only [Int.toNat_natCast]
          cases r with
          | nil =>
            constructor
            · intro h
              cases h
              exact .inr ⟨rfl, [], rfl, rfl⟩
            · rintro (h | ⟨e, _⟩)
              · cases h
              · rw [e]; rfl
          | cons y r =>
            constructor
            · intro h
              unfold go at h
              rw [grow_new] at h
              cases h
            · rintro (h | ⟨e, s1, e1, h⟩)
              · cases h
              · rw [hnone hx s1 e1 h] at e1
                simp at e1
        · rw [if_neg hgx]
          constructor
          · intro h; cases h
          · rintro (h | ⟨e, s1, e1, h⟩)
            · cases h
            · rw [hnone hx s1 e1 h] at e1
              simp only [List.nil_append, List.cons.injEq] at e1
              exact absurd e1.1.symm hgx
    · rw [if_neg hmn]
      cases hx : dgi (T.steps.getD m []) x with
      | some j => exact hstep j hx
      | none =>
        constructor
        · intro h; cases h
        · rintro (h | ⟨e, s1, e1, h⟩)
          · cases h
          · rw [hnone hx s1 e1 h] at h
            cases h
            exact absurd rfl hmn
theorem TJ.grow {T : Tr} {P : List Int → Prop} {E : List Int → Int} (J : TJ T P E) {n : Nat} {pre : List Int} {g : Int} (hp : go T 0 pre = some n) (hg : dgi (T.steps.getD n []) g = none) (hE : E (pre ++ [g]) = -1) :
    TJ (growT T n g) (fun s => P s ∨ s = pre ++ [g]) E ∧ go (growT T n g) 0 (pre ++ [g]) = some T.steps.length := by
  have O := J.ok
  have hn := go_lt O O.pos hp
  have hgo := fun s k => go_grow O J.asc hn hg s 0 k O.pos
  have hlen : (growT T n g).steps.length = T.steps.length + 1 := by simp [growT]
  have hbound : ∀ s k, go T 0 s = some k → k < T.steps.length := fun s k e => go_lt O O.pos e
  have hnew : go (growT T n g) 0 (pre ++ [g]) = some T.steps.length := (hgo _ _).mpr (.inr ⟨rfl, pre, rfl, hp⟩)
  refine ⟨⟨O.grow hn g, fun m hm p hpm => ?_, fun d hd => ?_, fun s => ?_, fun s s' k h h' => ?_, fun m hm => ?_, fun s k h => ?_⟩, hnew⟩
  · rw [hlen] at hm
    by_cases hml : m < T.steps.length
    · have e := grow_at (n := n) hn g hml
      rw [getD_at (by rw [hlen]; omega)] at e
      rw [e] at hpm
      split at hpm
      · rename_i q
        subst q
        rcases List.mem_append.mp hpm with hpm | hpm
        · rw [getD_at hml] at hpm; exact J.asc m hml p hpm
        · rw [List.mem_singleton.mp hpm]; simp only; omega
      · rw [getD_at hml] at hpm; exact J.asc m hml p hpm
    · have e : m = T.steps.length := by omega
      subst e
      have := grow_new (T := T) (n := n) g
      rw [getD_at (by rw [hlen]; omega)] at this
      rw [this] at hpm; cases hpm
  · unfold growT at hd
    rcases List.mem_append.mp hd with hd | hd
    · rcases List.mem_or_eq_of_mem_set hd with hd | hd
      · exact J.nd d hd
      · subst hd
        have hm : T.steps.getD n [] ∈ T.steps := by rw [getD_at hn]; exact List.getElem_mem hn
        rw [List.map_append, List.nodup_append]
        refine ⟨J.nd _ hm, List.nodup_cons.mpr ⟨List.not_mem_nil, List.nodup_nil⟩, fun a ha b hb e => ?_⟩
        simp only [List.map_cons, List.map_nil, List.mem_singleton] at hb
        subst hb
        subst e
        obtain ⟨j, hj⟩ := dgi_some ha
        rw [hg] at hj; cases hj
    · rw [List.mem_singleton.mp hd]; exact List.nodup_nil
  · constructor
    · rintro ⟨k, h⟩
      rcases (hgo s k).mp h with h | ⟨_, s1, e, h⟩
      · exact .inl ((J.walk s).mp ⟨k, h⟩)
      · exact .inr (by rw [e, J.inj _ _ _ h hp])
    · rintro (h | h)
      · obtain ⟨k, h⟩ := (J.walk s).mpr h
        exact ⟨k, (hgo s k).mpr (.inl h)⟩
      · rw [h]; exact ⟨_, hnew⟩
  · rcases (hgo s k).mp h with h | ⟨e, s1, e1, h⟩ <;> rcases (hgo s' k).mp h' with h' | ⟨e', s1', e1', h'⟩
    · exact J.inj _ _ _ h h'
    · have := hbound _ _ h; omega
    · have := hbound _ _ h'; omega
    · rw [e1, e1', J.inj _ _ _ h h']
  · rw [hlen] at hm
    by_cases hml : m < T.steps.length
    · obtain ⟨s, h⟩ := J.sur m hml
      exact ⟨s, (hgo s m).mpr (.inl h)⟩
    · have e : m = T.steps.length := by omega
      rw [e]; exact ⟨_, hnew⟩
  · rcases (hgo s k).mp h with h | ⟨e, s1, e1, h⟩
    · have hk := hbound _ _ h
      rw [← J.ends s k h]
      show (T.ends ++ [-1]).getD k 0 = _
      rw [List.getD_eq_getElem?_getD, List.getElem?_append_left (by rw [O.ends]; exact hk), ← List.getD_eq_getElem?_getD]
    · rw [e, e1, J.inj _ _ _ h hp, hE]
      show (T.ends ++ [-1]).getD T.steps.length 0 = _
      rw [List.getD_eq_getElem?_getD, List.getElem?_append_right (by rw [O.ends]; exact Nat.le_refl _), O.ends]
      simp
theorem TJ.congr {T : Tr} {P P' : List Int → Prop} {E : List Int → Int} (J : TJ T P E) (h : ∀ s, P s ↔ P' s) : TJ T P' E := ⟨J.ok, J.asc, J.nd, fun s => (J.walk s).trans (h s), J.inj, J.sur, J.ends⟩
theorem TJ.add {E : List Int → Int} : ∀ {r : List Int} {T : Tr} {P : List Int → Prop} {n : Nat} {pre : List Int}, TJ T P E → go T 0 pre = some n → (∀ s, ¬ P s → E s = -1) →
    TJ (addGo T n r).1 (fun s => P s ∨ ∃ k, s = pre ++ r.take k) E ∧ go (addGo T n r).1 0 (pre ++ r) = some (addGo T n r).2
  | [], T, P, n, pre, J, hp, hE => by
    refine ⟨J.congr fun s => ⟨.inl, ?_⟩, by simpa [addGo] using hp⟩
    rintro (h | ⟨k, e⟩)
    · exact h
    · rw [e]; simp only [List.take_nil, List.append_nil]; exact (J.walk pre).mp ⟨n, hp⟩
  | g :: r, T, P, n, pre, J, hp, hE => by
    have hP := (J.walk pre).mp ⟨n, hp⟩
    have eq : ∀ s, ((P s ∨ s = pre ++ [g]) ∨ ∃ k, s = pre ++ [g] ++ r.take k) ↔ (P s ∨ ∃ k, s = pre ++ (g :: r).take k) := fun s => by
      constructor
      · rintro ((h | h) | ⟨k, h⟩)
        · exact .inl h
        · exact .inr ⟨1, by simpa using h⟩
        · exact .inr ⟨k + 1, by simpa using h⟩
      · rintro (h | ⟨k, h⟩)
        · exact .inl (.inl h)
        · cases k with
          | zero => rw [h]; simp only [List.take_zero, List.append_nil]; exact .inl (.inl hP)
          | succ k => exact .inr ⟨k, by simpa using h⟩
    unfold addGo
    cases hd : dgi (T.steps.getD n []) g with
    | some j =>
      have hj : go T 0 (pre ++ [g]) = some j.toNat := by
        rw [go_append, hp]
        show go T n [g] = _
        unfold go; rw [hd]; rfl
      obtain ⟨a, b⟩ := TJ.add (r := r) J hj hE
      refine ⟨a.congr fun s => ?_, by simpa using b⟩
      rw [← eq s]
      constructor
      · rintro (h | h)
        · exact .inl (.inl h)
        · exact .inr h
      · rintro ((h | h) | h)
        · exact .inl h
        · exact .inl (h ▸ (J.walk _).mp ⟨_, hj⟩)
        · exact .inr h
    | none =>
      have hnP : ¬ P (pre ++ [g]) := fun h => by
        obtain ⟨m, hm⟩ := (J.walk _).mpr h
        rw [go_append, hp] at hm
        have : go T n [g] = some m := hm
        unfold go at this
        rw [hd] at this; cases this
      obtain ⟨J2, h2⟩ := J.grow hp hd (hE _ hnP)
      obtain ⟨a, b⟩ := TJ.add (r := r) J2 h2 fun s hs => hE s fun h => hs (.inl h)
      exact ⟨a.congr eq, by rw [List.append_assoc] at b; exact b⟩
theorem TJ.setEnd {T : Tr} {P : List Int → Prop} {E : List Int → Int} (J : TJ T P E) {n : Nat} {word : List Int} (hp : go T 0 word = some n) (lig : Int) : TJ ⟨T.steps, T.ends.set n lig⟩ P (fun s => if s = word then lig else E s) := by
  have hgo : ∀ s m, go ⟨T.steps, T.ends.set n lig⟩ m s = go T m s := fun s => by
    induction s with
    | nil => intro m; rfl
    | cons x s ih =>
      intro m
      show (match dgi (T.steps.getD m []) x with
        | some j => go ⟨T.steps, T.ends.set n lig⟩ j.toNat s
        | none => none) = (match dgi (T.steps.getD m []) x with
        | some j => go T j.toNat s
        | none => none)
      cases dgi (T.steps.getD m []) x with
      | some j => exact ih _
      | none => rfl
  have hn := go_lt J.ok J.ok.pos hp
  refine ⟨⟨J.ok.pos, by simpa using J.ok.ends, J.ok.child, J.ok.small⟩, J.asc, J.nd, fun s => by simp only [hgo]; exact J.walk s, fun s s' k h h' => J.inj s s' k (by rw [← hgo]; exact h) (by rw [← hgo]; exact h'), fun m hm => ?_, fun s k h => ?_⟩
  · obtain ⟨s, h⟩ := J.sur m hm
    exact ⟨s, by rw [hgo]; exact h⟩
  · rw [hgo] at h
    by_cases q : k = n
    · subst q
      rw [if_pos (J.inj _ _ _ h hp)]
      exact getD_set_self (by rw [J.ok.ends]; exact hn)
    · have : s ≠ word := fun e => by rw [e, hp] at h; exact q (Option.some.inj h).symm
      rw [if_neg this, getD_set_ne (Ne.symm q)]
      exact J.ends s k h
noncomputable def Pref (ws : List (List Int × Int)) (s : List Int) : Prop := s = [] ∨ ∃ p ∈ ws, ∃ k, s = p.1.take k
noncomputable def endOf (ws : List (List Int × Int)) (s : List Int) : Int := ((ws.find? fun p => decide (p.1 = s)).map (·.2)).getD (-1)
theorem endOf_none {ws : List (List Int × Int)} {s : List Int} (h : s ∉ ws.map (·.1)) : endOf ws s = -1 := by
  unfold endOf
  have : ws.find? (fun p => decide (p.1 = s)) = none := by
    rw [List.find?_eq_none]
    intro p hp e
    exact h (List.mem_map.mpr ⟨p, hp, by simpa using e⟩)
  rw [this]; rfl
theorem endOf_pref {ws : List (List Int × Int)} {s : List Int} (h : ¬ Pref ws s) : endOf ws s = -1 := endOf_none fun m => by
  refine el1_2 (List.mem_map.mp m) fun p hp eqz2 => ?_
  subst eqz2
  exact h (.inr ⟨p, hp, p.1.length, by simp⟩)
theorem trie_tj : ∀ (n : Nat) {ws : List (List Int × Int)}, ws.length = n → (ws.map (·.1)).Nodup → TJ (trieOf ws) (Pref ws) (endOf ws)
  | 0, ws, hl, hnd => by
    obtain rfl := List.length_eq_zero_iff.mp hl
    have hgo : ∀ s m, go (trieOf []) 0 s = some m → s = [] ∧ m = 0 := fun s m e => by
      cases s with
      | nil => cases e; exact ⟨rfl, rfl⟩
      | cons x s => simp [go, trieOf, dgi] at e
    refine ⟨⟨by decide, rfl, fun d hd p hp => ?_, fun d hd => ?_⟩, fun m hm p hp => ?_, fun d hd => ?_, fun s => ⟨fun ⟨m, e⟩ => .inl (hgo s m e).1, ?_⟩, fun s s' m e e' => (hgo s m e).1.trans (hgo s' m e').1.symm, fun m hm => ?_, fun s m e => ?_⟩
    · simp [trieOf] at hd; subst hd; cases hp
    · simp [trieOf] at hd; subst hd; simp
    · simp [trieOf] at hm; subst hm; simp [trieOf] at hp
    · simp [trieOf] at hd; subst hd; exact List.nodup_nil
    · rintro (rfl | ⟨p, hp, _⟩)
      · exact ⟨0, rfl⟩
      · cases hp
    · simp [trieOf] at hm; subst hm; exact ⟨[], rfl⟩
    · obtain ⟨rfl, rfl⟩ := hgo s m e; rfl
  | n + 1, ws, hl, hnd => by
    obtain ⟨done, p, rfl⟩ : ∃ done p, ws = done ++ [p] := ⟨ws.dropLast, ws.getLast (fun e => by rw [e] at hl; cases hl), (List.dropLast_concat_getLast _).symm⟩
    rw [List.map_append, List.nodup_append] at hnd
    have hp : p.1 ∉ done.map (·.1) := fun m => hnd.2.2 p.1 m p.1 (by simp) rfl
    have J := trie_tj n (ws := done) (by simpa using hl) hnd.1
    have e3 : trieOf (done ++ [p]) = addW (trieOf done) p.1 p.2 := by unfold trieOf; rw [List.foldl_append]; rfl
    rw [e3]
    obtain ⟨J2, h2⟩ := J.add (r := p.1) (n := 0) (pre := []) rfl fun s hs => endOf_pref hs
    have J3 := J2.setEnd h2 p.2
    have eE : (fun s => if s = [] ++ p.1 then p.2 else endOf done s) = endOf (done ++ [p]) := by
      funext s
      rw [List.nil_append]
      unfold endOf
      rw [List.find?_append]
      by_cases h : s = p.1
      · subst h
        rw [if_pos rfl]
        have : done.find? (fun q => decide (q.1 = p.1)) = none := by
          rw [List.find?_eq_none]
          intro q hq e
          exact hp (List.mem_map.mpr ⟨q, hq, by simpa using e⟩)
        rw [this]; simp
      · rw [if_neg h]
        have : ¬ p.1 = s := fun e => h e.symm
        cases done.find? (fun q => decide (q.1 = s)) with
        | some q => simp
        | none => simp [this]
    rw [eE] at J3
    refine J3.congr fun s => ?_
    unfold Pref
    constructor
    · rintro ((h | ⟨q, hq, k, e⟩) | ⟨k, e⟩)
      · exact .inl h
      · exact .inr ⟨q, List.mem_append_left _ hq, k, e⟩
      · exact .inr ⟨p, by simp, k, by simpa using e⟩
    · rintro (h | ⟨q, hq, k, e⟩)
      · exact .inl (.inl h)
      · rcases List.mem_append.mp hq with hq | hq
        · exact .inl (.inr ⟨q, hq, k, e⟩)
        · rw [List.mem_singleton.mp hq] at e
          exact .inr ⟨k, by simpa using e⟩
theorem trie_of {ws : List (List Int × Int)} (G : Good ws) : TJ (trieOf ws) (Pref ws) (endOf ws) := trie_tj _ rfl G.nd
theorem trie_asc {ws : List (List Int × Int)} (G : Good ws) : Asc (trieOf ws) := (trie_of G).asc
theorem trie_len {ws : List (List Int × Int)} (G : Good ws) : (trieOf ws).steps.length ≤ 60 := by
  have key : ∀ (l : List (List Int × Int)) (T : Tr), (∀ p ∈ l, p.1.length ≤ 4) → (l.foldl (fun T p => addW T p.1 p.2) T).steps.length ≤ T.steps.length + 4 * l.length := by
    intro l
    induction l with
    | nil => intro T _; simp
    | cons p l ih =>
      intro T h
      have h1 := ih (addW T p.1 p.2) fun q hq => h q (List.mem_cons_of_mem _ hq)
      have h2 := addW_len T p.1 p.2
      have h3 := h p List.mem_cons_self
      rw [List.foldl_cons, List.length_cons]; omega
  have h1 := key ws ⟨[[]], [-1]⟩ fun p hp => (G.len p hp).2
  have h2 := G.six
  simp only [List.length_cons, List.length_nil] at h1
  exact Nat.le_trans h1 (by omega)
end Mine
namespace Mine
open Classical
theorem mem_restL {ws : List (List Int × Int)} {s t : List Int} {l : Int} : (t, l) ∈ restL ws s ↔ (s ++ t, l) ∈ ws := by
  unfold restL
  rw [List.mem_filterMap]
  constructor
  · intro hz1
    refine el1_2 hz1 fun p hp e => ?_; clear hz1
    split at e
    · rename_i h
      simp only [Option.some.injEq, Prod.mk.injEq] at e
      obtain ⟨e1, e2⟩ := e
      have : p = (s ++ t, l) := by
        refine Prod.ext ?_ e2
        show p.1 = s ++ t
        rw [← e1]
        conv => lhs; rw [← List.take_append_drop s.length p.1, h]
      rw [← this]; exact hp
    · cases e
  · intro h
    exact ⟨_, h, by simp⟩
theorem restL_nodup {ws : List (List Int × Int)} (s : List Int) (h : (ws.map (·.1)).Nodup) : (restL ws s).Nodup := by
  induction ws with
  | nil => exact List.nodup_nil
  | cons p ws ih =>
    simp only [List.map_cons, List.nodup_cons] at h
    unfold restL at ih ⊢
    rw [List.filterMap_cons]
    split
    · exact ih h.2
    · rename_i b e
      refine List.nodup_cons.mpr ⟨fun m => ?_, ih h.2⟩
      split at e
      · rename_i hq
        simp only [Option.some.injEq] at e
        subst e
        have m' : (p.1.drop s.length, p.2) ∈ restL ws s := m
        rw [mem_restL] at m'
        have : s ++ p.1.drop s.length = p.1 := by
          conv => rhs; rw [← List.take_append_drop s.length p.1, hq]
        rw [this] at m'
        exact h.1 (List.mem_map.mpr ⟨_, m', rfl⟩)
      · cases e
theorem restOf_mem {ws : List (List Int × Int)} {s : List Int} {x : List Int × Int} : x ∈ restOf ws s ↔ x ∈ restL ws s := (srt_perm _ _).mem_iff
theorem restOf_eq {ws : List (List Int × Int)} (G : Good ws) {s s' : List Int} : restOf ws s = restOf ws s' ↔ ∀ t l, (s ++ t, l) ∈ ws ↔ (s' ++ t, l) ∈ ws := by
  constructor
  · intro h t l
    rw [← mem_restL, ← mem_restL, ← restOf_mem, ← restOf_mem, h]
  · intro h
    refine srt_congr ord_word ((List.perm_ext_iff_of_nodup (restL_nodup s G.nd) (restL_nodup s' G.nd)).mpr fun x => ?_)
    obtain ⟨t, l⟩ := x
    rw [mem_restL, mem_restL]; exact h t l
theorem pref_rest {ws : List (List Int × Int)} (G : Good ws) {s : List Int} : Pref ws s ↔ restOf ws s ≠ [] := by
  constructor
  · intro h e
    have hno : ∀ t l, (s ++ t, l) ∉ ws := fun t l m => by
      have := restOf_mem.mpr (mem_restL.mpr m)
      rw [e] at this; cases this
    rcases h with rfl | ⟨p, hp, k, rfl⟩
    · obtain ⟨p, hp⟩ := List.exists_mem_of_ne_nil ws G.ne
      exact hno p.1 p.2 (by simpa using hp)
    · exact hno (p.1.drop k) p.2 (by rw [List.take_append_drop]; exact hp)
  · intro h
    obtain ⟨x, hx⟩ := List.exists_mem_of_ne_nil _ h
    obtain ⟨t, l⟩ := x
    rw [restOf_mem, mem_restL] at hx
    exact .inr ⟨_, hx, s.length, by simp⟩
theorem pref_ext {ws : List (List Int × Int)} (G : Good ws) {s : List Int} : Pref ws s ↔ ∃ t l, (s ++ t, l) ∈ ws := by
  rw [pref_rest G]
  constructor
  · intro h
    obtain ⟨⟨t, l⟩, hx⟩ := List.exists_mem_of_ne_nil _ h
    rw [restOf_mem, mem_restL] at hx
    exact ⟨t, l, hx⟩
  · rintro ⟨t, l, h⟩ e
    have := restOf_mem.mpr (mem_restL.mpr h)
    rw [e] at this; cases this
theorem pref_init {ws : List (List Int × Int)} (G : Good ws) {s : List Int} {g : Int} (h : Pref ws (s ++ [g])) : Pref ws s := by
  refine el2_1 ((pref_ext G).mp h) fun t l h => ?_
  exact (pref_ext G).mpr ⟨g :: t, l, by simpa using h⟩
theorem word_end {ws : List (List Int × Int)} (G : Good ws) {s : List Int} {l : Int} : (s, l) ∈ ws ↔ endOf ws s = l ∧ l ≠ -1 := by
  constructor
  · intro h
    have hl := G.lig _ h
    refine ⟨?_, by simp only at hl; omega⟩
    unfold endOf
    cases hf : ws.find? (fun p => decide (p.1 = s)) with
    | none =>
      rw [List.find?_eq_none] at hf
      exact absurd (by simp) (hf _ h)
    | some p =>
      have hp := List.mem_of_find?_eq_some hf
      have he := List.find?_some hf
      simp only [decide_eq_true_eq] at he
      have : p = (s, l) := by
        have nd := G.nd
        obtain ⟨i, hi⟩ := List.getElem?_of_mem hp
        obtain ⟨j, hj⟩ := List.getElem?_of_mem h
        have hi' : (ws.map (·.1))[i]? = some s := by rw [List.getElem?_map, hi]; exact congrArg some he
        have hj' : (ws.map (·.1))[j]? = some s := by rw [List.getElem?_map, hj]; rfl
        have := nodup_inj nd hi' hj'
        subst this
        rw [hi] at hj; exact Option.some.inj hj
      rw [this]; rfl
  · rintro ⟨h, hl⟩
    unfold endOf at h
    cases hf : ws.find? (fun p => decide (p.1 = s)) with
    | none => rw [hf] at h; exact absurd h.symm hl
    | some p =>
      rw [hf] at h
      have hp := List.mem_of_find?_eq_some hf
      have he := List.find?_some hf
      simp only [decide_eq_true_eq] at he
      have : p = (s, l) := Prod.ext he h
      rw [← this]; exact hp
structure HF (T : Tr) (hs : List Int) : Prop where
  eqv : ∀ n m, n < T.steps.length → m < T.steps.length → (hs.getD n 0 = hs.getD m 0 ↔ T.ends.getD n 0 = T.ends.getD m 0 ∧ rowOf T hs n = rowOf T hs m)
  rep : ∀ n, n < T.steps.length → ∃ m : Nat, hs.getD n 0 = m ∧ m < T.steps.length ∧ hs.getD m 0 = m
theorem HInv.facts {T : Tr} {hs : List Int} {es : List (List MV × MV)} (I : HInv T 0 hs es) : HF T hs where
  eqv := fun n m hn hm => by
    have h1 := I.got n (Nat.zero_le _) hn
    have h2 := I.got m (Nat.zero_le _) hm
    rw [← keyOf_eq (hs := hs) (hs' := hs)]
    constructor
    · intro e
      refine el1_5 (I.of _ _ h1) fun a _ _ ka va _ => ?_
      refine el1_5 (I.of _ _ h2) fun b _ _ kb vb _ => ?_
      rw [← e, va] at vb
      injection vb with vb
      have : a = b := by omega
      rw [ka, kb, this]
    · intro e
      rw [e, h2] at h1
      injection h1 with h1
      injection h1 with h1
      exact h1.symm
  rep := fun n hn => by
    refine el1_5 (I.of _ _ (I.got n (Nat.zero_le _) hn)) fun a _ ha _ va ra => ?_
    injection va with va
    exact ⟨a, va, ha, ra⟩
theorem mem_keys {T : Tr} {n : Nat} {g : Int} : g ∈ (T.steps.getD n []).map (·.1) ↔ ∃ j, dgi (T.steps.getD n []) g = some j :=
  ⟨dgi_some, fun ⟨j, h⟩ => List.mem_map.mpr ⟨_, dgi_mem h, rfl⟩⟩
theorem mem_rowOf {T : Tr} {hs : List Int} {n : Nat} {g x : Int} : (g, x) ∈ rowOf T hs n ↔ ∃ j, dgi (T.steps.getD n []) g = some j ∧ x = hs.getD j.toNat 0 := by
  unfold rowOf
  rw [List.mem_map]
  constructor
  · intro hz3
    refine el1_2 hz3 fun g' hg e => ?_; clear hz3
    simp only [Prod.mk.injEq] at e
    obtain ⟨rfl, rfl⟩ := e
    obtain ⟨j, hj⟩ := mem_keys.mp ((srt_perm _ _).mem_iff.mp hg)
    exact ⟨j, hj, by rw [hj]; rfl⟩
  · intro hz4
    refine el1_2 hz4 fun j hj eqz5 => ?_; clear hz4
    subst eqz5
    exact ⟨g, (srt_perm _ _).mem_iff.mpr (mem_keys.mpr ⟨j, hj⟩), by rw [hj]; rfl⟩
section
variable {ws : List (List Int × Int)} {hs : List Int}
theorem node_at (G : Good ws) {s : List Int} (h : Pref ws s) : ∃ n, go (trieOf ws) 0 s = some n ∧ n < (trieOf ws).steps.length := by
  obtain ⟨n, hn⟩ := ((trie_of G).walk s).mpr h
  exact ⟨n, hn, go_lt (trie_of G).ok (trie_of G).ok.pos hn⟩
theorem child_at (G : Good ws) {s : List Int} {n : Nat} (h : go (trieOf ws) 0 s = some n) {g : Int} : (∃ j, dgi ((trieOf ws).steps.getD n []) g = some j) ↔ Pref ws (s ++ [g]) := by
  rw [← (trie_of G).walk, go_append, h]
  show _ ↔ ∃ m, go (trieOf ws) n [g] = some m
  rw [go_cons]
  constructor
  · rintro ⟨j, hj⟩; rw [hj]; exact ⟨_, rfl⟩
  · rintro ⟨m, hm⟩
    cases hd : dgi ((trieOf ws).steps.getD n []) g with
    | some j => exact ⟨j, rfl⟩
    | none => rw [hd] at hm; cases hm
theorem child_go (G : Good ws) {s : List Int} {n : Nat} (h : go (trieOf ws) 0 s = some n) {g j : Int} (hj : dgi ((trieOf ws).steps.getD n []) g = some j) : go (trieOf ws) 0 (s ++ [g]) = some j.toNat := by
  rw [go_append, h]
  show go (trieOf ws) n [g] = _
  rw [go_cons, hj]; rfl
theorem home_lang (G : Good ws) (F : HF (trieOf ws) hs) : ∀ (t s s' : List Int) (n n' : Nat) (l : Int), go (trieOf ws) 0 s = some n → go (trieOf ws) 0 s' = some n' → hs.getD n 0 = hs.getD n' 0 → (s ++ t, l) ∈ ws → (s' ++ t, l) ∈ ws := by
  have J := trie_of G
  intro t
  induction t with
  | nil =>
    intro s s' n n' l h h' e m
    have hn := go_lt J.ok J.ok.pos h
    have hn' := go_lt J.ok J.ok.pos h'
    obtain ⟨e1, _⟩ := (F.eqv n n' hn hn').mp e
    rw [J.ends s n h, J.ends s' n' h'] at e1
    rw [List.append_nil] at m ⊢
    rw [word_end G] at m ⊢
    exact ⟨e1.symm.trans m.1, m.2⟩
  | cons g t ih =>
    intro s s' n n' l h h' e m
    have hn := go_lt J.ok J.ok.pos h
    have hn' := go_lt J.ok J.ok.pos h'
    obtain ⟨_, e2⟩ := (F.eqv n n' hn hn').mp e
    have hp : Pref ws (s ++ [g]) := (pref_ext G).mpr ⟨t, l, by simpa using m⟩
    obtain ⟨j, hj⟩ := (child_at G h).mpr hp
    have hr : (g, hs.getD j.toNat 0) ∈ rowOf (trieOf ws) hs n := mem_rowOf.mpr ⟨j, hj, rfl⟩
    rw [e2] at hr
    refine el1_2 (mem_rowOf.mp hr) fun j' hj' ej => ?_
    have := ih (s ++ [g]) (s' ++ [g]) j.toNat j'.toNat l (child_go G h hj) (child_go G h' hj') ej (by simpa using m)
    simpa using this
theorem srt_keys (T : Tr) {n m : Nat} (hn : ((T.steps.getD n []).map (·.1)).Nodup) (hm : ((T.steps.getD m []).map (·.1)).Nodup) (h : ∀ g, g ∈ (T.steps.getD n []).map (·.1) ↔ g ∈ (T.steps.getD m []).map (·.1)) : srt iLt ((T.steps.getD n []).map (·.1)) = srt iLt ((T.steps.getD m []).map (·.1)) :=
  srt_congr ord_int ((List.perm_ext_iff_of_nodup hn hm).mpr h)
theorem keys_nd (G : Good ws) {n : Nat} (hn : n < (trieOf ws).steps.length) : (((trieOf ws).steps.getD n []).map (·.1)).Nodup := by
  rw [getD_at hn]; exact (trie_of G).nd _ (List.getElem_mem hn)
theorem lang_home (G : Good ws) (F : HF (trieOf ws) hs) : ∀ (d : Nat) (s s' : List Int) (n n' : Nat), (trieOf ws).steps.length - n ≤ d → go (trieOf ws) 0 s = some n → go (trieOf ws) 0 s' = some n' → (∀ t l, (s ++ t, l) ∈ ws ↔ (s' ++ t, l) ∈ ws) → hs.getD n 0 = hs.getD n' 0 := by
  have J := trie_of G
  intro d
  induction d with
  | zero =>
    intro s s' n n' hd h h' hl
    have hn := go_lt J.ok J.ok.pos h
    omega
  | succ d ih =>
    intro s s' n n' hd h h' hl
    have hn := go_lt J.ok J.ok.pos h
    have hn' := go_lt J.ok J.ok.pos h'
    refine (F.eqv n n' hn hn').mpr ⟨?_, ?_⟩
    · rw [J.ends s n h, J.ends s' n' h']
      by_cases e : endOf ws s = -1
      · by_cases e' : endOf ws s' = -1
        · rw [e, e']
        · have := (hl [] (endOf ws s')).mpr (by rw [List.append_nil]; exact (word_end G).mpr ⟨rfl, e'⟩)
          rw [List.append_nil] at this
          exact ((word_end G).mp this).1
      · have := (hl [] (endOf ws s)).mp (by rw [List.append_nil]; exact (word_end G).mpr ⟨rfl, e⟩)
        rw [List.append_nil] at this
        exact ((word_end G).mp this).1.symm
    · have hkeys : ∀ g, g ∈ ((trieOf ws).steps.getD n []).map (·.1) ↔ g ∈ ((trieOf ws).steps.getD n' []).map (·.1) := fun g => by
        rw [mem_keys, mem_keys, child_at G h, child_at G h', pref_ext G, pref_ext G]
        constructor
        · intro hz7
          refine el2_1 hz7 fun t l m => ?_; clear hz7
          exact ⟨t, l, by have := (hl (g :: t) l).mp (by simpa using m); simpa using this⟩
        · intro hz8
          refine el2_1 hz8 fun t l m => ?_; clear hz8
          exact ⟨t, l, by have := (hl (g :: t) l).mpr (by simpa using m); simpa using this⟩
      unfold rowOf
      rw [← srt_keys (trieOf ws) (keys_nd G hn) (keys_nd G hn') hkeys]
      refine List.map_congr_left fun g hg => ?_
      have hg1 := (srt_perm _ _).mem_iff.mp hg
      obtain ⟨j, hj⟩ := mem_keys.mp hg1
      obtain ⟨j', hj'⟩ := mem_keys.mp ((hkeys g).mp hg1)
      rw [hj, hj']
      simp only [Option.getD_some]
      have hc := child_go G h hj
      have hlt : n < j.toNat := by
        have := J.asc n hn _ (by rw [getD_at hn] at hj; exact dgi_mem hj)
        simp only at this
        omega
      rw [ih (s ++ [g]) (s' ++ [g]) j.toNat j'.toNat (by omega) hc (child_go G h' hj') fun t l => by
        have := hl (g :: t) l
        simpa using this]
noncomputable def cls (ws : List (List Int × Int)) (hs : List Int) (s : List Int) : Int := hs.getD ((go (trieOf ws) 0 s).getD 0) 0
theorem cls_eq (G : Good ws) (F : HF (trieOf ws) hs) {s s' : List Int} (h : Pref ws s) (h' : Pref ws s') : cls ws hs s = cls ws hs s' ↔ restOf ws s = restOf ws s' := by
  refine el1_2 (node_at G h) fun n hn hl => ?_
  refine el1_2 (node_at G h') fun n' hn' hl' => ?_
  unfold cls
  rw [hn, hn', restOf_eq G]
  simp only [Option.getD_some]
  exact ⟨fun e t l => ⟨home_lang G F t s s' n n' l hn hn' e, home_lang G F t s' s n' n l hn' hn e.symm⟩, fun e => lang_home G F _ s s' n n' (Nat.le_refl _) hn hn' e⟩
theorem cls_step (G : Good ws) (F : HF (trieOf ws) hs) {s s' : List Int} {g : Int} (h : Pref ws s) (h' : Pref ws s') (e : cls ws hs s = cls ws hs s') (hp : Pref ws (s ++ [g])) : Pref ws (s' ++ [g]) ∧ cls ws hs (s ++ [g]) = cls ws hs (s' ++ [g]) := by
  have hr := (restOf_eq G).mp ((cls_eq G F h h').mp e)
  have hp' : Pref ws (s' ++ [g]) := by
    refine el2_1 ((pref_ext G).mp hp) fun t l m => ?_
    exact (pref_ext G).mpr ⟨t, l, by have := (hr (g :: t) l).mp (by simpa using m); simpa using this⟩
  refine ⟨hp', (cls_eq G F hp hp').mpr ((restOf_eq G).mpr fun t l => ?_)⟩
  have := hr (g :: t) l
  simpa using this
end
end Mine
namespace Mine
open Classical
noncomputable def sl (s s' : List Int) : Bool := startLt ((s.length : Int), s) ((s'.length : Int), s')
theorem ord_sl : Ord sl where
  irrefl := fun a => ord_start.irrefl _
  trans := fun a b c => ord_start.trans _ _ _
  neg := fun a b c => ord_start.neg _ _ _
  total := fun a b h1 h2 => congrArg Prod.snd (ord_start.total _ _ h1 h2)
theorem sl_iff {s s' : List Int} : sl s s' = true ↔ s.length < s'.length ∨ (s.length = s'.length ∧ lexLt iLt s s' = true) := by
  unfold sl startLt pairLt
  by_cases h : s.length = s'.length
  · have : (s.length : Int) = s'.length := by omega
    simp [h, this]
  · have : ¬ (s.length : Int) = s'.length := by omega
    simp only [this, if_false, iLt, decide_eq_true_eq, h, false_and, or_false]
    omega
theorem lex_snoc {x y : Int} : ∀ {a b : List Int}, a.length = b.length → lexLt iLt a b = true → lexLt iLt (a ++ [x]) (b ++ [y]) = true
  | [], [], _, h => by simp [lexLt] at h
  | [], _ :: _, e, _ => by simp at e
  | _ :: _, [], e, _ => by simp at e
  | p :: a, q :: b, e, h => by
    simp only [List.cons_append, lexLt] at h ⊢
    split
    · rename_i hq
      rw [if_pos hq] at h
      exact lex_snoc (by simpa using e) h
    · rename_i hq
      rw [if_neg hq] at h; exact h
theorem lex_same {x y : Int} (h : x < y) : ∀ a : List Int, lexLt iLt (a ++ [x]) (a ++ [y]) = true
  | [] => by
    have : ¬ x = y := by omega
    simp [lexLt, this, iLt, h]
  | p :: a => by simp only [List.cons_append, lexLt, if_true]; exact lex_same h a
theorem sl_nil {s : List Int} (h : s ≠ []) : sl [] s = true := sl_iff.mpr (.inl (List.length_pos_iff.mpr h))
theorem sl_snoc {a b : List Int} {x y : Int} (h : sl a b = true) : sl (a ++ [x]) (b ++ [y]) = true := by
  rw [sl_iff] at h ⊢
  simp only [List.length_append, List.length_singleton]
  rcases h with h | ⟨h, l⟩
  · left; omega
  · right; exact ⟨by omega, lex_snoc h l⟩
theorem sl_same {a : List Int} {x y : Int} (h : x < y) : sl (a ++ [x]) (a ++ [y]) = true := sl_iff.mpr (.inr ⟨by simp, lex_same h a⟩)
theorem sl_asymm {a b : List Int} (h : sl a b = true) : sl b a = false := by
  cases q : sl b a with
  | false => rfl
  | true => have := ord_sl.trans _ _ _ h q; rw [ord_sl.irrefl] at this; cases this
theorem sl_ne {a b : List Int} (h : sl a b = true) : a ≠ b := by
  rintro rfl; rw [ord_sl.irrefl] at h; cases h
noncomputable def slE (a b : List Int) : Prop := a = b ∨ sl a b = true
theorem slE.trans {a b c : List Int} (h : slE a b) (h' : slE b c) : slE a c := by
  rcases h with rfl | h
  · exact h'
  · rcases h' with rfl | h'
    · exact .inr h
    · exact .inr (ord_sl.trans _ _ _ h h')
theorem slE.snoc {a b : List Int} (h : slE a b) (g : Int) : slE (a ++ [g]) (b ++ [g]) := by
  rcases h with rfl | h
  · exact .inl rfl
  · exact .inr (sl_snoc h)
theorem plOf_append {o e : List Int} {x : Int} (h : x ∈ o) : dgi (plOf (o ++ e)) x = dgi (plOf o) x := by
  refine el1_2 (plOf_some h) fun i hi _ => ?_
  unfold plOf at hi ⊢
  rw [List.zipIdx_append, List.map_append, hi]
  unfold dgi at hi ⊢
  rw [List.find?_append]
  refine el1_2 (Option.map_eq_some_iff.mp hi) fun p hp e => ?_
  rw [hp]
  simp [e]
section
variable {ws : List (List Int × Int)} {hs : List Int}
theorem goRow_run (u : List Int) : ∀ (gs : List Int) (W : List (List Int)) (st : List (Int × Int)), gs.Pairwise (· < ·) → (∀ w ∈ W, ∀ g ∈ gs, sl w (u ++ [g]) = true) → (∀ g ∈ gs, dgi st g = none) → W.Pairwise (fun a b => sl a b = true) →
    ∃ ext : List (List Int), (goRow (gs.map fun g => (g, cls ws hs (u ++ [g]))) (W.map (cls ws hs)) st).1 = (W ++ ext).map (cls ws hs) ∧ (∀ w ∈ ext, ∃ g ∈ gs, w = u ++ [g]) ∧ (W ++ ext).Pairwise (fun a b => sl a b = true) ∧
      (∀ g ∈ gs, ∃ w ∈ W ++ ext, cls ws hs w = cls ws hs (u ++ [g]) ∧ slE w (u ++ [g])) ∧
      (goRow (gs.map fun g => (g, cls ws hs (u ++ [g]))) (W.map (cls ws hs)) st).2 = st ++ gs.map fun g => (g, (dgi (plOf ((W ++ ext).map (cls ws hs))) (cls ws hs (u ++ [g]))).getD 0)
  | [], W, st, _, _, _, hW => ⟨[], by simp [goRow], (fun _ m => nomatch m), by simpa using hW, (fun _ m => nomatch m), by simp [goRow]⟩
  | g :: gs, W, st, hg, hsl, hst, hW => by
    obtain ⟨hg1, hg2⟩ := List.pairwise_cons.mp hg
    have hsl2 : ∀ w ∈ W, ∀ x ∈ gs, sl w (u ++ [x]) = true := fun w hw x hx => hsl w hw x (List.mem_cons_of_mem _ hx)
    have hdsi : ∀ j, dsi st g j = st ++ [(g, j)] := fun j => dsi_new (hst g List.mem_cons_self)
    have hst2 : ∀ j, ∀ x ∈ gs, dgi (st ++ [(g, j)]) x = none := fun j x hx => by
      rw [dgi_snoc, hst x (List.mem_cons_of_mem _ hx)]
      have := hg1 x hx
      exact if_neg (by omega)
    rw [List.map_cons, goRow]
    by_cases hin : cls ws hs (u ++ [g]) ∈ W.map (cls ws hs)
    · simp only [if_pos hin, hdsi]
      refine el1_5 (goRow_run u gs W _ hg2 hsl2 (hst2 ((dgi (plOf (W.map (cls ws hs))) (cls ws hs (u ++ [g]))).getD 0)) hW) fun ext h1 h2 h3 h4 h5 => ?_
      refine ⟨ext, h1, fun w hw => let ⟨x, hx, e⟩ := h2 w hw; ⟨x, List.mem_cons_of_mem _ hx, e⟩, h3, fun x hx => ?_, ?_⟩
      · rcases List.mem_cons.mp hx with rfl | m
        · refine el1_2 (List.mem_map.mp hin) fun w hw e => ?_
          exact ⟨w, List.mem_append_left _ hw, e, .inr (hsl w hw x List.mem_cons_self)⟩
        · exact h4 x m
      · rw [h5, List.map_cons, List.map_append, plOf_append hin, List.append_assoc]; rfl
    · simp only [if_neg hin, hdsi]
      have e1 : W.map (cls ws hs) ++ [cls ws hs (u ++ [g])] = (W ++ [u ++ [g]]).map (cls ws hs) := by simp
      rw [e1]
      obtain ⟨ext, h1, h2, h3, h4, h5⟩ := goRow_run u gs (W ++ [u ++ [g]]) _ hg2 (fun w hw x hx => by
        rcases List.mem_append.mp hw with m | m
        · exact hsl2 w m x hx
        · rw [List.mem_singleton.mp m]; exact sl_same (hg1 x hx)) (hst2 ((dgi (plOf ((W ++ [u ++ [g]]).map (cls ws hs))) (cls ws hs (u ++ [g]))).getD 0)) (by
          rw [List.pairwise_append]
          exact ⟨hW, List.pairwise_singleton _ _, fun a ha b hb => by rw [List.mem_singleton.mp hb]; exact hsl a ha g List.mem_cons_self⟩)
      have e2 : W ++ [u ++ [g]] ++ ext = W ++ ([u ++ [g]] ++ ext) := List.append_assoc _ _ _
      have hin2 : cls ws hs (u ++ [g]) ∈ (W ++ [u ++ [g]]).map (cls ws hs) := by simp
      refine ⟨[u ++ [g]] ++ ext, by rw [h1, e2], fun w hw => ?_, by rw [← e2]; exact h3, fun x hx => ?_, ?_⟩
      · rcases List.mem_append.mp hw with m | m
        · exact ⟨g, List.mem_cons_self, List.mem_singleton.mp m⟩
        · refine el1_2 (h2 w m) fun x hx e => ?_
          exact ⟨x, List.mem_cons_of_mem _ hx, e⟩
      · rw [← e2]
        rcases List.mem_cons.mp hx with rfl | m
        · exact ⟨u ++ [x], by simp, rfl, .inl rfl⟩
        · exact h4 x m
      · rw [h5, List.map_cons, ← e2, List.map_append (l₁ := W ++ [u ++ [g]]), plOf_append hin2, List.append_assoc]; rfl
noncomputable def keysAt (ws : List (List Int × Int)) (u : List Int) : List Int := srt iLt (((trieOf ws).steps.getD ((go (trieOf ws) 0 u).getD 0) []).map (·.1))
theorem keysAt_mem (G : Good ws) {u : List Int} (h : Pref ws u) {g : Int} : g ∈ keysAt ws u ↔ Pref ws (u ++ [g]) := by
  refine el1_2 (node_at G h) fun n hn hl => ?_
  unfold keysAt
  rw [(srt_perm _ _).mem_iff, mem_keys, hn]
  exact child_at G hn
theorem keysAt_nd (G : Good ws) {u : List Int} (h : Pref ws u) : (keysAt ws u).Nodup := by
  refine el1_2 (node_at G h) fun n hn hl => ?_
  unfold keysAt
  rw [(srt_perm _ _).nodup_iff, hn]
  exact keys_nd G hl
theorem keysAt_up (G : Good ws) {u : List Int} (h : Pref ws u) : (keysAt ws u).Pairwise (· < ·) := by
  have h1 : Upw iLt (keysAt ws u) := srt_up ord_int _
  have h2 := keysAt_nd G h
  unfold Upw at h1
  rw [List.nodup_iff_pairwise_ne] at h2
  refine (List.pairwise_and_iff.mpr ⟨h1, h2⟩).imp fun {a b} ⟨p, q⟩ => ?_
  simp only [iLt, decide_eq_false_iff_not] at p
  omega
theorem row_cls (G : Good ws) {u : List Int} {n : Nat} (hn : go (trieOf ws) 0 u = some n) : rowOf (trieOf ws) hs n = (keysAt ws u).map fun g => (g, cls ws hs (u ++ [g])) := by
  unfold rowOf keysAt
  rw [hn]
  simp only [Option.getD_some]
  refine List.map_congr_left fun g hg => ?_
  obtain ⟨j, hj⟩ := mem_keys.mp ((srt_perm _ _).mem_iff.mp hg)
  unfold cls
  rw [child_go G hn hj, hj]; rfl
structure BI (ws : List (List Int × Int)) (hs : List Int) (W : List (List Int)) (o : List Int) (rows : List (List (Int × Int))) (ends : List Int) : Prop where
  ho : o = W.map (cls ws hs)
  pf : ∀ w ∈ W, Pref ws w
  hd : [] ∈ W
  srt : W.Pairwise (fun a b => sl a b = true)
  shape : ∀ w ∈ W, w = [] ∨ ∃ i, i < rows.length ∧ ∃ u g, W[i]? = some u ∧ w = u ++ [g]
  closed : ∀ i, i < rows.length → ∀ u, W[i]? = some u → ∀ g, Pref ws (u ++ [g]) → ∃ w ∈ W, cls ws hs w = cls ws hs (u ++ [g]) ∧ slE w (u ++ [g])
  rowsE : ∀ i, i < rows.length → ∀ u, W[i]? = some u → rows[i]? = some ((keysAt ws u).map fun g => (g, (dgi (plOf o) (cls ws hs (u ++ [g]))).getD 0))
  endsE : ∀ i, i < rows.length → ∀ u, W[i]? = some u → ends[i]? = some (endOf ws u)
  el : ends.length = rows.length
theorem bfs_inv (G : Good ws) (F : HF (trieOf ws) hs) {o : List Int} {rows : List (List (Int × Int))} {ends : List Int} (B : Bfs (trieOf ws) hs o rows ends) : ∃ W, BI ws hs W o rows ends := by
  have J := trie_of G
  induction B with
  | start =>
    refine ⟨[[]], rfl, fun w hw => by rw [List.mem_singleton.mp hw]; exact .inl rfl, by simp, List.pairwise_singleton _ _, fun w hw => .inl (List.mem_singleton.mp hw), fun i hi => ?_, fun i hi => ?_, fun i hi => ?_, rfl⟩
    all_goals simp at hi
  | @step o rows ends B hlt ih =>
    obtain ⟨W, I⟩ := ih
    have hk : rows.length < W.length := by rw [I.ho, List.length_map] at hlt; exact hlt
    generalize hu : W[rows.length] = u
    have huW : W[rows.length]? = some u := by rw [List.getElem?_eq_getElem hk, hu]
    have hum : u ∈ W := List.mem_of_getElem? huW
    have hup := I.pf u hum
    refine el1_2 (node_at G hup) fun n hn hnl => ?_
    refine el1_3 (F.rep n hnl) fun m hm1 hm2 hm3 => ?_
    have hok : o.getD rows.length 0 = (m : Int) := by
      rw [I.ho, List.getD_eq_getElem?_getD, List.getElem?_map, huW]
      show cls ws hs u = _
      unfold cls
      rw [hn]; exact hm1
    rw [hok]
    simp only [Int.toNat_natCast]
    obtain ⟨e1, e2⟩ := (F.eqv m n hm2 hnl).mp (hm3.trans hm1.symm)
    rw [e2, e1, J.ends u n hn, row_cls G hn, I.ho]
    have hsl : ∀ w ∈ W, ∀ g ∈ keysAt ws u, sl w (u ++ [g]) = true := fun w hw g hg => by
      rcases I.shape w hw with rfl | ⟨i, hi, v, g', hv, rfl⟩
      · exact sl_nil (by simp)
      · refine sl_snoc ?_
        have hi2 : i < W.length := by omega
        rw [List.getElem?_eq_getElem hi2] at hv
        have := List.pairwise_iff_getElem.mp I.srt i rows.length hi2 hk hi
        rw [hu, Option.some.inj hv] at this
        exact this
    refine el1_5 (goRow_run (ws := ws) (hs := hs) u (keysAt ws u) W [] (keysAt_up G hup) hsl (fun _ _ => rfl) I.srt) fun ext h1 h2 h3 h4 h5 => ?_
    have hold : ∀ i, i < W.length → (W ++ ext)[i]? = W[i]? := fun i hi => List.getElem?_append_left hi
    refine ⟨W ++ ext, h1, fun w hw => ?_, List.mem_append_left _ I.hd, h3, fun w hw => ?_, fun i hi v hv g hg => ?_, fun i hi v hv => ?_, fun i hi v hv => ?_, by simp [I.el]⟩
    · rcases List.mem_append.mp hw with q | q
      · exact I.pf w q
      · refine el1_2 (h2 w q) fun g hg e => ?_
        rw [e]; exact (keysAt_mem G hup).mp hg
    · rcases List.mem_append.mp hw with q | q
      · rcases I.shape w q with e | ⟨i, hi, v, g, hv, e⟩
        · exact .inl e
        · exact .inr ⟨i, by simp; omega, v, g, by rw [hold i (by omega)]; exact hv, e⟩
      · refine el1_2 (h2 w q) fun g hg e => ?_
        exact .inr ⟨rows.length, by simp, u, g, by rw [hold _ hk]; exact huW, e⟩
    · rw [List.length_append, List.length_singleton] at hi
      rw [hold i (by omega)] at hv
      by_cases q : i = rows.length
      · subst q
        rw [huW] at hv
        obtain rfl := Option.some.inj hv
        exact h4 g ((keysAt_mem G hup).mpr hg)
      · refine el1_2 (I.closed i (by omega) v hv g hg) fun w hw r => ?_
        exact ⟨w, List.mem_append_left _ hw, r⟩
    · rw [List.length_append, List.length_singleton] at hi
      rw [hold i (by omega)] at hv
      by_cases q : i = rows.length
      · subst q
        rw [huW] at hv
        obtain rfl := Option.some.inj hv
        rw [List.getElem?_append_right (Nat.le_refl _), Nat.sub_self, h5, h1]
        rfl
      · have hil : i < rows.length := by omega
        rw [List.getElem?_append_left hil, I.rowsE i hil v hv, h1]
        congr 1
        refine List.map_congr_left fun g hg => ?_
        have hvp := I.pf v (List.mem_of_getElem? hv)
        refine el1_3 (I.closed i hil v hv g ((keysAt_mem G hvp).mp hg)) fun w hw e _ => ?_
        have hin : cls ws hs (v ++ [g]) ∈ W.map (cls ws hs) := e ▸ List.mem_map.mpr ⟨w, hw, rfl⟩
        rw [I.ho, List.map_append, plOf_append hin]
    · rw [List.length_append, List.length_singleton] at hi
      rw [hold i (by omega)] at hv
      by_cases q : i = rows.length
      · subst q
        rw [huW] at hv
        obtain rfl := Option.some.inj hv
        rw [← I.el, List.getElem?_append_right (Nat.le_refl _), Nat.sub_self]; rfl
      · have hil : i < rows.length := by omega
        rw [List.getElem?_append_left (by rw [I.el]; exact hil)]
        exact I.endsE i hil v hv
end
end Mine
namespace Mine
open Classical
noncomputable def startsL (ws : List (List Int × Int)) : List (Int × List Int) := ws.flatMap fun p => (List.range (p.1.length + 1)).map fun (n : Nat) => ((n : Int), p.1.take n)
noncomputable def fsGo (ws : List (List Int × Int)) : List (Int × List Int) → List (List Int) → List (List Int)
  | [], fs => fs
  | p :: r, fs => fsGo ws r (if restOf ws p.2 ∈ fs.map (restOf ws) then fs else fs ++ [p.2])
noncomputable def idxR (ws : List (List Int × Int)) (fs : List (List Int)) (t : List (List Int × Int)) : Nat := (fs.map (restOf ws)).findIdx fun x => decide (x = t)
noncomputable def dueAt (ws : List (List Int × Int)) (fs : List (List Int)) (g : Int) (s : List Int) : Int := if restOf ws (s ++ [g]) = [] then -1 else (idxR ws fs (restOf ws (s ++ [g])) : Int)
noncomputable def dueCol (ws : List (List Int × Int)) (fs : List (List Int)) (g : Int) : List Int := fs.map (dueAt ws fs g)
noncomputable def dueOf (ws : List (List Int × Int)) (fs : List (List Int)) (gs : List Int) : List (Int × List Int) := gs.filterMap fun g => if ∃ x ∈ dueCol ws fs g, 0 ≤ x then some (g, dueCol ws fs g) else none
structure FsFacts (ws : List (List Int × Int)) (fs : List (List Int)) : Prop where
  ne : fs ≠ []
  sz : fs.length ≤ 60
  len : ∀ s ∈ fs, s.length ≤ 4
  idx : ∀ s ∈ fs, ∀ g, restOf ws (s ++ [g]) ≠ [] → restOf ws (s ++ [g]) ∈ fs.map (restOf ws)
structure LawFacts (ws : List (List Int × Int)) (fs : List (List Int)) (rows : List (List (Int × Int))) (ends : List Int) : Prop where
  len : rows.length = fs.length
  cols : colsOf rows = dueOf ws fs [1, 2, 3, 4]
  endsE : ends = fs.map (endOf ws)
  gl : ∀ d ∈ rows, ∀ p ∈ d, 1 ≤ p.1 ∧ p.1 ≤ 4
theorem startsL_len {ws : List (List Int × Int)} (G : Good ws) : (startsL ws).length ≤ 30 := by
  have key : ∀ l : List (List Int × Int), (∀ p ∈ l, p.1.length ≤ 4) → (startsL l).length ≤ 5 * l.length := by
    intro l hl
    induction l with
    | nil => simp [startsL]
    | cons p l ih =>
      have h1 := hl p List.mem_cons_self
      have h2 := ih fun q hq => hl q (List.mem_cons_of_mem _ hq)
      unfold startsL at h2 ⊢
      rw [List.flatMap_cons, List.length_append, List.length_map, List.length_range, List.length_cons]; omega
  have := key ws fun p hp => (G.len p hp).2
  have := G.six
  omega
section
variable {ws : List (List Int × Int)}
theorem startsL_mem (G : Good ws) {p : Int × List Int} : p ∈ startsL ws ↔ p.1 = p.2.length ∧ Pref ws p.2 := by
  unfold startsL
  rw [List.mem_flatMap]
  constructor
  · intro hz1
    refine el1_2 hz1 fun q hq h => ?_; clear hz1
    refine el1_2 (List.mem_map.mp h) fun n hn eqz2 => ?_
    subst eqz2
    have := List.mem_range.mp hn
    refine ⟨?_, .inr ⟨q, hq, n, rfl⟩⟩
    simp only [List.length_take]; omega
  · rintro ⟨h1, h2⟩
    obtain ⟨n, s⟩ := p
    simp only at h1 h2
    subst h1
    rcases h2 with rfl | ⟨q, hq, k, rfl⟩
    · obtain ⟨q, hq⟩ := List.exists_mem_of_ne_nil ws G.ne
      exact ⟨q, hq, List.mem_map.mpr ⟨0, by simp, rfl⟩⟩
    · refine ⟨q, hq, List.mem_map.mpr ⟨(q.1.take k).length, by simp; omega, ?_⟩⟩
      refine Prod.ext rfl ?_
      show q.1.take (q.1.take k).length = q.1.take k
      rw [List.length_take]
      by_cases h : k ≤ q.1.length
      · rw [Nat.min_eq_left h]
      · rw [Nat.min_eq_right (by omega), List.take_of_length_le (Nat.le_refl _), List.take_of_length_le (by omega)]
theorem startsL_short (G : Good ws) {p : Int × List Int} (h : p ∈ startsL ws) : p.2.length ≤ 4 := by
  unfold startsL at h
  refine el1_2 (List.mem_flatMap.mp h) fun q hq h => ?_
  refine el1_2 (List.mem_map.mp h) fun n _ eqz4 => ?_
  subst eqz4
  have := (G.len q hq).2
  rw [List.length_take]; omega
theorem fsGo_sub : ∀ (st : List (Int × List Int)) (fs : List (List Int)), (fsGo ws st fs).Sublist (fs ++ st.map (·.2))
  | [], fs => by simp [fsGo]
  | p :: st, fs => by
    unfold fsGo
    split
    · refine (fsGo_sub st fs).trans ?_
      rw [List.map_cons]
      exact List.Sublist.append_left (List.sublist_cons_self _ _) _
    · have := fsGo_sub st (fs ++ [p.2])
      rw [List.append_assoc] at this
      exact this
theorem fsGo_mem : ∀ (st : List (Int × List Int)) (fs : List (List Int)) (s : List Int), s ∈ fsGo ws st fs ↔ s ∈ fs ∨ ∃ a b n, st = a ++ (n, s) :: b ∧ restOf ws s ∉ fs.map (restOf ws) ∧ ∀ p ∈ a, restOf ws p.2 ≠ restOf ws s
  | [], fs, s => by
    constructor
    · intro h; exact .inl h
    · rintro (h | ⟨a, b, n, e, _⟩)
      · exact h
      · simp at e
  | p :: st, fs, s => by
    unfold fsGo
    rw [fsGo_mem st]
    by_cases hin : restOf ws p.2 ∈ fs.map (restOf ws)
    · rw [if_pos hin]
      constructor
      · rintro (h | ⟨a, b, n, rfl, h1, h2⟩)
        · exact .inl h
        · refine .inr ⟨p :: a, b, n, rfl, h1, fun q hq => ?_⟩
          rcases List.mem_cons.mp hq with rfl | m
          · exact fun e => h1 (e ▸ hin)
          · exact h2 q m
      · rintro (h | ⟨a, b, n, e, h1, h2⟩)
        · exact .inl h
        · cases a with
          | nil =>
            simp only [List.nil_append, List.cons.injEq] at e
            obtain ⟨rfl, rfl⟩ := e
            exact absurd hin h1
          | cons q a =>
            simp only [List.cons_append, List.cons.injEq] at e
            obtain ⟨rfl, rfl⟩ := e
            exact .inr ⟨a, b, n, rfl, h1, fun x hx => h2 x (List.mem_cons_of_mem _ hx)⟩
    · rw [if_neg hin]
      constructor
      · rintro (h | ⟨a, b, n, rfl, h1, h2⟩)
        · rcases List.mem_append.mp h with h | h
          · exact .inl h
          · obtain rfl := List.mem_singleton.mp h
            exact .inr ⟨[], st, p.1, rfl, hin, fun _ m => nomatch m⟩
        · rw [List.map_append, List.mem_append, not_or] at h1
          refine .inr ⟨p :: a, b, n, rfl, h1.1, fun q hq => ?_⟩
          rcases List.mem_cons.mp hq with rfl | m
          · exact fun e => h1.2 (by simp [e])
          · exact h2 q m
      · rintro (h | ⟨a, b, n, e, h1, h2⟩)
        · exact .inl (List.mem_append_left _ h)
        · cases a with
          | nil =>
            simp only [List.nil_append, List.cons.injEq] at e
            obtain ⟨rfl, rfl⟩ := e
            exact .inl (by simp)
          | cons q a =>
            simp only [List.cons_append, List.cons.injEq] at e
            obtain ⟨rfl, rfl⟩ := e
            refine .inr ⟨a, b, n, rfl, ?_, fun x hx => h2 x (List.mem_cons_of_mem _ hx)⟩
            rw [List.map_append, List.mem_append, not_or]
            refine ⟨h1, fun m => ?_⟩
            simp only [List.map_cons, List.map_nil, List.mem_singleton] at m
            exact h2 p List.mem_cons_self m.symm
theorem fsGo_old : ∀ (st : List (Int × List Int)) (fs : List (List Int)), ∀ s ∈ fs, s ∈ fsGo ws st fs := fun st fs s h => (fsGo_mem st fs s).mpr (.inl h)
theorem fsGo_cover : ∀ (st : List (Int × List Int)) (fs : List (List Int)), ∀ p ∈ st, restOf ws p.2 ∈ (fsGo ws st fs).map (restOf ws)
  | p :: st, fs, q, hq => by
    unfold fsGo
    rcases List.mem_cons.mp hq with rfl | m
    · by_cases hin : restOf ws q.2 ∈ fs.map (restOf ws)
      · rw [if_pos hin]
        refine el1_2 (List.mem_map.mp hin) fun s hs e => ?_
        exact List.mem_map.mpr ⟨s, fsGo_old _ _ _ hs, e⟩
      · rw [if_neg hin]
        exact List.mem_map.mpr ⟨q.2, fsGo_old _ _ _ (by simp), rfl⟩
    · exact fsGo_cover st _ q m
structure StOk (ws : List (List Int × Int)) (st : List (Int × List Int)) : Prop where
  mem : ∀ p, p ∈ st ↔ p.1 = p.2.length ∧ Pref ws p.2
  up : st.Pairwise fun a b => startLt a b = true
theorem st_ok (G : Good ws) {r : List (Int × List Int)} (hrn : r.Nodup) (hrm : ∀ p, p ∈ r ↔ p ∈ startsL ws) : StOk ws (srt startLt r) where
  mem := fun p => by rw [(srt_perm _ _).mem_iff, hrm, startsL_mem G]
  up := by
    have h1 : Upw startLt (srt startLt r) := srt_up ord_start _
    have h2 : (srt startLt r).Nodup := (srt_perm _ _).nodup_iff.mpr hrn
    unfold Upw at h1
    rw [List.nodup_iff_pairwise_ne] at h2
    refine (List.pairwise_and_iff.mpr ⟨h1, h2⟩).imp fun {a b} ⟨p, q⟩ => ?_
    cases e : startLt a b with
    | true => rfl
    | false => exact absurd (ord_start.total _ _ e p) q
theorem st_sl {st : List (Int × List Int)} (S : StOk ws st) : (st.map (·.2)).Pairwise fun a b => sl a b = true := by
  rw [List.pairwise_map]
  refine S.up.imp_of_mem fun {a b} ha hb h => ?_
  obtain ⟨a1, _⟩ := (S.mem a).mp ha
  obtain ⟨b1, _⟩ := (S.mem b).mp hb
  unfold sl
  rw [← a1, ← b1]; exact h
theorem fs_min {st : List (Int × List Int)} (S : StOk ws st) {s : List Int} : s ∈ fsGo ws st [] ↔ Pref ws s ∧ ∀ s', Pref ws s' → restOf ws s' = restOf ws s → slE s s' := by
  rw [fsGo_mem]
  constructor
  · rintro (h | ⟨a, b, n, e, _, h2⟩)
    · cases h
    · have hs := (S.mem (n, s)).mp (by rw [e]; simp)
      refine ⟨hs.2, fun s' hp' er => ?_⟩
      have hm : ((s'.length : Int), s') ∈ st := (S.mem _).mpr ⟨rfl, hp'⟩
      rw [e] at hm
      rcases List.mem_append.mp hm with m | m
      · exact absurd er (h2 _ m)
      · rcases List.mem_cons.mp m with m | m
        · exact .inl (congrArg Prod.snd m).symm
        · have up := S.up
          rw [e, List.pairwise_append] at up
          have := (List.pairwise_cons.mp up.2.1).1 _ m
          right
          unfold sl
          rw [← hs.1]; exact this
  · rintro ⟨hp, hmin⟩
    have hm : ((s.length : Int), s) ∈ st := (S.mem _).mpr ⟨rfl, hp⟩
    refine el2_1 (List.append_of_mem hm) fun a b e => ?_
    refine .inr ⟨a, b, _, e, by simp, fun p hpa er => ?_⟩
    obtain ⟨p1, p2⟩ := (S.mem p).mp (by rw [e]; simp [hpa])
    have up := S.up
    rw [e, List.pairwise_append] at up
    have hlt := up.2.2 p hpa _ List.mem_cons_self
    have h1 : sl p.2 s = true := by unfold sl; rw [← p1]; exact hlt
    rcases hmin p.2 p2 er with q | q
    · rw [q, ord_sl.irrefl] at h1; cases h1
    · rw [sl_asymm h1] at q; cases q
theorem fs_facts (G : Good ws) {r : List (Int × List Int)} (hrn : r.Nodup) (hrm : ∀ p, p ∈ r ↔ p ∈ startsL ws) {fs : List (List Int)} (hfs : fsGo ws (srt startLt r) [] = fs) : FsFacts ws fs := by
  have S := st_ok G hrn hrm
  subst hfs
  refine ⟨fun e => ?_, ?_, fun s hs => ?_, fun s hs g h => ?_⟩
  · have := fsGo_cover (ws := ws) (srt startLt r) [] (0, []) ((S.mem _).mpr ⟨rfl, .inl rfl⟩)
    rw [e] at this; cases this
  · have h1 := (fsGo_sub (ws := ws) (srt startLt r) []).length_le
    rw [List.nil_append, List.length_map, (srt_perm _ _).length_eq] at h1
    have h2 := hrn.length_le_of_subset fun p hp => (hrm p).mp hp
    have := startsL_len G
    omega
  · have hp := ((fs_min S).mp hs).1
    exact startsL_short G (p := ((s.length : Int), s)) ((startsL_mem G).mpr ⟨rfl, hp⟩)
  · exact fsGo_cover (ws := ws) (srt startLt r) [] (((s ++ [g]).length : Int), s ++ [g]) ((S.mem _).mpr ⟨rfl, (pref_rest G).mpr h⟩)
theorem idxR_at {fs : List (List Int)} {t : List (List Int × Int)} (h : t ∈ fs.map (restOf ws)) : (fs.map (restOf ws))[idxR ws fs t]? = some t := by
  have hl : idxR ws fs t < (fs.map (restOf ws)).length := List.findIdx_lt_length.mpr ⟨t, h, by simp⟩
  have := List.findIdx_getElem (xs := fs.map (restOf ws)) (p := fun x => decide (x = t)) (w := hl)
  rw [decide_eq_true_eq] at this
  rw [List.getElem?_eq_getElem hl]
  exact congrArg some this
theorem mem_addKeys : ∀ {d : List (Int × Int)} {gs : List Int} {g : Int}, g ∈ addKeys gs d ↔ g ∈ gs ∨ ∃ p ∈ d, p.1 = g
  | [], gs, g => by simp [addKeys]
  | p :: d, gs, g => by
    show g ∈ addKeys (if p.1 ∈ gs then gs else gs ++ [p.1]) d ↔ _
    rw [mem_addKeys]
    constructor
    · rintro (h | ⟨q, hq, e⟩)
      · split at h
        · exact .inl h
        · rcases List.mem_append.mp h with h | h
          · exact .inl h
          · exact .inr ⟨p, List.mem_cons_self, (List.mem_singleton.mp h).symm⟩
      · exact .inr ⟨q, List.mem_cons_of_mem _ hq, e⟩
    · rintro (h | ⟨q, hq, e⟩)
      · left; split
        · exact h
        · exact List.mem_append_left _ h
      · rcases List.mem_cons.mp hq with rfl | m
        · left; split
          · rename_i hin; rw [← e]; exact hin
          · rw [← e]; simp
        · exact .inr ⟨q, m, e⟩
theorem mem_glyphs : ∀ {rows : List (List (Int × Int))} {gs : List Int} {g : Int}, g ∈ rows.foldl addKeys gs ↔ g ∈ gs ∨ ∃ d ∈ rows, ∃ p ∈ d, p.1 = g
  | [], gs, g => by simp
  | d :: rows, gs, g => by
    rw [List.foldl_cons, mem_glyphs, mem_addKeys]
    constructor
    · rintro ((h | h) | ⟨d', hd, h⟩)
      · exact .inl h
      · exact .inr ⟨d, List.mem_cons_self, h⟩
      · exact .inr ⟨d', List.mem_cons_of_mem _ hd, h⟩
    · rintro (h | ⟨d', hd, h⟩)
      · exact .inl (.inl h)
      · rcases List.mem_cons.mp hd with rfl | m
        · exact .inl (.inr h)
        · exact .inr ⟨d', m, h⟩
theorem dgi_map {gs : List Int} (f : Int → Int) (g : Int) : dgi (gs.map fun x => (x, f x)) g = if g ∈ gs then some (f g) else none := by
  induction gs with
  | nil => rfl
  | cons x gs ih =>
    unfold dgi at ih ⊢
    rw [List.map_cons, List.find?_cons]
    by_cases h : x = g
    · subst h; simp
    · have : ¬ g = x := fun e => h e.symm
      simp only [h, decide_false, List.mem_cons, this, false_or]
      exact ih
variable {hs : List Int}
theorem bfs_cover (G : Good ws) (F : HF (trieOf ws) hs) {W : List (List Int)} {o : List Int} {rows : List (List (Int × Int))} {ends : List Int} (I : BI ws hs W o rows ends) (hl : rows.length = o.length) : ∀ (n : Nat) (s : List Int), s.length = n → Pref ws s → ∃ w ∈ W, cls ws hs w = cls ws hs s ∧ slE w s
  | 0, s, e, _ => by
    obtain rfl := List.length_eq_zero_iff.mp e
    exact ⟨[], I.hd, rfl, .inl rfl⟩
  | n + 1, s, e, hp => by
    obtain ⟨a, g, rfl⟩ : ∃ a g, s = a ++ [g] := ⟨s.dropLast, s.getLast (fun q => by rw [q] at e; cases e), (List.dropLast_concat_getLast _).symm⟩
    have hpa := pref_init G hp
    refine el1_3 (bfs_cover G F I hl n a (by simpa using e) hpa) fun w hw h1 h2 => ?_
    obtain ⟨i, hi⟩ := List.getElem?_of_mem hw
    have hil : i < rows.length := by
      have := (List.getElem?_eq_some_iff.mp hi).1
      rw [hl, I.ho, List.length_map]; exact this
    obtain ⟨hp2, h3⟩ := cls_step G F hpa (I.pf w hw) h1.symm hp
    refine el1_3 (I.closed i hil w hi g hp2) fun v hv h4 h5 => ?_
    exact ⟨v, hv, h4.trans h3.symm, h5.trans (h2.snoc g)⟩
theorem law_facts (G : Good ws) {r : List (Int × List Int)} (hrn : r.Nodup) (hrm : ∀ p, p ∈ r ↔ p ∈ startsL ws) {fs : List (List Int)} (hfs : fsGo ws (srt startLt r) [] = fs) {es : List (List MV × MV)} {o : List Int} {rows : List (List (Int × Int))} {ends : List Int}
    (H : HInv (trieOf ws) 0 hs es) (B : Bfs (trieOf ws) hs o rows ends) (hl : rows.length = o.length) : LawFacts ws fs rows ends := by
  have S := st_ok G hrn hrm
  have F := H.facts
  have FF := fs_facts G hrn hrm hfs
  obtain ⟨W, I⟩ := bfs_inv G F B
  have ond := (B.ok (trie_of G).ok ⟨H.len, H.rng⟩).1.nd
  rw [I.ho] at ond
  have cover := fun s hp => bfs_cover G F I hl s.length s rfl hp
  have hWl : rows.length = W.length := by rw [hl, I.ho, List.length_map]
  have inj : ∀ w ∈ W, ∀ w' ∈ W, cls ws hs w = cls ws hs w' → w = w' := fun w hw w' hw' e => by
    obtain ⟨i, hi⟩ := List.getElem?_of_mem hw
    obtain ⟨j, hj⟩ := List.getElem?_of_mem hw'
    have := nodup_inj ond (i := i) (j := j) (a := cls ws hs w) (by rw [List.getElem?_map, hi]; rfl) (by rw [List.getElem?_map, hj, e]; rfl)
    subst this
    rw [hi] at hj; exact Option.some.inj hj
  have hWmem : ∀ s, s ∈ W ↔ s ∈ fs := fun s => by
    rw [← hfs, fs_min S]
    constructor
    · intro hw
      refine ⟨I.pf s hw, fun s' hp' er => ?_⟩
      have ec := (cls_eq G F hp' (I.pf s hw)).mpr er
      refine el1_3 (cover s' hp') fun v hv h1 h2 => ?_
      rw [inj v hv s hw (h1.trans ec)] at h2
      exact h2
    · rintro ⟨hp, hmin⟩
      refine el1_3 (cover s hp) fun v hv h1 h2 => ?_
      have er := (cls_eq G F (I.pf v hv) hp).mp h1
      rcases hmin v (I.pf v hv) er with q | q
      · rw [q]; exact hv
      · rcases h2 with h2 | h2
        · rw [← h2]; exact hv
        · rw [sl_asymm h2] at q; cases q
  have strict : ∀ l : List (List Int), l.Pairwise (fun a b => sl a b = true) → l.Nodup ∧ Upw sl l := fun l h =>
    ⟨by rw [List.nodup_iff_pairwise_ne]; exact h.imp fun q => sl_ne q, h.imp fun q => sl_asymm q⟩
  have hfss : fs.Pairwise (fun a b => sl a b = true) := by
    have := fsGo_sub (ws := ws) (srt startLt r) []
    rw [hfs, List.nil_append] at this
    exact (st_sl S).sublist this
  have hW : W = fs := by
    obtain ⟨a1, a2⟩ := strict W I.srt
    obtain ⟨b1, b2⟩ := strict fs hfss
    exact up_unique ord_sl ((List.perm_ext_iff_of_nodup a1 b1).mpr hWmem) a2 b2
  subst hW
  have rnd : (W.map (restOf ws)).Nodup := by
    rw [List.nodup_iff_pairwise_ne, List.pairwise_map]
    have h := List.pairwise_and_iff.mpr ⟨(strict W I.srt).1, I.srt⟩
    rw [List.nodup_iff_pairwise_ne] at *
    refine ((strict W I.srt).1).imp_of_mem fun {a b} ha hb hab e => hab ?_
    exact inj a ha b hb ((cls_eq G F (I.pf a ha) (I.pf b hb)).mpr e)
  have glb : ∀ s g, Pref ws (s ++ [g]) → 1 ≤ g ∧ g ≤ 4 := fun s g hp => by
    refine el2_1 ((pref_ext G).mp hp) fun t l m => ?_
    exact G.gl _ m g (by simp)
  have at_row : ∀ i (h : i < rows.length) (h2 : i < W.length) g, (dgi rows[i] g).getD (-1) = dueAt ws W g W[i] := fun i h h2 g => by
    have hw : W[i]? = some W[i] := List.getElem?_eq_getElem h2
    have hwm : W[i] ∈ W := List.getElem_mem h2
    have hr := I.rowsE i h _ hw
    rw [List.getElem?_eq_getElem h] at hr
    rw [Option.some.inj hr, dgi_map fun x => (dgi (plOf o) (cls ws hs (W[i] ++ [x]))).getD 0]
    unfold dueAt
    by_cases hp : Pref ws (W[i] ++ [g])
    · rw [if_pos ((keysAt_mem G (I.pf _ hwm)).mpr hp), if_neg ((pref_rest G).mp hp)]
      refine el1_3 (I.closed i h _ hw g hp) fun v hv h4 _ => ?_
      have hin : cls ws hs (W[i] ++ [g]) ∈ o := by rw [I.ho]; exact List.mem_map.mpr ⟨v, hv, h4⟩
      refine el1_3 (plOf_some hin) fun j hj hjl hje => ?_
      rw [hj]
      simp only [Option.getD_some]
      have hrv : restOf ws (W[i] ++ [g]) ∈ W.map (restOf ws) := List.mem_map.mpr ⟨v, hv, (cls_eq G F (I.pf v hv) hp).mp h4⟩
      have hx := idxR_at hrv
      rw [I.ho, List.getElem?_map] at hje
      obtain ⟨z, hz, ez⟩ := Option.map_eq_some_iff.mp hje
      have hzr := (cls_eq G F (I.pf z (List.mem_of_getElem? hz)) hp).mp ez
      have := nodup_inj rnd (i := j) (j := idxR ws W (restOf ws (W[i] ++ [g]))) (a := restOf ws (W[i] ++ [g])) (by rw [List.getElem?_map, hz, ← hzr]; rfl) hx
      rw [this]
    · rw [if_neg fun m => hp ((keysAt_mem G (I.pf _ hwm)).mp m), if_pos]
      · rfl
      · exact Classical.byContradiction fun q => hp ((pref_rest G).mpr q)
  have colE : ∀ g, colOf rows g = dueCol ws W g := fun g => by
    unfold colOf dueCol
    apply List.ext_getElem
    · simp [hWl]
    · intro i h1 h2
      simp only [List.length_map] at h1 h2
      simp only [List.getElem_map]
      exact at_row i h1 h2 g
  have gl : ∀ d ∈ rows, ∀ p ∈ d, 1 ≤ p.1 ∧ p.1 ≤ 4 := fun d hd p hp => by
    obtain ⟨i, hi, rfl⟩ := List.mem_iff_getElem.mp hd
    have h2 : i < W.length := by omega
    have hw : W[i]? = some W[i] := List.getElem?_eq_getElem h2
    have hr := I.rowsE i hi _ hw
    rw [List.getElem?_eq_getElem hi] at hr
    rw [Option.some.inj hr] at hp
    refine el1_2 (List.mem_map.mp hp) fun g hg eqz8 => ?_
    subst eqz8
    exact glb _ _ ((keysAt_mem G (I.pf _ (List.getElem_mem h2))).mp hg)
  refine ⟨hWl, ?_, ?_, gl⟩
  · have e1 : dueOf ws W [1, 2, 3, 4] = (([1, 2, 3, 4] : List Int).filter fun g => decide (∃ x ∈ dueCol ws W g, 0 ≤ x)).map fun g => (g, dueCol ws W g) := by
      unfold dueOf
      generalize ([1, 2, 3, 4] : List Int) = gs
      induction gs with
      | nil => rfl
      | cons g gs ih =>
        rw [List.filterMap_cons, List.filter_cons]
        by_cases h : ∃ x ∈ dueCol ws W g, 0 ≤ x
        · simp only [h, if_true, decide_true, List.map_cons]; rw [ih]
        · simp only [h, if_false, decide_false]; exact ih
    rw [e1]
    unfold colsOf
    have e2 : srt iLt (glyphsOf rows) = ([1, 2, 3, 4] : List Int).filter fun g => decide (∃ x ∈ dueCol ws W g, 0 ≤ x) := by
      refine up_unique ord_int ((List.perm_ext_iff_of_nodup ((srt_perm _ _).nodup_iff.mpr (glyphs_gl gl).nd) (List.Nodup.sublist List.filter_sublist (by decide))).mpr fun g => ?_) (srt_up ord_int _) ?_
      · rw [(srt_perm _ _).mem_iff]
        unfold glyphsOf
        rw [mem_glyphs, List.mem_filter, decide_eq_true_eq]
        constructor
        · rintro (h | ⟨d, hd, p, hp, rfl⟩)
          · cases h
          · have hb := gl d hd p hp
            refine ⟨by simp; omega, ?_⟩
            obtain ⟨i, hi, rfl⟩ := List.mem_iff_getElem.mp hd
            have h2 : i < W.length := by omega
            refine ⟨dueAt ws W p.1 W[i], List.mem_map.mpr ⟨_, List.getElem_mem h2, rfl⟩, ?_⟩
            have hw : W[i]? = some W[i] := List.getElem?_eq_getElem h2
            have hr := I.rowsE i hi _ hw
            rw [List.getElem?_eq_getElem hi] at hr
            rw [Option.some.inj hr] at hp
            refine el1_2 (List.mem_map.mp hp) fun g hg eqz10 => ?_
            subst eqz10
            have hpf := (keysAt_mem G (I.pf _ (List.getElem_mem h2))).mp hg
            unfold dueAt
            rw [if_neg ((pref_rest G).mp hpf)]; omega
        · rintro ⟨_, x, hx, h0⟩
          refine el1_2 (List.mem_map.mp hx) fun s hs' eqz12 => ?_
          subst eqz12
          obtain ⟨i, h2, rfl⟩ := List.mem_iff_getElem.mp hs'
          have hi : i < rows.length := by omega
          right
          have h1 := at_row i hi h2 g
          cases q : dgi rows[i] g with
          | none =>
            rw [q] at h1
            rw [← h1] at h0
            simp at h0
          | some j => exact ⟨rows[i], List.getElem_mem hi, _, dgi_mem q, rfl⟩
      · have : Upw iLt ([1, 2, 3, 4] : List Int) := by unfold Upw; decide
        exact this.sublist List.filter_sublist
    rw [e2]
    exact List.map_congr_left fun g _ => by rw [colE]
  · apply List.ext_getElem
    · rw [I.el, hWl, List.length_map]
    · intro i h1 h2
      simp only [List.length_map] at h2
      have h3 : i < rows.length := by omega
      have he := I.endsE i h3 _ (List.getElem?_eq_getElem h2)
      rw [List.getElem?_eq_getElem h1] at he
      rw [Option.some.inj he, List.getElem_map]
end
end Mine
namespace Mine
open Classical
theorem wSeq_cut {W1 W2 : WS} {σ : St} {Q : Fl → St → Prop} (J : St → Prop) (h1 : ∀ C : Fl → St → Prop, (∀ σ', J σ' → C .next σ') → W1 σ C) (h2 : ∀ σ', J σ' → W2 σ' Q) : wSeq W1 W2 σ Q := h1 _ fun σ' h => h2 σ' h
noncomputable def embR (r : List (List Int × Int)) : MV := .flist (r.map embW)
theorem embW_inj {p q : List Int × Int} (h : embW p = embW q) : p = q := by
  unfold embW at h
  injection h with h
  injection h with h1 h2
  injection h2 with h2 _
  injection h2 with h2
  exact Prod.ext (itup_inj.mp h1) h2
theorem embR_inj {p q : List (List Int × Int)} (h : embR p = embR q) : p = q := by
  unfold embR at h
  injection h with h
  exact (List.map_inj_right fun a b e => embW_inj e).mp h
theorem plain_embW (p : List Int × Int) : (embW p).plain = true := by
  unfold embW
  simp [MV.plain, plains, plain_itup]
theorem plain_embR (r : List (List Int × Int)) : (embR r).plain = true := by
  unfold embR
  show plains _ = true
  exact plains_all.mpr fun d m => by
    refine el1_2 (List.mem_map.mp m) fun p _ eqz1 => ?_
    subst eqz1
    exact plain_embW p
theorem plains_embR (rs : List (List (List Int × Int))) : plains (rs.map embR) = true := plains_all.mpr fun d m => by
  refine el1_2 (List.mem_map.mp m) fun p _ eqz2 => ?_
  subst eqz2
  exact plain_embR p
theorem deps_le {n : Nat} : ∀ {l : List MV}, (∀ d ∈ l, d.dep ≤ n) → deps l ≤ n
  | [], _ => Nat.zero_le _
  | d :: l, h => by
    show max d.dep (deps l) ≤ n
    have := h d List.mem_cons_self
    have := deps_le (l := l) fun x hx => h x (List.mem_cons_of_mem _ hx)
    lia
theorem dep_embW (p : List Int × Int) : (embW p).dep ≤ 2 := by
  show deps [itup p.1, .int p.2] + 1 ≤ 2
  have : deps [itup p.1, .int p.2] ≤ 1 := deps_le fun d m => by
    rcases List.mem_cons.mp m with rfl | m
    · rw [dep_itup]; exact Nat.le_refl _
    · rw [List.mem_singleton.mp m]; exact Nat.zero_le _
  lia
theorem dep_embR (r : List (List Int × Int)) : (embR r).dep ≤ 3 := by
  show deps (r.map embW) + 1 ≤ 3
  have : deps (r.map embW) ≤ 2 := deps_le fun d m => by
    refine el1_2 (List.mem_map.mp m) fun p _ eqz3 => ?_
    subst eqz3
    exact dep_embW p
  lia
theorem mem_embR {t : List (List Int × Int)} {ts : List (List (List Int × Int))} : embR t ∈ ts.map embR ↔ t ∈ ts := by
  rw [List.mem_map]
  exact ⟨fun ⟨x, m, e⟩ => embR_inj e ▸ m, fun m => ⟨t, m, rfl⟩⟩
theorem dueOf_snoc (ws : List (List Int × Int)) (fs : List (List Int)) (gs : List Int) (g : Int) : dueOf ws fs (gs ++ [g]) = dueOf ws fs gs ++ (if ∃ x ∈ dueCol ws fs g, 0 ≤ x then [(g, dueCol ws fs g)] else []) := by
  unfold dueOf
  rw [List.filterMap_append]
  congr 1
  by_cases h : ∃ x ∈ dueCol ws fs g, 0 ≤ x
  · rw [if_pos h]; simp [h]
  · rw [if_neg h]; simp [h]
theorem dueOf_key {ws : List (List Int × Int)} {fs : List (List Int)} {gs : List Int} {p : Int × List Int} (h : p ∈ dueOf ws fs gs) : p.1 ∈ gs ∧ p.2 = dueCol ws fs p.1 := by
  unfold dueOf at h
  refine el1_2 (List.mem_filterMap.mp h) fun g hg e => ?_
  split at e
  · cases e; exact ⟨hg, rfl⟩
  · cases e
theorem dueOf_len (ws : List (List Int × Int)) (fs : List (List Int)) (gs : List Int) : (dueOf ws fs gs).length ≤ gs.length := List.length_filterMap_le _ _
theorem embC_none {es : List (Int × List Int)} {g : Int} (h : ∀ p ∈ es, p.1 ≠ g) : dget (embC es) g = none := by
  unfold dget embC
  rw [Option.map_eq_none_iff, List.find?_eq_none]
  intro x hx e
  refine el1_2 (List.mem_map.mp hx) fun p hp eqz4 => ?_
  subst eqz4
  simp only [decide_eq_true_eq] at e
  exact h p hp e
theorem idxR_spec {ws : List (List Int × Int)} {fs : List (List Int)} {t : List (List Int × Int)} (h : t ∈ fs.map (restOf ws)) : ((fs.map (restOf ws)).map embR)[idxR ws fs t]? = some (embR t) ∧ ∀ j < idxR ws fs t, ((fs.map (restOf ws)).map embR)[j]? ≠ some (embR t) := by
  have hl : idxR ws fs t < (fs.map (restOf ws)).length := List.findIdx_lt_length.mpr ⟨t, h, by simp⟩
  constructor
  · have := List.findIdx_getElem (w := hl)
    simp only [decide_eq_true_eq] at this
    rw [List.getElem?_map, List.getElem?_eq_getElem hl]
    unfold idxR
    rw [this]; rfl
  · intro j hj e
    have := List.not_of_lt_findIdx hj
    rw [List.getElem?_map, List.getElem?_eq_getElem (by lia)] at e
    simp only [Option.map_some, Option.some.injEq] at e
    rw [embR_inj e, decide_eq_false_iff_not] at this
    exact this rfl
theorem embC_keys (es : List (Int × List Int)) : (embC es).map (·.1) = es.map (·.1) := by unfold embC; rw [List.map_map]; rfl
theorem due_sorted {ws : List (List Int × Int)} {fs : List (List Int)} {rows : List (List (Int × Int))} {ends : List Int} (LF : LawFacts ws fs rows ends) : srt iLt ((dueOf ws fs [1, 2, 3, 4]).map (·.1)) = (dueOf ws fs [1, 2, 3, 4]).map (·.1) := by
  rw [← LF.cols, cols_keys]
  exact up_unique ord_int (srt_perm _ _) (srt_up ord_int _) (srt_up ord_int _)
theorem due_nd {ws : List (List Int × Int)} {fs : List (List Int)} {rows : List (List (Int × Int))} {ends : List Int} (LF : LawFacts ws fs rows ends) : ((dueOf ws fs [1, 2, 3, 4]).map (·.1)).Nodup := by
  rw [← LF.cols, cols_keys]
  exact (srt_perm _ _).nodup_iff.mpr (glyphs_gl LF.gl).nd
structure LS1 (σ : St) (wr : Addr) (ws : List (List Int × Int)) : Prop where
  v : σ.vars (Str.ofString "words") = some (.ref wr)
  m : σ.mu wr = some (.list (ws.map embW))
structure LS2 (σ : St) (rr fr : Addr) (ws : List (List Int × Int)) (fs : List (List Int)) : Prop where
  v1 : σ.vars (Str.ofString "rests") = some (.ref rr)
  m1 : σ.mu rr = some (.list ((fs.map (restOf ws)).map embR))
  v2 : σ.vars (Str.ofString "first_starts") = some (.ref fr)
  m2 : σ.mu fr = some (.list (fs.map itup))
structure LS3 (σ : St) (du : Addr) (es : List (Int × List Int)) : Prop where
  v : σ.vars (Str.ofString "due") = some (.ref du)
  m : σ.mu du = some (.idict (embC es))
theorem LS1.keep {σ σ' : St} {wr : Addr} {ws : List (List Int × Int)} (X : LS1 σ wr ws) (hv : σ'.vars (Str.ofString "words") = σ.vars (Str.ofString "words")) (hm : ∀ y p, σ.mu y = some p → σ'.mu y = some p) : LS1 σ' wr ws := ⟨hv.trans X.v, hm _ _ X.m⟩
theorem LS2.keep {σ σ' : St} {rr fr : Addr} {ws : List (List Int × Int)} {fs : List (List Int)} (X : LS2 σ rr fr ws fs) (h1 : σ'.vars (Str.ofString "rests") = σ.vars (Str.ofString "rests")) (h2 : σ'.vars (Str.ofString "first_starts") = σ.vars (Str.ofString "first_starts")) (hm : ∀ y p, σ.mu y = some p → σ'.mu y = some p) : LS2 σ' rr fr ws fs :=
  ⟨h1.trans X.v1, hm _ _ X.m1, h2.trans X.v2, hm _ _ X.m2⟩
theorem LS3.keep {σ σ' : St} {du : Addr} {es : List (Int × List Int)} (X : LS3 σ du es) (hv : σ'.vars (Str.ofString "due") = σ.vars (Str.ofString "due")) (hm : ∀ y p, σ.mu y = some p → σ'.mu y = some p) : LS3 σ' du es := ⟨hv.trans X.v, hm _ _ X.m⟩
theorem rn_rest {μ : MHeap} {r : Addr} {ws : List (List Int × Int)} {s : List Int} (m : μ r = some (.list (ws.map embW))) (h1 : ws.length ≤ 10) (h2 : ∀ p ∈ ws, p.1.length ≤ 10) (h3 : s.length ≤ 10) : RdN pRest [.ref r, itup s] μ (embR (restOf ws s)) := fun _ q => ⟨r, ws, s, rfl, m, Nat.le_trans h1 (Nat.le_of_ble_eq_true rfl), h2, h3, q⟩
structure FsI (ws : List (List Int × Int)) (r : List (Int × List Int)) (wr rr fr : Addr) (rest : List (Int × List Int)) (fs : List (List Int)) (σ : St) : Prop where
  mem : ∀ p ∈ rest, p ∈ startsL ws
  go : fsGo ws rest fs = fsGo ws (srt startLt r) []
  sz : fs.length + rest.length ≤ 30
  l1 : LS1 σ wr ws
  l2 : LS2 σ rr fr ws fs
theorem v_off {σ : St} {x y : String} {d : MV} (h : x ≠ y) : (σ.setv (Str.ofString y) d).vars (Str.ofString x) = σ.vars (Str.ofString x) := if_neg fun z => h (ofString_inj.mp z)
theorem s_sortSet {W : WE} {σ : St} {Q : Fl → St → Prop} {x : Str} {l : List (Int × List Int)} (h : Rd W σ (.flist (l.map embS))) (z : l.length < 64) (k : ∀ r, r.Nodup → (∀ p, p ∈ r ↔ p ∈ l) → Q .next (σ.setv x (.flist ((srt startLt r).map embS)))) : wAssign (wSortSet W) (wSetv x) σ Q :=
  h _ ⟨l, rfl, z, k⟩
theorem r2_neFn {μ : MHeap} {l m : List MV} (h1 : plains l = true) (h2 : plains m = true) (h3 : deps l ≤ 49) (e : l = m) : Rd2 (pEq true) (.flist l) (.flist m) μ (.bool false) := by
  have := r2_neF (μ := μ) h1 h2 h3
  rw [decide_eq_true e] at this; exact this
theorem r2_neFy {μ : MHeap} {l m : List MV} (h1 : plains l = true) (h2 : plains m = true) (h3 : deps l ≤ 49) (e : l ≠ m) : Rd2 (pEq true) (.flist l) (.flist m) μ (.bool true) := by
  have := r2_neF (μ := μ) h1 h2 h3
  rw [decide_eq_false e] at this; exact this
theorem v_off2 {σ : St} {μ' : MHeap} {x y z : String} {d e : MV} (h : x ≠ y) (h2 : x ≠ z) : (St.setv ⟨(σ.setv (Str.ofString y) d).vars, μ'⟩ (Str.ofString z) e).vars (Str.ofString x) = σ.vars (Str.ofString x) := (if_neg fun q => h2 (ofString_inj.mp q)).trans (if_neg fun q => h (ofString_inj.mp q))
theorem rn_index {μ : MHeap} {r : Addr} {l : List MV} {d : MV} {i : Nat} (m : μ r = some (.list l)) (h1 : plains l = true) (h2 : d.plain = true) (h3 : d.dep ≤ 50) (z : l.length ≤ 1000000) (e : l[i]? = some d) (no : ∀ j < i, l[j]? ≠ some d) : RdN pIndex [.ref r, d] μ (.int (i : Nat)) := fun _ q => ⟨r, l, d, i, rfl, m, h1, h2, h3, z, e, no, q⟩
structure DuI (wr rr fr du cr : Addr) (ws : List (List Int × Int)) (fs : List (List Int)) (done : List Int) (g : Int) (fd : List (List Int)) (σ : St) : Prop where
  l1 : LS1 σ wr ws
  l2 : LS2 σ rr fr ws fs
  l3 : LS3 σ du (dueOf ws fs done)
  vg : σ.vars (Str.ofString "glyph") = some (.int g)
  vc : σ.vars (Str.ofString "column") = some (.ref cr)
  mc : σ.mu cr = some (.list ((fd.map (dueAt ws fs g)).map MV.int))
theorem r2_neIn {μ : MHeap} {i j : Int} (e : i = j) : Rd2 (pEq true) (.int i) (.int j) μ (.bool false) := by
  have := r2_neI (μ := μ) (i := i) (j := j)
  rw [decide_eq_true e] at this; exact this
structure LAll (σ : St) (wr rr fr du kr tb dt cd dc cl : Addr) (ws : List (List Int × Int)) (fs : List (List Int)) (due : List (Int × List Int)) (K : List (List Int)) : Prop where
  l1 : LS1 σ wr ws
  l2 : LS2 σ rr fr ws fs
  l3 : LS3 σ du due
  vk : σ.vars (Str.ofString "kinds") = some (.ref kr)
  mkk : σ.mu kr = some (.list (K.map itup))
  vt : σ.vars (Str.ofString "table") = some (.ref tb)
  ta : TableAt σ.mu tb dt cd (tableRows fs.length (stGo due [] []).1) (fs.map (endOf ws))
  ca : ClassAt σ.mu cd dc cl (stGo due [] []).2
structure Apart (kr wr rr fr du tb dt cd dc cl : Addr) : Prop where
  q1 : kr ≠ wr
  q2 : kr ≠ rr
  q3 : kr ≠ fr
  q4 : kr ≠ du
  q5 : kr ≠ tb
  q6 : kr ≠ dt
  q7 : kr ≠ cd
  q8 : kr ≠ dc
  q9 : kr ≠ cl
theorem TableAt.mono {μ μ' : MHeap} {tb dt cd : Addr} {rows : List (List Int)} {ends : List Int} (X : TableAt μ tb dt cd rows ends) (h : ∀ y p, μ y = some p → μ' y = some p) : TableAt μ' tb dt cd rows ends := ⟨h _ _ X.inst, h _ _ X.attrs⟩
theorem ClassAt.mono {μ μ' : MHeap} {cd dc cl : Addr} {cls : List (Int × Int)} (X : ClassAt μ cd dc cl cls) (h : ∀ y p, μ y = some p → μ' y = some p) : ClassAt μ' cd dc cl cls := ⟨h _ _ X.inst, h _ _ X.attrs, h _ _ X.dict⟩
theorem LAll.setv {σ : St} {wr rr fr du kr tb dt cd dc cl : Addr} {ws : List (List Int × Int)} {fs : List (List Int)} {due : List (Int × List Int)} {K : List (List Int)} (X : LAll σ wr rr fr du kr tb dt cd dc cl ws fs due K) (x : String) (d : MV) (hx : x ∉ ["words", "rests", "first_starts", "due", "kinds", "table"]) : LAll (σ.setv (Str.ofString x) d) wr rr fr du kr tb dt cd dc cl ws fs due K := by
  have key : ∀ y ∈ ["words", "rests", "first_starts", "due", "kinds", "table"], (σ.setv (Str.ofString x) d).vars (Str.ofString y) = σ.vars (Str.ofString y) := fun y hy => by
    show (if Str.ofString y = Str.ofString x then some d else σ.vars (Str.ofString y)) = _
    rw [if_neg]
    intro e
    exact hx (ofString_inj.mp e ▸ hy)
  exact ⟨X.l1.keep (key _ (by simp)) fun _ _ e => e, X.l2.keep (key _ (by simp)) (key _ (by simp)) fun _ _ e => e, X.l3.keep (key _ (by simp)) fun _ _ e => e, (key _ (by simp)).trans X.vk, X.mkk, (key _ (by simp)).trans X.vt, X.ta, X.ca⟩
section
variable {prog : Program} {w : World} {c : Cx prog w} (hK : c.K = heapK w.params)
include hK
noncomputable def pLaw : List MV → W0 := fun ds μ Q => ∃ is : List Int, ds = [.flist (is.map MV.int)] ∧ is.length ≤ 63 ∧ ∀ μ', Q (.bool true) μ'
theorem sp_law {k : Nat} : CodeN c (k + 6) (.ref 191) pLaw := by
  refine' CodeN.mono (CodeN.fn (names := [Str.ofString "script"]) (a := 191) ?ho ?hcd ?hb ?hbind ?hown ?hnd ?hfree ?hco ?hgen ?hk) ?fin
  case ho => rw [hK]; rfl
  case hcd => rw [hK]; rfl
  case hco => rfl
  case hgen => rfl
  case hk => rfl
  case hbind => intro vals hl; obtain ⟨a, rfl⟩ := len1 hl; rfl
  case hown => exact fn_own (by decide)
  case hnd => decide
  case hfree => exact fn_free (by decide)
  case hb =>
    exact (JSs.cons (JS.assign (JE.list (JEs.cons (fun _ _ => rfl) (JE.binop op_addL (JE.comp' (compOk rfl (by decide) (by decide)) (JSrc.seq (JE.slice (JE.nm "script" _ (by decide)) JPart.none (JPart.some (JE.int _ _ _)) (fun _ _ => rfl))) (fun _ _ => rfl) (JA.nl rfl) JTs.nil JGens.nil (JE.call (cl_int hK) rfl op_int (JEs.cons (fun _ _ => rfl) (JE.nm "cell" _ (by decide)) JEs.nil))) (JE.flist (JEs.cons (fun _ _ => rfl) (JE.int _ _ _) (JEs.cons (fun _ _ => rfl) (JE.int _ _ _) JEs.nil)))) (JEs.cons (fun _ _ => rfl) (JE.int _ _ _) (JEs.cons (fun _ _ => rfl) (JE.int _ _ _) JEs.nil)))) (JA.nl rfl) (fun _ _ => rfl) (fun _ => rfl) (fun _ => rfl))
      (JSs.cons (JS.assign (JE.call (cl_law_drawn hK) rfl (sp_law_drawn hK).op (JEs.cons (fun _ _ => rfl) (JE.nm "pen" _ (by decide)) JEs.nil)) (JA.nc rfl) (fun _ _ => rfl) (fun _ => rfl) (fun _ => rfl))
      (JSs.cons (JS.assign (JE.sortedSet (cl_sorted hK) rfl (cl_set hK) rfl (fun _ _ => rfl) (JE.comp' (compOk rfl (by decide) (by decide)) (JSrc.seq (JE.nm "words" _ (by decide))) (fun _ _ => rfl) (JA.tup (JAs.cons (fun _ _ => rfl) (JA.nl rfl) (JAs.cons (fun _ _ => rfl) (JA.nl rfl) JAs.nil))) JTs.nil (JGens.cons' (JSrc.range (cl_range hK) rfl (JEs.cons (fun _ _ => rfl) (JE.binop op_add (JE.call (cl_len hK) rfl op_len (JEs.cons (fun _ _ => rfl) (JE.nm "word" _ (by decide)) JEs.nil)) (JE.int _ _ _)) JEs.nil)) (JA.nl rfl) JTs.nil (fun _ _ => rfl) JGens.nil) (JE.tup (JEs.cons (fun _ _ => rfl) (JE.nm "size" _ (by decide)) (JEs.cons (fun _ _ => rfl) (JE.slice (JE.nm "word" _ (by decide)) JPart.none (JPart.some (JE.nm "size" _ (by decide))) (fun _ _ => rfl)) JEs.nil))))) (JA.nl rfl) (fun _ _ => rfl) (fun _ => rfl) (fun _ => rfl))
      (JSs.cons (JS.assign (JE.list JEs.nil) (JA.nl rfl) (fun _ _ => rfl) (fun _ => rfl) (fun _ => rfl))
      (JSs.cons (JS.assign (JE.list JEs.nil) (JA.nl rfl) (fun _ _ => rfl) (fun _ => rfl) (fun _ => rfl))
      (JSs.cons (JS.for (JSrc.seq (JE.nm "starts" _ (by decide))) (JA.tup (JAs.cons (fun _ _ => rfl) (JA.nl rfl) (JAs.cons (fun _ _ => rfl) (JA.nl rfl) JAs.nil)))
      (JSs.cons (JS.ite (JT.cmp op_notInR (JE.call (cl_law_rest hK) rfl (sp_law_rest hK).op (JEs.cons (fun _ _ => rfl) (JE.nm "words" _ (by decide)) (JEs.cons (fun _ _ => rfl) (JE.nm "start" _ (by decide)) JEs.nil))) (JE.nm "rests" _ (by decide)) rfl)
       (JSs.cons (JS.expr (jm_append (JE.nm "rests" _ (by decide)) (JEs.cons (fun _ _ => rfl) (JE.call (cl_law_rest hK) rfl (sp_law_rest hK).op (JEs.cons (fun _ _ => rfl) (JE.nm "words" _ (by decide)) (JEs.cons (fun _ _ => rfl) (JE.nm "start" _ (by decide)) JEs.nil))) JEs.nil) (fun _ => ⟨_, by with_unfolding_all rfl⟩)) (fun _ => rfl))
        (JSs.cons (JS.expr (jm_append (JE.nm "first_starts" _ (by decide)) (JEs.cons (fun _ _ => rfl) (JE.nm "start" _ (by decide)) JEs.nil) (fun _ => ⟨_, by with_unfolding_all rfl⟩)) (fun _ => rfl))
        JSs.nil))
       JSs.nil)
       JSs.nil) (fun _ _ => rfl))
      (JSs.cons (JS.assign JE.dictI (JA.nc rfl) (fun _ _ => rfl) (fun _ => rfl) (fun _ => rfl))
      (JSs.cons (JS.for (JSrc.range (cl_range hK) rfl (JEs.cons (fun _ _ => rfl) (JE.int _ _ _) (JEs.cons (fun _ _ => rfl) (JE.int _ _ _) JEs.nil))) (JA.nl rfl)
      (JSs.cons (JS.assign (JE.list JEs.nil) (JA.nl rfl) (fun _ _ => rfl) (fun _ => rfl) (fun _ => rfl))
       (JSs.cons (JS.for (JSrc.seq (JE.nm "first_starts" _ (by decide))) (JA.nl rfl)
       (JSs.cons (JS.assign (JE.call (cl_law_rest hK) rfl (sp_law_rest hK).op (JEs.cons (fun _ _ => rfl) (JE.nm "words" _ (by decide)) (JEs.cons (fun _ _ => rfl) (JE.binop op_addT (JE.nm "start" _ (by decide)) (JE.tup (JEs.cons (fun _ _ => rfl) (JE.nm "glyph" _ (by decide)) JEs.nil))) JEs.nil))) (JA.nl rfl) (fun _ _ => rfl) (fun _ => rfl) (fun _ => rfl))
        (JSs.cons (JS.expr (jm_append (JE.nm "column" _ (by decide)) (JEs.cons (fun _ _ => rfl) (JE.ifexp (JT.cmp op_ne (JE.nm "rest" _ (by decide)) (JE.flist JEs.nil) rfl) (jm_index (JE.nm "rests" _ (by decide)) (JEs.cons (fun _ _ => rfl) (JE.nm "rest" _ (by decide)) JEs.nil) (fun _ => ⟨_, by with_unfolding_all rfl⟩)) (JE.neg (JE.int _ _ _))) JEs.nil) (fun _ => ⟨_, by with_unfolding_all rfl⟩)) (fun _ => rfl))
        JSs.nil)) (fun _ _ => rfl))
       (JSs.cons (JS.ite (JT.cmp op_ge (JE.call (cl_max hK) rfl op_max (JEs.cons (fun _ _ => rfl) (JE.nm "column" _ (by decide)) JEs.nil)) (JE.int _ _ _) rfl)
       (JSs.cons (JS.assign (JE.call (cl_tuple hK) rfl op_tuple (JEs.cons (fun _ _ => rfl) (JE.nm "column" _ (by decide)) JEs.nil)) (JA.sub op_setI (JE.nm "due" _ (by decide)) (JE.nm "glyph" _ (by decide))) (fun _ _ => rfl) (fun _ => rfl) (fun _ => rfl))
        JSs.nil)
       JSs.nil)
       JSs.nil))) (fun _ _ => rfl))
      (JSs.cons (JS.assign (JE.call (cl_least_trie hK) rfl (sp_least_trie hK).op (JEs.cons (fun _ _ => rfl) (JE.call (cl_law_trie hK) rfl (sp_law_trie hK).op (JEs.cons (fun _ _ => rfl) (JE.nm "words" _ (by decide)) JEs.nil)) JEs.nil)) (JA.nl rfl) (fun _ _ => rfl) (fun _ => rfl) (fun _ => rfl))
      (JSs.cons (JS.ite (JT.or (JTs.cons (JT.cmp op_ne (JE.meth (JE.nm "lean" _ (by decide)) JEs.nil (sp_count hK).op (fun _ => ⟨_, by with_unfolding_all rfl⟩)) (JE.call (cl_len hK) rfl op_len (JEs.cons (fun _ _ => rfl) (JE.nm "rests" _ (by decide)) JEs.nil)) rfl) (JTs.cons (JT.cmp op_neD (JE.call (cl_columns_of hK) rfl (sp_columns_of hK).op (JEs.cons (fun _ _ => rfl) (JE.nm "lean" _ (by decide)) JEs.nil)) (JE.nm "due" _ (by decide)) rfl) (JTs.cons (JT.cmp op_ne (JE.call (cl_list hK) rfl op_listKeys (JEs.cons (fun _ _ => rfl) (JE.call (cl_columns_of hK) rfl (sp_columns_of hK).op (JEs.cons (fun _ _ => rfl) (JE.nm "lean" _ (by decide)) JEs.nil)) JEs.nil)) (JE.call (cl_sorted hK) rfl op_sortK (JEs.cons (fun _ _ => rfl) (JE.nm "due" _ (by decide)) JEs.nil)) rfl) JTs.nil))))
      (JSs.cons (JS.ret (JE.bool _ _ _))
       JSs.nil)
      JSs.nil)
      (JSs.cons (JS.assign (JE.call (cl_state_table hK) rfl (sp_state_table hK).op (JEs.cons (fun _ _ => rfl) (JE.nm "lean" _ (by decide)) JEs.nil)) (JA.nc rfl) (fun _ _ => rfl) (fun _ => rfl) (fun _ => rfl))
      (JSs.cons (JS.assign (JE.list JEs.nil) (JA.nc rfl) (fun _ _ => rfl) (fun _ => rfl) (fun _ => rfl))
      (JSs.cons (JS.for (JSrc.seq (JE.call (cl_sorted hK) rfl op_sortK (JEs.cons (fun _ _ => rfl) (JE.nm "due" _ (by decide)) JEs.nil))) (JA.nl rfl)
      (JSs.cons (JS.ite (JT.cmp op_notInR (JE.sub op_getI indexes_I (JE.nm "due" _ (by decide)) (JE.nm "glyph" _ (by decide)) (fun _ _ => rfl)) (JE.nm "kinds" _ (by decide)) rfl)
       (JSs.cons (JS.expr (jm_append (JE.nm "kinds" _ (by decide)) (JEs.cons (fun _ _ => rfl) (JE.sub op_getI indexes_I (JE.nm "due" _ (by decide)) (JE.nm "glyph" _ (by decide)) (fun _ _ => rfl)) JEs.nil) (fun _ => ⟨_, by with_unfolding_all rfl⟩)) (fun _ => rfl))
        JSs.nil)
       JSs.nil)
       JSs.nil) (fun _ _ => rfl))
      (JSs.cons (JS.ite (JT.cmp op_ne (JE.comp' (compOk rfl (by decide) (by decide)) (JSrc.seq (JE.call (cl_sorted hK) rfl op_sortK (JEs.cons (fun _ _ => rfl) (JE.nm "due" _ (by decide)) JEs.nil))) (fun _ _ => rfl) (JA.nl rfl) JTs.nil JGens.nil (JE.meth (JE.attr (JE.nm "table" _ (by decide)) (fun _ => by with_unfolding_all rfl)) (JEs.cons (fun _ _ => rfl) (JE.nm "glyph" _ (by decide)) JEs.nil) (sp_class_of hK).op (fun _ => ⟨_, by with_unfolding_all rfl⟩))) (JE.comp' (compOk rfl (by decide) (by decide)) (JSrc.seq (JE.call (cl_sorted hK) rfl op_sortK (JEs.cons (fun _ _ => rfl) (JE.nm "due" _ (by decide)) JEs.nil))) (fun _ _ => rfl) (JA.nl rfl) JTs.nil JGens.nil (JE.binop op_add (JE.int _ _ _) (jm_index (JE.nm "kinds" _ (by decide)) (JEs.cons (fun _ _ => rfl) (JE.sub op_getI indexes_I (JE.nm "due" _ (by decide)) (JE.nm "glyph" _ (by decide)) (fun _ _ => rfl)) JEs.nil) (fun _ => ⟨_, by with_unfolding_all rfl⟩)))) rfl)
      (JSs.cons (JS.ret (JE.bool _ _ _))
       JSs.nil)
      JSs.nil)
      (JSs.cons (JS.ite (JT.cmp op_ne (JE.comp' (compOk rfl (by decide) (by decide)) (JSrc.seq (JE.attr (JE.nm "table" _ (by decide)) (fun _ => by with_unfolding_all rfl))) (fun _ _ => rfl) (JA.nl rfl) JTs.nil JGens.nil (JE.call (cl_len hK) rfl op_len (JEs.cons (fun _ _ => rfl) (JE.nm "row" _ (by decide)) JEs.nil))) (JE.binop op_mulF (JE.flist (JEs.cons (fun _ _ => rfl) (JE.binop op_add (JE.int _ _ _) (JE.call (cl_len hK) rfl op_len (JEs.cons (fun _ _ => rfl) (JE.nm "kinds" _ (by decide)) JEs.nil))) JEs.nil)) (JE.call (cl_len hK) rfl op_len (JEs.cons (fun _ _ => rfl) (JE.nm "rests" _ (by decide)) JEs.nil))) rfl)
      (JSs.cons (JS.ret (JE.bool _ _ _))
       JSs.nil)
      JSs.nil)
      (JSs.cons (JS.for (JSrc.range (cl_range hK) rfl (JEs.cons (fun _ _ => rfl) (JE.call (cl_len hK) rfl op_len (JEs.cons (fun _ _ => rfl) (JE.nm "rests" _ (by decide)) JEs.nil)) JEs.nil)) (JA.nl rfl)
      (JSs.cons (JS.for (JSrc.seq (JE.tup (JEs.cons (fun _ _ => rfl) (JE.int _ _ _) (JEs.cons (fun _ _ => rfl) (JE.int _ _ _) (JEs.cons (fun _ _ => rfl) (JE.int _ _ _) (JEs.cons (fun _ _ => rfl) (JE.int _ _ _) (JEs.cons (fun _ _ => rfl) (JE.int _ _ _) (JEs.cons (fun _ _ => rfl) (JE.int _ _ _) (JEs.cons (fun _ _ => rfl) (JE.int _ _ _) JEs.nil))))))))) (JA.nl rfl)
       (JSs.cons (JS.ite (JT.cmp op_ne (JE.meth (JE.nm "table" _ (by decide)) (JEs.cons (fun _ _ => rfl) (JE.nm "node" _ (by decide)) (JEs.cons (fun _ _ => rfl) (JE.nm "glyph" _ (by decide)) JEs.nil)) (sp_tstep hK).op (fun _ => ⟨_, by with_unfolding_all rfl⟩)) (JE.ifexp (JT.cmp op_inI (JE.nm "glyph" _ (by decide)) (JE.nm "due" _ (by decide)) rfl) (JE.sub op_getL indexes_L (JE.sub op_getI indexes_I (JE.nm "due" _ (by decide)) (JE.nm "glyph" _ (by decide)) (fun _ _ => rfl)) (JE.nm "node" _ (by decide)) (fun _ _ => rfl)) (JE.neg (JE.int _ _ _))) rfl)
        (JSs.cons (JS.ret (JE.bool _ _ _))
         JSs.nil)
        JSs.nil)
        JSs.nil) (fun _ _ => rfl))
       JSs.nil) (fun _ _ => rfl))
      (JSs.cons (JS.ret (JE.cmp op_eq (JE.attr (JE.nm "table" _ (by decide)) (fun _ => by with_unfolding_all rfl)) (JE.comp' (compOk rfl (by decide) (by decide)) (JSrc.seq (JE.nm "first_starts" _ (by decide))) (fun _ _ => rfl) (JA.nl rfl) JTs.nil JGens.nil (jm_getK (JE.call (cl_dict hK) rfl (op_dict setStepT (fun _ h => h) newDictT) (JEs.cons (fun _ _ => rfl) (JE.nm "words" _ (by decide)) JEs.nil)) (JEs.cons (fun _ _ => rfl) (JE.nm "start" _ (by decide)) (JEs.cons (fun _ _ => rfl) (JE.neg (JE.int _ _ _)) JEs.nil)) (fun _ => ⟨_, by with_unfolding_all rfl⟩))) rfl))
      JSs.nil)))))))))))))))))
  case fin =>
    intro ds μ Q hz5
    refine el1_3 hz5 fun is eqz6 hl h => ?_; clear hz5
    subst eqz6
    show wFn _ _ _ _ _
    refine ⟨rfl, ?_⟩
    refine wSeq_cut (fun σ => ∃ pr, ∃ cells : List Int, σ.vars (Str.ofString "pen") = some (.ref pr) ∧ σ.mu pr = some (.list [.flist (cells.map MV.int), .int 0, .int 0]) ∧ cells ≠ [] ∧ cells.length ≤ 1000) (fun C hC => ?_) ?_
    · have l0 : (is.map MV.int).length ≤ 1000000 := by rw [List.length_map]; lia
      have l2 : ((is.take 40).map MV.int).length + 2 ≤ 1000 := by rw [List.length_map, List.length_take]; lia
      have ef : (is.take 40 ++ [19, 2]).map MV.int = (is.take 40).map MV.int ++ [.int 19, .int 2] := by rw [List.map_append]; rfl
      refine' s_list (ds := [.flist ((is.take 40 ++ [19, 2]).map MV.int), .int 0, .int 0]) (rd_a ?p0 (rd_a rd_lit (rd_a rd_lit rd_a0))) (Nat.le_of_ble_eq_true rfl) fun a ha => hC _ ⟨a, is.take 40 ++ [19, 2], v_same, upd_self _ _ _, by simp, by rw [List.length_append, ← List.length_map (f := MV.int)]; exact l2⟩
      case p0 =>
        rw [ef]
        refine' rd_2 (rd_comp (items := is.take 40) (emb := MV.int) MV.int (need := fun _ => True) (ri_F ?p1) (fun _ _ _ => trivial) (by rw [List.length_take]; lia) ?p2) (rd_flist (rd_a rd_lit (rd_a rd_lit rd_a0)) (Nat.le_of_ble_eq_true rfl)) (r2_addL (Nat.le_trans l2 (Nat.le_of_ble_eq_true rfl)))
        case p1 =>
          rw [List.map_take]
          exact (rd_hiF (rd_var rfl) (fun z0 => (fun z1 => z1)) l0)
        case p2 =>
          intro D hD i hi V its vs hV hx
          exact (rd_N (rd_a (rd_var hx) rd_a0) rn_int)
    intro σ0 hz7
    refine el2_4 hz7 fun pr cells v1 hpr hne hcl => ?_; clear hz7
    refine wSeq_cut (fun σ => ∃ wr ws, LS1 σ wr ws ∧ Good ws) (fun C hC => ?_) ?_
    · exact s_call (rd_a (rd_var v1) rd_a0) ⟨pr, cells, rfl, hpr, hne, hcl, fun wr ws pen h1 h2 G => hC _ ⟨wr, ws, ⟨v_same, upd_self _ _ _⟩, G⟩⟩
    clear v1 hpr hne hcl
    intro σ1 hz8
    refine el2_2 hz8 fun wr ws L1 G => ?_; clear hz8
    refine wSeq_cut (fun σ => ∃ r : List (Int × List Int), r.Nodup ∧ (∀ p, p ∈ r ↔ p ∈ startsL ws) ∧ LS1 σ wr ws ∧ σ.vars (Str.ofString "starts") = some (.flist ((srt startLt r).map embS))) (fun C hC => ?_) ?_
    · have v1 := L1.v
      have hm := L1.m
      have sl := startsL_len G
      refine' s_sortSet (l := startsL ws) ?cmp (Nat.lt_of_le_of_lt sl (Nat.le_of_ble_eq_true rfl)) fun r hrn hrm => hC _ ⟨r, hrn, hrm, L1.keep ?kv (fun y p e => e), v_same⟩
      case kv => exact v_off (by decide)
      case cmp =>
        intro Q' q
        refine' i_comp (i_src (i_var v1 (i_srcR hm fun D hD => ?_)))
        refine wItems_pure (emb := embW) (fun p => ((List.range (p.1.length + 1)).map fun (n : Nat) => ((n : Int), p.1.take n)).map embS) (fun _ => True) (fun its vs => m_pin hm hD) trivial ?_ ?_ ?_
        · unfold startsL at sl
          rw [← List.map_flatMap, List.length_map, List.length_nil]; lia
        · rintro p hp V2 its vs C2 - hl2 hC2
          have hp4 := (G.len p hp).2
          have hp5 : (p.1.map MV.int).length ≤ 1000000 := by rw [List.length_map]; lia
          rw [List.length_map, List.length_map, List.length_range] at hl2
          have e2 : ((List.range (p.1.length + 1)).map fun (n : Nat) => ((n : Int), p.1.take n)).map embS = (List.range (p.1.length + 1)).flatMap fun (n : Nat) => [embS ((n : Int), p.1.take n)] := by
            rw [flat_single, List.map_map]; rfl
          rw [e2] at hC2
          refine' i_embW (i_setv (i_setv ⟨fun _ => i_gens (ri_1 (i := (p.1.length : Int) + 1) ?ra (by lia) _ ?_), fun e => nomatch e⟩))
          case ra => exact (rd_a (rd_2 (rd_N (rd_a (rd_var rfl) rd_a0) (rn_lenT (by walk_at "ln"))) rd_lit (r2_int trivial)) rd_a0)
          have e1 : ((p.1.length : Int) + 1).toNat = p.1.length + 1 := by lia
          rw [e1]
          refine wItems_pure (emb := fun (n : Nat) => MV.int (0 + (n : Int) * 1)) (fun (n : Nat) => [embS ((n : Int), p.1.take n)]) (fun V => V (Str.ofString "word") = some (itup p.1)) (fun its vs => trivial) ?_ ?_ ?_ fun V3 its3 _ => hC2 _ _ trivial
          · first | exact if_pos rfl | exact (if_neg (fun z => absurd (ofString_inj.mp z) (by decide))).trans v_same
          · rw [flat_single, List.length_map, List.length_range]; lia
          · rintro n hn V3 its3 vs3 C3 u hl3 hC3
            have e0 : (0 : Int) + (n : Int) * 1 = n := by lia
            rw [e0]
            rw [List.length_singleton] at hl3
            refine' i_setv ⟨fun _ => i_emit ((show Rd _ _ (embS ((n : Int), p.1.take n)) from ?re) _ ⟨by lia, fun its' => ?_⟩), fun e => nomatch e⟩
            case re =>
              unfold embS
              exact (rd_tup (rd_a (rd_var rfl) (rd_a (rd_hi (rd_var u) (rd_var rfl) (by walk_at "ln")) rd_a0)) (Nat.le_of_ble_eq_true rfl))
            dsimp only [setv_mu]
            rw [upd_upd]
            exact hC3 _ its' (by exact u)
        · rintro V2 its2 -
          dsimp only
          rw [erase_upd _ hD, List.nil_append, ← List.map_flatMap]
          exact q
    intro σ1' hz9
    refine el1_4 hz9 fun r hrn hrm L1 vst => ?_; clear hz9
    refine wSeq_cut (fun σ => ∃ rr, LS1 σ wr ws ∧ σ.vars (Str.ofString "starts") = some (.flist ((srt startLt r).map embS)) ∧ rr ≠ wr ∧ σ.vars (Str.ofString "rests") = some (.ref rr) ∧ σ.mu rr = some (.list [])) (fun C hC => ?_) ?_
    · refine' s_list (ds := []) rd_a0 (Nat.zero_le _) fun rr hrr => hC _ ⟨rr, L1.keep ?k1 (ext_upd (fun y p e => e) hrr), ?k2, ne_of_none hrr L1.m, v_same, upd_self _ _ _⟩
      case k1 => exact v_off (by decide)
      case k2 => exact vst
    clear vst L1
    intro σ2 hz10
    refine el1_5 hz10 fun rr L1 vst hrw vr mr => ?_; clear hz10
    refine wSeq_cut (fun σ => ∃ fr, LS1 σ wr ws ∧ σ.vars (Str.ofString "starts") = some (.flist ((srt startLt r).map embS)) ∧ fr ≠ wr ∧ fr ≠ rr ∧ LS2 σ rr fr ws []) (fun C hC => ?_) ?_
    · refine' s_list (ds := []) rd_a0 (Nat.zero_le _) fun fr hfr => hC _ ⟨fr, L1.keep ?k3 (ext_upd (fun y p e => e) hfr), ?k4, ne_of_none hfr L1.m, ne_of_none hfr mr, ⟨?k5, (upd_ne _ _ (ne_of_none hfr mr).symm).trans mr, v_same, upd_self _ _ _⟩⟩
      case k3 => exact v_off (by decide)
      case k4 => exact vst
      case k5 => exact vr
    clear vst L1 vr mr
    intro σ3 hz11
    refine el1_5 hz11 fun fr L1 vst hfw hfr L2 => ?_; clear hz11
    have hrl : (srt startLt r).length ≤ 30 := by
      rw [(srt_perm _ _).length_eq]
      exact Nat.le_trans (hrn.length_le_of_subset fun p hp => (hrm p).mp hp) (startsL_len G)
    have hlw : ∀ q ∈ ws, q.1.length ≤ 10 := fun q hq => by have := (G.len q hq).2; lia
    have g6' := G.six
    have g6 : ws.length ≤ 10 := by have := G.six; lia
    refine wSeq_cut (fun σ => LS1 σ wr ws ∧ LS2 σ rr fr ws (fsGo ws (srt startLt r) [])) (fun C hC => ?_) ?_
    · refine s_for (ri_F (rd_var vst)) ?_
      refine wLoop_inv (fun l σ => ∃ rest fs, l = rest.map embS ∧ FsI ws r wr rr fr rest fs σ) ?_ ?_ ?_
      · intro σ hz12
        refine el2_2 hz12 fun rest fs e1 I => ?_; clear hz12
        obtain rfl := List.map_eq_nil_iff.mp e1.symm
        have hgo := I.go
        exact ⟨trivial, hC _ ⟨I.l1, hgo ▸ I.l2⟩⟩
      · intro d l σ C' hz501 hC' _
        refine el2_2 hz501 fun rest fs e1 I => ?_
        clear hz501
        cases rest with
        | nil => cases e1
        | cons p rest =>
        injection e1 with e1 e2
        subst e1
        subst e2
        have v1 := I.l1.v
        have w1 := I.l1.m
        have v2 := I.l2.v1
        have w2 := I.l2.m1
        have v3 := I.l2.v2
        have w3 := I.l2.m2
        have hz := I.sz
        rw [List.length_cons] at hz
        have hp4 : p.2.length ≤ 10 := by have := startsL_short G (I.mem p List.mem_cons_self); lia
        have rr1 := rn_rest w1 g6 hlw hp4
        have hpl := plains_embR (fs.map (restOf ws))
        have hpe := plain_embR (restOf ws p.2)
        have h50 : (embR (restOf ws p.2)).dep ≤ 50 := Nat.le_trans (dep_embR _) (Nat.le_of_ble_eq_true rfl)
        refine' ⟨trivial, i_embS (i_setv (i_setv (i_seq (s_condN (p := embR (restOf ws p.2) ∈ (fs.map (restOf ws)).map embR) (dp := _) (rt_cmp (rd_N ?ar rr1) (rd_var ?vr) (r2_niR w2 hpe hpl h50)) (fun hn => ?_) fun hn => ?_))))⟩
        case ar => exact (rd_a (rd_var v1) (rd_a (rd_var rfl) rd_a0))
        case vr => exact v2
        · have hn' : restOf ws p.2 ∉ fs.map (restOf ws) := fun q => hn (mem_embR.mpr q)
          have lr : ((fs.map (restOf ws)).map embR).length ≤ 1000000 := by rw [List.length_map, List.length_map]; lia
          have lf : (fs.map itup).length ≤ 1000000 := by rw [List.length_map]; lia
          have w3' : upd σ.mu rr (.list ((fs.map (restOf ws)).map embR ++ [embR (restOf ws p.2)])) fr = some (.list (fs.map itup)) := (upd_ne _ _ hfr).trans w3
          refine i_seq (s_append (rd_var v2) w2 (rd_N (rd_a (rd_var v1) (rd_a (rd_var rfl) rd_a0)) rr1) lr (i_next ?_))
          refine i_seq (s_append (rd_var v3) w3' (rd_var rfl) lf (i_next ?_))
          refine i_nil (i_next (i_nil (hC' _ ⟨rest, fs ++ [p.2], rfl, fun q hq => I.mem q (List.mem_cons_of_mem _ hq), ?_, by rw [List.length_append, List.length_singleton]; lia, ⟨?_, (upd_ne _ _ hfw.symm).trans ((upd_ne _ _ hrw.symm).trans w1)⟩, ⟨?_, ?_, ?_, ?_⟩⟩)))
          · rw [← I.go, fsGo, if_neg hn']
          · exact v1
          · exact v2
          · rw [List.map_append, List.map_append]
            exact (upd_ne _ _ hfr.symm).trans (upd_self _ _ _)
          · exact v3
          · rw [List.map_append]; exact upd_self _ _ _
        · have hn' : restOf ws p.2 ∈ fs.map (restOf ws) := mem_embR.mp hn
          refine i_nil (i_next (i_nil (hC' _ ⟨rest, fs, rfl, fun q hq => I.mem q (List.mem_cons_of_mem _ hq), ?_, by lia, ⟨?_, w1⟩, ⟨?_, w2, ?_, w3⟩⟩)))
          · rw [← I.go, fsGo, if_pos hn']
          · exact v1
          · exact v2
          · exact v3
      · exact ⟨srt startLt r, [], rfl, fun p hp => (hrm p).mp ((srt_perm _ _).mem_iff.mp hp), rfl, by simpa using hrl, L1, L2⟩
    clear vst hrl
    rintro σ4 ⟨L1, L2⟩
    generalize hfs : fsGo ws (srt startLt r) [] = fs at L2
    have F := fs_facts G hrn hrm hfs
    refine wSeq_cut (fun σ => ∃ du, LS1 σ wr ws ∧ LS2 σ rr fr ws fs ∧ LS3 σ du (dueOf ws fs []) ∧ du ≠ wr ∧ du ≠ rr ∧ du ≠ fr) (fun C hC => ?_) ?_
    · refine s_new fun du hdu => hC _ ⟨du, L1.keep (v_off (by decide)) (ext_upd (fun y p e => e) hdu), L2.keep (v_off (by decide)) (v_off (by decide)) (ext_upd (fun y p e => e) hdu), ⟨v_same, upd_self _ _ _⟩, ne_of_none hdu L1.m, ne_of_none hdu L2.m1, ne_of_none hdu L2.m2⟩
    clear L1 L2
    intro σ5 hz14
    refine el1_6 hz14 fun du L1 L2 L3 hdw hdr hdf => ?_; clear hz14
    have hfl : fs.length ≤ 60 := F.sz
    refine wSeq_cut (fun σ => LS1 σ wr ws ∧ LS2 σ rr fr ws fs ∧ LS3 σ du (dueOf ws fs [1, 2, 3, 4])) (fun C hC => ?_) ?_
    · refine' s_for (ri_2 (i := 1) (j := 5) ?ra (Nat.le_of_ble_eq_true rfl) (Nat.le_of_ble_eq_true rfl)) ?_
      case ra => exact (rd_a rd_lit (rd_a rd_lit rd_a0))
      have e14 : rngL 1 1 ((5 : Int) - 1).toNat = [1, 2, 3, 4].map MV.int := rfl
      rw [e14]
      refine wLoop_inv (fun l σ => ∃ (done rest : List Int), l = rest.map MV.int ∧ [1, 2, 3, 4] = done ++ rest ∧ LS1 σ wr ws ∧ LS2 σ rr fr ws fs ∧ LS3 σ du (dueOf ws fs done)) ?_ ?_ ?_
      · intro σ hz15
        refine el2_5 hz15 fun done rest e1 e2 L1 L2 L3 => ?_; clear hz15
        obtain rfl := List.map_eq_nil_iff.mp e1.symm
        rw [List.append_nil] at e2
        subst e2
        exact ⟨trivial, hC _ ⟨L1, L2, L3⟩⟩
      · intro d l σ0 C' hz503 hC' _
        refine el2_5 hz503 fun done rest e1 e2 L1 L2 L3 => ?_
        clear hz503
        cases rest with
        | nil => cases e1
        | cons g rest =>
        injection e1 with e1 e1'
        subst e1
        subst e1'
        refine ⟨trivial, i_setv ?_⟩
        refine wSeq_cut (fun σ => ∃ cr, DuI wr rr fr du cr ws fs done g [] σ ∧ cr ≠ wr ∧ cr ≠ rr ∧ cr ≠ fr ∧ cr ≠ du) (fun C hC => ?_) ?_
        · refine s_list (ds := []) rd_a0 (Nat.zero_le _) fun cr hcr => hC _ ⟨cr, ⟨L1.keep (v_off2 (by decide) (by decide)) (ext_upd (fun y p e => e) hcr), L2.keep (v_off2 (by decide) (by decide)) (v_off2 (by decide) (by decide)) (ext_upd (fun y p e => e) hcr), L3.keep (v_off2 (by decide) (by decide)) (ext_upd (fun y p e => e) hcr), by exact (v_other (by decide) (v_mk v_same)), v_same, upd_self _ _ _⟩, ne_of_none hcr L1.m, ne_of_none hcr L2.m1, ne_of_none hcr L2.m2, ne_of_none hcr L3.m⟩
        clear L1 L2 L3
        intro σ0 hz16
        refine el1_5 hz16 fun cr D0 hcw hcr hcf hcd => ?_; clear hz16
        refine wSeq_cut (DuI wr rr fr du cr ws fs done g fs) (fun C hC => ?_) ?_
        · refine s_for (ri_R (rd_var D0.l2.v2) D0.l2.m2) ?_
          refine wLoop_inv (fun l σ => ∃ (fd fre : List (List Int)), l = fre.map itup ∧ fs = fd ++ fre ∧ DuI wr rr fr du cr ws fs done g fd σ) ?_ ?_ ?_
          · intro σ hz17
            refine el2_3 hz17 fun fd fre e1 e2 D => ?_; clear hz17
            obtain rfl := List.map_eq_nil_iff.mp e1.symm
            rw [List.append_nil] at e2
            exact ⟨D.l2.m2, hC _ (by rw [e2]; rw [← e2]; rw [e2] at D ⊢; exact D)⟩
          · intro d l σ C' hz504 hC' _
            refine el2_3 hz504 fun fd fre e1 e2 D => ?_
            clear hz504
            cases fre with
            | nil => cases e1
            | cons s fre =>
            injection e1 with e1 e1'
            subst e1
            subst e1'
            have hs : s ∈ fs := by rw [e2]; exact List.mem_append_right _ List.mem_cons_self
            have hs4 := F.len s hs
            have hg10 : (s ++ [g]).length ≤ 10 := by rw [List.length_append, List.length_singleton]; lia
            have rr1 := rn_rest D.l1.m g6 hlw hg10
            have v1 := D.l1.v
            have vg := D.vg
            have vc := D.vc
            have mc := D.mc
            have v2 := D.l2.v1
            have w2 := D.l2.m1
            have lfd : fd.length ≤ 60 := by have := congrArg List.length e2; rw [List.length_append] at this; lia
            have lc : ((fd.map (dueAt ws fs g)).map MV.int).length ≤ 1000000 := by rw [List.length_map, List.length_map]; lia
            have hpl : plains ((restOf ws (s ++ [g])).map embW) = true := plain_embR (restOf ws (s ++ [g]))
            have hdp : deps ((restOf ws (s ++ [g])).map embW) ≤ 49 := by
              have : deps ((restOf ws (s ++ [g])).map embW) + 1 ≤ 3 := dep_embR _
              lia
            have lr : ((fs.map (restOf ws)).map embR).length ≤ 1000000 := by rw [List.length_map, List.length_map]; lia
            have hprs := plains_embR (fs.map (restOf ws))
            have hpe := plain_embR (restOf ws (s ++ [g]))
            have h50 : (embR (restOf ws (s ++ [g]))).dep ≤ 50 := Nat.le_trans (dep_embR _) (Nat.le_of_ble_eq_true rfl)
            refine ⟨D.l2.m2, i_setv ?_⟩
            have ls : s.length ≤ 999999 := by lia
            refine i_seq (s_assign (rd_N (rd_a (rd_var v1) (rd_a (rd_2 (rd_var rfl) (rd_tup (rd_a (rd_var vg) rd_a0) (Nat.le_of_ble_eq_true rfl)) (r2_addT ls)) rd_a0)) rr1) (i_next ?_))
            refine' i_seq (s_append (d := .int (dueAt ws fs g s)) (rd_var ?va) mc ?vd lc (i_next (i_nil (hC' _ ⟨fd ++ [s], fre, rfl, by rw [e2, List.append_assoc]; rfl, ⟨?l1, (upd_ne _ _ hcw.symm).trans D.l1.m⟩, ⟨?l2, (upd_ne _ _ hcr.symm).trans w2, ?l3, (upd_ne _ _ hcf.symm).trans D.l2.m2⟩, ⟨?l4, (upd_ne _ _ hcd.symm).trans D.l3.m⟩, ?l5, ?l6, ?l7⟩))))
            case va => exact vc
            case l1 => exact v1
            case l2 => exact v2
            case l3 =>
              have u := D.l2.v2
              exact u
            case l4 =>
              have u := D.l3.v
              exact u
            case l5 => exact vg
            case l6 => exact vc
            case l7 => rw [List.map_append, List.map_append]; exact upd_self _ _ _
            case vd =>
              by_cases ht : restOf ws (s ++ [g]) = []
              · have hda : dueAt ws fs g s = -1 := if_pos ht
                rw [hda]
                have q1 : Rd2 (pEq true) (embR (restOf ws (s ++ [g]))) (.flist []) σ.mu (.bool false) := r2_neFn hpl rfl hdp (by rw [ht]; rfl)
                refine rd_ifF (rt_cmp ?_ ?_ q1) ?_
                · exact (rd_var rfl)
                · exact (rd_flist rd_a0 (Nat.le_of_ble_eq_true rfl))
                · exact (rd_neg rd_lit)
              · have hda : dueAt ws fs g s = (idxR ws fs (restOf ws (s ++ [g])) : Int) := if_neg ht
                rw [hda]
                obtain ⟨x1, x2⟩ := idxR_spec (F.idx s hs g ht)
                have q1 : Rd2 (pEq true) (embR (restOf ws (s ++ [g]))) (.flist []) σ.mu (.bool true) := r2_neFy hpl rfl hdp (fun e => ht (List.map_eq_nil_iff.mp e))
                have q2 := rn_index w2 hprs hpe h50 lr x1 x2
                refine rd_ifT (rt_cmp ?_ ?_ q1) ?_
                · exact (rd_var rfl)
                · exact (rd_flist rd_a0 (Nat.le_of_ble_eq_true rfl))
                · exact (rd_bmethL (rd_var v2) w2 (rd_a (rd_var rfl) rd_a0) q2)
          · exact ⟨[], fs, rfl, rfl, D0⟩
        clear D0
        rintro σ0 D
        have hcne : dueCol ws fs g ≠ [] := fun e => F.ne (List.map_eq_nil_iff.mp e)
        have hcl : ((dueCol ws fs g).map MV.int).length ≤ 1000000 := by unfold dueCol; rw [List.length_map, List.length_map]; lia
        have v1 := D.vc
        have mc := D.mc
        have v2 := D.l3.v
        have w2 := D.l3.m
        have vg := D.vg
        refine i_seq (i_cond (i_bool (i_wN1 (i_var v1 ⟨.ref cr, dueCol ws fs g, rfl, ?_, trivial, hcne, fun m hm hmax => i_lit (i_cmp2 (i_exB (i_split (fun h0 => ?_) fun h0 => ?_)))⟩))))
        · simp only [seqOf, mc]; rfl
        · have hex : ∃ x ∈ dueCol ws fs g, 0 ≤ x := ⟨m, hm, h0⟩
          have hdl : done.length ≤ 4 := by
            have h4 := congrArg List.length e2
            rw [List.length_append] at h4
            have : ([1, 2, 3, 4] : List Int).length = 4 := rfl
            lia
          have hel : (embC (dueOf ws fs done)).length ≤ 1000000 := by
            have := dueOf_len ws fs done
            rw [embC, List.length_map]; lia
          have hnk : dget (embC (dueOf ws fs done)) g = none := embC_none fun p hp e => by
            have hd := (dueOf_key hp).1
            rw [e] at hd
            have : ([1, 2, 3, 4] : List Int).Nodup := by decide
            rw [e2, List.nodup_append] at this
            exact this.2.2 g hd g List.mem_cons_self rfl
          have heq : dset (embC (dueOf ws fs done)) g (.tup ((fs.map (dueAt ws fs g)).map MV.int)) = embC (dueOf ws fs (done ++ [g])) := by
            rw [dset_new hnk, dueOf_snoc, if_pos hex]
            unfold embC
            rw [List.map_append]; rfl
          refine i_seq (s_store (rd_N (rd_a (rd_var v1) rd_a0) (rn_tupleR mc hcl)) (rd_var v2) (rd_var vg) (rs_I w2 hel) (i_next ?_))
          rw [heq]
          exact i_nil (i_next (i_nil (hC' _ ⟨done ++ [g], rest, rfl, by rw [e2, List.append_assoc]; rfl, ⟨D.l1.v, (upd_ne _ _ hdw.symm).trans D.l1.m⟩, ⟨D.l2.v1, (upd_ne _ _ hdr.symm).trans D.l2.m1, D.l2.v2, (upd_ne _ _ hdf.symm).trans D.l2.m2⟩, ⟨D.l3.v, upd_self _ _ _⟩⟩)))
        · have hex : ¬ ∃ x ∈ dueCol ws fs g, 0 ≤ x := fun ⟨x, hx, h1⟩ => h0 (Int.le_trans h1 (hmax x hx))
          refine i_nil (i_next (i_nil (hC' _ ⟨done ++ [g], rest, rfl, by rw [e2, List.append_assoc]; rfl, D.l1, D.l2, v2, ?_⟩)))
          rw [dueOf_snoc, if_neg hex, List.append_nil]
          exact w2
      · exact ⟨[], [1, 2, 3, 4], rfl, rfl, L1, L2, L3⟩
    clear L1 L2 L3
    intro σ6 hz18
    refine el0_3 hz18 fun L1 L2 L3 => ?_; clear hz18
    refine wSeq_cut (fun σ => ∃ t da S N refs rows ends, LawFacts ws fs rows ends ∧ LS1 σ wr ws ∧ LS2 σ rr fr ws fs ∧ LS3 σ du (dueOf ws fs [1, 2, 3, 4]) ∧ σ.vars (Str.ofString "lean") = some (.ref t) ∧ TrieAt σ.mu t da S N refs ⟨rows, ends⟩) (fun C hC => ?_) ?_
    · have v1 := L1.v
      have w1 := L1.m
      refine i_assign (i_wN1 (i_wN1 (i_var v1 ⟨wr, ws, rfl, w1, Nat.le_trans g6' (by decide), hlw, fun t da S N refs M1 X1 O1 E1 => ⟨t, da, S, N, refs, _, rfl, X1, O1, trie_asc G, trie_len G, fun t2 da2 S2 N2 refs2 hs es o rows ends M2 I B hl X2 E2 => ?_⟩⟩)))
      have E3 : ∀ y p, σ6.mu y = some p → M2 y = some p := fun y p e => E2 y p (E1 y p e)
      exact hC _ ⟨t2, da2, S2, N2, refs2, rows, ends, law_facts G hrn hrm hfs I B hl, L1.keep (v_off (by decide)) E3, L2.keep (v_off (by decide)) (v_off (by decide)) E3, L3.keep (v_off (by decide)) E3, v_same, X2⟩
    clear L1 L2 L3
    intro σ7 hz19
    refine el7_6 hz19 fun t da S N refs rows ends LF L1 L2 L3 vl X => ?_; clear hz19
    have hrl60 : rows.length ≤ 60 := by rw [LF.len]; exact F.sz
    refine wSeq_cut (fun σ => LS1 σ wr ws ∧ LS2 σ rr fr ws fs ∧ LS3 σ du (dueOf ws fs [1, 2, 3, 4]) ∧ σ.vars (Str.ofString "lean") = some (.ref t) ∧ TrieAt σ.mu t da S N refs ⟨rows, ends⟩) (fun C hC => ?_) ?_
    · have i1 := X.inst
      have i2 := X.attrs
      have m1 := meth_count hK
      have v2 := L2.v1
      have w2 := L2.m1
      have v3 := L3.v
      have w3 := L3.m
      have hlen := LF.len
      have rc := rn_count (T := ⟨rows, ends⟩) X (Nat.le_trans hrl60 (by decide))
      have lr : ((fs.map (restOf ws)).map embR).length ≤ 1000000 := by rw [List.length_map, List.length_map]; lia
      have q1 : Rd2 (pEq true) (.int rows.length) (.int ((fs.map (restOf ws)).map embR).length) σ7.mu (.bool false) := r2_neIn (by rw [List.length_map, List.length_map, hlen])
      have hdp : ∀ e ∈ embC (dueOf ws fs [1, 2, 3, 4]), e.2.plain = true ∧ e.2.dep ≤ 50 := fun e he => by
        refine el1_2 (List.mem_map.mp he) fun p _ eqz20 => ?_
        subst eqz20
        exact ⟨plain_itup _, by rw [dep_itup]; decide⟩
      have hd4 : (embC (dueOf ws fs [1, 2, 3, 4])).length ≤ 4 := by
        have := dueOf_len ws fs [1, 2, 3, 4]
        rw [embC, List.length_map]; exact this
      have ek : (embC (dueOf ws fs [1, 2, 3, 4])).map (fun e => MV.int e.1) = (srt iLt ((embC (dueOf ws fs [1, 2, 3, 4])).map (fun x => x.1))).map MV.int := by
        rw [embC_keys, due_sorted LF, ← embC_keys, List.map_map]; rfl
      refine' i_cond (i_or ((show RdT _ _ false from rt_cmp ?s1 ?s2 q1) _ (i_no (i_or (i_bool (i_wN1 (i_var vl ⟨t, da, S, N, refs, _, rfl, X, hrl60, LF.gl, fun r1 M1 h1 _ E1 => ?_⟩)))))))
      case s1 => exact (rd_meth (rd_var vl) i1 i2 m1 rfl rd_a0 rc)
      case s2 => exact rd_N (rd_a (rd_var v2) rd_a0) (rn_lenL w2 lr)
      have h1' : M1 r1 = some (.idict (embC (dueOf ws fs [1, 2, 3, 4]))) := by rw [← LF.cols]; exact h1
      refine i_var v3 ⟨r1, du, _, rfl, rfl, h1', E1 _ _ w3, hdp, i_exB (i_no (i_or (i_bool (i_wN1 (i_wN1 (i_var vl ⟨t, da, S, N, refs, _, rfl, X.mono E1, hrl60, LF.gl, fun r2 M2 h2 _ E2 => ?_⟩))))))⟩
      have h2' : M2 r2 = some (.idict (embC (dueOf ws fs [1, 2, 3, 4]))) := by rw [← LF.cols]; exact h2
      have E3 : ∀ y p, σ7.mu y = some p → M2 y = some p := fun y p e => E2 _ _ (E1 _ _ e)
      refine ⟨r2, _, rfl, h2', by lia, i_wN1 (i_var v3 (i_sortK (E3 _ _ w3) (by lia) ?_))⟩
      dsimp only
      have q3 : Rd2 (pEq true) (.flist ((embC (dueOf ws fs [1, 2, 3, 4])).map fun e => MV.int e.1)) (.flist ((srt iLt ((embC (dueOf ws fs [1, 2, 3, 4])).map (·.1))).map MV.int)) M2 (.bool false) := r2_neFn (by rw [ek]; exact plains_ints _) (plains_ints _) (by rw [ek, deps_ints]; decide) ek
      exact q3 _ (i_exB (i_no (i_or0 (i_no (i_nil (hC _ ⟨L1.keep rfl E3, L2.keep rfl rfl E3, L3.keep rfl E3, vl, X.mono E3⟩))))))
    clear L1 L2 L3 X vl
    intro σ8 hz21
    refine el0_5 hz21 fun L1 L2 L3 vl X => ?_; clear hz21
    refine wSeq_cut (fun σ => ∃ tb dt cd dc cl, LS1 σ wr ws ∧ LS2 σ rr fr ws fs ∧ LS3 σ du (dueOf ws fs [1, 2, 3, 4]) ∧ σ.vars (Str.ofString "table") = some (.ref tb) ∧ TableAt σ.mu tb dt cd (tableRows fs.length (stGo (dueOf ws fs [1, 2, 3, 4]) [] []).1) (fs.map (endOf ws)) ∧ ClassAt σ.mu cd dc cl (stGo (dueOf ws fs [1, 2, 3, 4]) [] []).2) (fun C hC => ?_) ?_
    · have hel : ends.length ≤ 60 := by rw [LF.endsE, List.length_map]; exact F.sz
      refine s_call (rd_a (rd_var vl) rd_a0) ⟨t, da, S, N, refs, _, rfl, X, hrl60, hel, LF.gl, fun tb dt cd dc cl M1 t1 t2 E1 => ?_⟩
      simp only [LF.cols, LF.endsE, LF.len] at t1 t2
      exact hC _ ⟨tb, dt, cd, dc, cl, L1.keep (v_off (by decide)) E1, L2.keep (v_off (by decide)) (v_off (by decide)) E1, L3.keep (v_off (by decide)) E1, v_same, t1, t2⟩
    have hsd := due_sorted LF
    have hnd := due_nd LF
    clear L1 L2 L3 X vl LF
    intro σ9 hz22
    refine el5_6 hz22 fun tb dt cd dc cl L1 L2 L3 vt TA CA => ?_; clear hz22
    have hd4 : (dueOf ws fs [1, 2, 3, 4]).length ≤ 4 := dueOf_len ws fs [1, 2, 3, 4]
    have hdl : ∀ p ∈ dueOf ws fs [1, 2, 3, 4], p.2.length = fs.length := fun p hp => by rw [(dueOf_key hp).2]; exact List.length_map _
    generalize hdue : dueOf ws fs [1, 2, 3, 4] = due at L3 TA CA hsd hnd hd4 hdl
    refine el0_3 (stGo_spec due [] [] hnd fun _ _ => rfl) fun s1 s2 s3 => ?_
    have hsz := F.sz
    have hel : (embC due).length < 64 := by rw [embC, List.length_map]; lia
    have hkl : (kindsOf due []).length ≤ 4 := by
      have := kinds_len (l := due) (K := [])
      rw [List.length_nil] at this; lia
    refine wSeq_cut (fun σ => ∃ kr, LAll σ wr rr fr du kr tb dt cd dc cl ws fs due [] ∧ Apart kr wr rr fr du tb dt cd dc cl) (fun C hC => ?_) ?_
    · refine s_list (ds := []) rd_a0 (Nat.zero_le _) fun kr hkr => ?_
      have hm := ext_upd (o := .list []) (fun y p (e : σ9.mu y = some p) => e) hkr
      exact hC _ ⟨kr, ⟨L1.keep (v_off (by decide)) hm, L2.keep (v_off (by decide)) (v_off (by decide)) hm, L3.keep (v_off (by decide)) hm, v_same, upd_self _ _ _, (v_off (by decide)).trans vt, TA.mono hm, CA.mono hm⟩, ⟨ne_of_none hkr L1.m, ne_of_none hkr L2.m1, ne_of_none hkr L2.m2, ne_of_none hkr L3.m, ne_of_none hkr TA.inst, ne_of_none hkr TA.attrs, ne_of_none hkr CA.inst, ne_of_none hkr CA.attrs, ne_of_none hkr CA.dict⟩⟩
    clear L1 L2 L3 vt TA CA
    intro σ10 hz23
    refine el1_2 hz23 fun kr X AP => ?_; clear hz23
    refine wSeq_cut (fun σ => LAll σ wr rr fr du kr tb dt cd dc cl ws fs due (kindsOf due [])) (fun C hC => ?_) ?_
    · have v3 := X.l3.v
      have w3 := X.l3.m
      refine' s_for (ri_F (l := (due.map (·.1)).map MV.int) ?sk) ?_
      case sk =>
        rw [← hsd, ← embC_keys]
        exact (rd_N (rd_a (rd_var v3) rd_a0) (rn_sortK w3 hel))
      refine wLoop_inv (fun l σ => ∃ (done rest : List (Int × List Int)), l = (rest.map (·.1)).map MV.int ∧ due = done ++ rest ∧ LAll σ wr rr fr du kr tb dt cd dc cl ws fs due (kindsOf done [])) ?_ ?_ ?_
      · intro σ hz24
        refine el2_3 hz24 fun done rest e1 e2 X => ?_; clear hz24
        obtain rfl := List.map_eq_nil_iff.mp (List.map_eq_nil_iff.mp e1.symm)
        rw [List.append_nil] at e2
        exact ⟨trivial, hC _ (e2 ▸ X)⟩
      · intro d l σ C' hz505 hC' _
        refine el2_3 hz505 fun done rest e1 e2 X => ?_
        clear hz505
        cases rest with
        | nil => cases e1
        | cons p rest =>
        injection e1 with e1 e1'
        subst e1
        subst e1'
        have hp : p ∈ due := by rw [e2]; exact List.mem_append_right _ List.mem_cons_self
        have hdg : dget (embC due) p.1 = some (.tup (p.2.map MV.int)) := dget_embC hnd hp
        have eK : kindsOf (done ++ [p]) [] = addKind (kindsOf done []) p.2 := by unfold kindsOf; rw [List.foldl_append]; rfl
        have hkl : ((kindsOf done []).map itup).length ≤ 1000000 := by
          have := kinds_len (l := done) (K := [])
          have h2 := congrArg List.length e2
          rw [List.length_append] at h2
          rw [List.length_nil] at this
          rw [List.length_map]; lia
        have X' := X.setv "glyph" (.int p.1) (by decide)
        have v3 := X.l3.v
        have w3 := X.l3.m
        have v4 := X.vk
        have w4 := X.mkk
        have hmem : MV.tup (p.2.map MV.int) ∈ (kindsOf done []).map itup ↔ p.2 ∈ kindsOf done [] := by
          rw [List.mem_map]
          exact ⟨fun ⟨x, m, e⟩ => itup_inj.mp e ▸ m, fun m => ⟨p.2, m, rfl⟩⟩
        have hpk : plains ((kindsOf done []).map itup) = true := plains_all.mpr fun d m => by
          refine el1_2 (List.mem_map.mp m) fun x _ eqz25 => ?_
          subst eqz25
          exact plain_itup x
        have hd0 : (MV.tup (p.2.map MV.int)).dep ≤ 50 := (dep_itup p.2).symm ▸ by decide
        have hpi : (MV.tup (p.2.map MV.int)).plain = true := plain_itup p.2
        refine' ⟨trivial, i_setv (i_seq (s_condN (rt_cmp (rd_2 (rd_var ?ja) (rd_var ?jb) (r2_getI w3 hdg)) (rd_var ?jc) (r2_niR w4 hpi hpk hd0)) (fun hn => ?_) fun hn => ?_))⟩
        case ja => exact v3
        case jb => exact v_same
        case jc => exact v4
        · have hn' : p.2 ∉ kindsOf done [] := fun q => hn (hmem.mpr q)
          refine i_seq (s_append (rd_var v4) w4 (rd_2 (rd_var v3) (rd_var rfl) (r2_getI w3 hdg)) hkl (i_next ?_))
          refine i_nil (i_next (i_nil (hC' _ ⟨done ++ [p], rest, rfl, by rw [e2, List.append_assoc]; rfl, ?_⟩)))
          rw [eK]
          unfold addKind
          rw [if_neg hn']
          refine ⟨⟨X'.l1.v, (upd_ne _ _ AP.q1.symm).trans X'.l1.m⟩, ⟨X'.l2.v1, (upd_ne _ _ AP.q2.symm).trans X'.l2.m1, X'.l2.v2, (upd_ne _ _ AP.q3.symm).trans X'.l2.m2⟩, ⟨X'.l3.v, (upd_ne _ _ AP.q4.symm).trans X'.l3.m⟩, X'.vk, ?_, X'.vt, ⟨(upd_ne _ _ AP.q5.symm).trans X'.ta.inst, (upd_ne _ _ AP.q6.symm).trans X'.ta.attrs⟩, ⟨(upd_ne _ _ AP.q7.symm).trans X'.ca.inst, (upd_ne _ _ AP.q8.symm).trans X'.ca.attrs, (upd_ne _ _ AP.q9.symm).trans X'.ca.dict⟩⟩
          rw [List.map_append]
          exact upd_self _ _ _
        · have hn' : p.2 ∈ kindsOf done [] := hmem.mp hn
          refine i_nil (i_next (i_nil (hC' _ ⟨done ++ [p], rest, rfl, by rw [e2, List.append_assoc]; rfl, ?_⟩)))
          rw [eK]
          unfold addKind
          rw [if_pos hn']; exact X'
      · exact ⟨[], due, rfl, rfl, X⟩
    clear X AP
    rintro σ11 X
    have hkl6 : ((kindsOf due []).map itup).length ≤ 1000000 := by rw [List.length_map]; lia
    have hpk : plains ((kindsOf due []).map itup) = true := plains_all.mpr fun d m => by
      refine el1_2 (List.mem_map.mp m) fun x _ eqz26 => ?_
      subst eqz26
      exact plain_itup x
    have ekd : (due.map fun p => MV.int p.1) = (due.map (·.1)).map MV.int := by rw [List.map_map]; rfl
    have hplI : ∀ (f : Int × List Int → Int), plains (due.map fun p => MV.int (f p)) = true := fun f => plains_all.mpr fun d m => by
      refine el1_2 (List.mem_map.mp m) fun x _ eqz27 => ?_
      subst eqz27
      rfl
    have hdpI : ∀ (f : Int × List Int → Int), deps (due.map fun p => MV.int (f p)) ≤ 49 := fun f => deps_le fun d m => by
      refine el1_2 (List.mem_map.mp m) fun x _ eqz28 => ?_
      subst eqz28
      exact Nat.zero_le _
    refine wSeq_cut (fun σ => LAll σ wr rr fr du kr tb dt cd dc cl ws fs due (kindsOf due [])) (fun C hC => ?_) ?_
    · have v3 := X.l3.v
      have w3 := X.l3.m
      have v4 := X.vk
      have w4 := X.mkk
      have v5 := X.vt
      have w5 := X.ta.inst
      have w6 := X.ta.attrs
      have g1 := get_tclasses hK
      have m1 := meth_class_of hK
      have w7 := X.ca.inst
      have w8 := X.ca.attrs
      have sk : RdN pSortK [.ref du] σ11.mu (.flist (due.map fun p => MV.int p.1)) := by
        rw [ekd, ← hsd, ← embC_keys]
        exact rn_sortK w3 hel
      refine' i_seq (s_condF (rt_cmp (rd_comp (items := due) (emb := fun p => MV.int p.1) (fun p => .int ((dgi (stGo due [] []).2 p.1).getD 0)) (need := fun _ => True) (ri_F (rd_N (rd_a (rd_var v3) rd_a0) sk)) (fun _ _ _ => trivial) (Nat.le_trans hd4 (Nat.le_of_ble_eq_true rfl)) ?b1) (rd_comp (items := due) (emb := fun p => MV.int p.1) (fun p => .int ((dgi (stGo due [] []).2 p.1).getD 0)) (need := fun _ => True) (ri_F (rd_N (rd_a (rd_var v3) rd_a0) sk)) (fun _ _ _ => trivial) (Nat.le_trans hd4 (Nat.le_of_ble_eq_true rfl)) ?b2) (r2_neFn (hplI _) (hplI _) (hdpI _) rfl)) (i_nil (i_next (hC _ X))))
      case b1 =>
        intro D hD p hp V its vs hV hx
        have CD := X.ca.mono (ext_upd (o := .pin its vs) (fun y p e => e) hD)
        have rc : RdN pClassOf _ _ _ := CD.reads (g := p.1)
        exact (rd_meth (rd_attr (rd_var (v_mk (v_comp hV (by decide) v5))) (m_pin w5 hD) (m_pin w6 hD) g1 rfl) (m_pin w7 hD) (m_pin w8 hD) m1 rfl (rd_a (rd_var hx) rd_a0) rc)
      case b2 =>
        intro D hD p hp V its vs hV hx
        obtain ⟨p1, p2⟩ := posOf_spec (s2 p hp).2
        have hdg : dget (embC due) p.1 = some (.tup (p.2.map MV.int)) := dget_embC hnd hp
        rw [(s2 p hp).1]
        have hd0 : (MV.tup (p.2.map MV.int)).dep ≤ 50 := (dep_itup p.2).symm ▸ by decide
        have hpi : (MV.tup (p.2.map MV.int)).plain = true := plain_itup p.2
        have ri := rn_index (m_pin (p := .pin its vs) w4 hD) hpk hpi hd0 hkl6 p1 p2
        refine' rd_2 rd_lit (rd_bmethL (rd_var ?ia) (m_pin w4 hD) (rd_a (rd_2 (rd_var ?ib) (rd_var ?ic) (r2_getI (m_pin w3 hD) hdg)) rd_a0) ri) (r2_int trivial)
        case ia => exact (v_mk (v_comp hV (by decide) v4))
        case ib => exact (v_mk (v_comp hV (by decide) v3))
        case ic => exact hx
    clear X
    rintro σ12 X
    refine wSeq_cut (fun σ => LAll σ wr rr fr du kr tb dt cd dc cl ws fs due (kindsOf due [])) (fun C hC => ?_) ?_
    · have v4 := X.vk
      have w4 := X.mkk
      have v2 := X.l2.v1
      have w2 := X.l2.m1
      have v5 := X.vt
      have w5 := X.ta.inst
      have w6 := X.ta.attrs
      have g1 := get_trows hK
      have lr : ((fs.map (restOf ws)).map embR).length ≤ 1000000 := by rw [List.length_map, List.length_map]; lia
      have eln : ∀ x ∈ tableRows fs.length (stGo due [] []).1, x.length = 1 + (kindsOf due []).length := fun x hx => by
        unfold tableRows at hx
        refine el1_2 (List.mem_map.mp hx) fun i _ eqz29 => ?_
        subst eqz29
        rw [List.length_map, List.length_cons, s1]; lia
      have etl : (tableRows fs.length (stGo due [] []).1).length = fs.length := by
        unfold tableRows; rw [List.length_map, List.length_range]
      have eq1 : ((tableRows fs.length (stGo due [] []).1).map fun r => MV.int r.length) = List.replicate ((((fs.map (restOf ws)).map embR).length : Nat) : Int).toNat (.int ((1 : Int) + (((kindsOf due []).map itup).length : Nat))) := by
        refine List.ext_getElem ?_ fun i h1 h2 => ?_
        · rw [List.length_map, etl, List.length_replicate, List.length_map, List.length_map]; rfl
        · rw [List.getElem_map, List.getElem_replicate, eln _ (List.getElem_mem _), List.length_map]
          rfl
      have hp1 : plains ((tableRows fs.length (stGo due [] []).1).map fun r => MV.int r.length) = true := plains_all.mpr fun d m => by
        refine el1_2 (List.mem_map.mp m) fun x _ eqz30 => ?_
        subst eqz30
        rfl
      have hd1 : deps ((tableRows fs.length (stGo due [] []).1).map fun r => MV.int r.length) ≤ 49 := deps_le fun d m => by
        refine el1_2 (List.mem_map.mp m) fun x _ eqz31 => ?_
        subst eqz31
        exact Nat.zero_le _
      refine' i_seq (s_condF (rt_cmp (rd_comp (items := tableRows fs.length (stGo due [] []).1) (emb := fun r : List Int => MV.flist (r.map MV.int)) (fun r => .int r.length) (need := fun _ => True) (ri_F (rd_attr (rd_var v5) w5 w6 g1 rfl)) (fun _ _ _ => trivial) (by rw [etl]; lia) ?b3) (rd_2 (rd_flist (rd_a (rd_2 rd_lit (rd_N (rd_a (rd_var v4) rd_a0) (rn_lenL w4 hkl6)) (r2_int trivial)) rd_a0) (Nat.le_of_ble_eq_true rfl)) (rd_N (rd_a (rd_var v2) rd_a0) (rn_lenL w2 lr)) (r2_mulF (Int.natCast_nonneg _) (by lia))) (r2_neFn hp1 (by rw [← eq1]; exact hp1) hd1 eq1)) (i_nil (i_next (hC _ X))))
      case b3 =>
        intro D hD x hx V its vs hV hx'
        have hx5 : x.length ≤ 1000000 := by
          rw [eln x hx]; lia
        exact rd_N (rd_a (rd_var hx') rd_a0) (rn_lenF hx5)
    clear X
    rintro σ13 X
    refine wSeq_cut (fun σ => LAll σ wr rr fr du kr tb dt cd dc cl ws fs due (kindsOf due [])) (fun C hC => ?_) ?_
    · have v2 := X.l2.v1
      have w2 := X.l2.m1
      have lr : ((fs.map (restOf ws)).map embR).length ≤ 1000000 := by rw [List.length_map, List.length_map]; lia
      have efl : (((fs.map (restOf ws)).map embR).length : Int).toNat = fs.length := by rw [List.length_map, List.length_map]; rfl
      refine s_for (ri_1 (rd_a (rd_N (rd_a (rd_var v2) rd_a0) (rn_lenL w2 lr)) rd_a0) (by lia)) ?_
      rw [efl]
      refine wLoop_inv (fun l σ => ∃ ns : List Nat, l = ns.map (fun (i : Nat) => MV.int (0 + (i : Int) * 1)) ∧ (∀ n ∈ ns, n < fs.length) ∧ LAll σ wr rr fr du kr tb dt cd dc cl ws fs due (kindsOf due [])) ?_ ?_ ⟨List.range fs.length, rfl, fun n hn => List.mem_range.mp hn, X⟩
      · intro σ hz32
        refine el1_3 hz32 fun ns e1 hn X => ?_; clear hz32
        exact ⟨trivial, hC _ X⟩
      · intro d l σ C' hz506 hC' _
        refine el1_3 hz506 fun ns e1 hn X => ?_
        clear hz506
        cases ns with
        | nil => cases e1
        | cons n ns =>
        injection e1 with e1 e1'
        have e0 : (0 : Int) + (n : Int) * 1 = n := by lia
        have e1 : d = .int n := e1.trans (congrArg MV.int e0)
        subst e1
        subst e1'
        have hnl := hn n List.mem_cons_self
        refine ⟨trivial, i_setv (i_seq (s_for (ri_T (rd_tup (ds := [0, 1, 2, 3, 4, 9, 70000].map MV.int) (rd_a rd_lit (rd_a rd_lit (rd_a rd_lit (rd_a rd_lit (rd_a rd_lit (rd_a rd_lit (rd_a rd_lit rd_a0))))))) (Nat.le_of_ble_eq_true rfl))) ?_))⟩
        have hC2 : ∀ σ', LAll σ' wr rr fr du kr tb dt cd dc cl ws fs due (kindsOf due []) → C' .next σ' := fun σ' X => hC' σ' ⟨ns, rfl, fun m hm => hn m (List.mem_cons_of_mem _ hm), X⟩
        refine wLoop_inv (fun l σ => ∃ gs : List Int, l = gs.map MV.int ∧ σ.vars (Str.ofString "node") = some (.int n) ∧ LAll σ wr rr fr du kr tb dt cd dc cl ws fs due (kindsOf due [])) ?_ ?_ ⟨[0, 1, 2, 3, 4, 9, 70000], rfl, v_same, X.setv "node" (.int n) (by decide)⟩
        · intro σ' hz33
          refine el1_3 hz33 fun gs e1 vn X => ?_; clear hz33
          exact ⟨trivial, i_next (i_nil (hC2 _ X))⟩
        · clear X hC2 hC' hn
          intro d l σ' C' hz507 hC' _
          refine el1_3 hz507 fun gs e1 vn X => ?_
          clear hz507
          cases gs with
          | nil => cases e1
          | cons g gs =>
          injection e1 with e1 e1'
          subst e1
          subst e1'
          have v3 := X.l3.v
          have w3 := X.l3.m
          have v5 := X.vt
          have w5 := X.ta.inst
          have w6 := X.ta.attrs
          have m1 := meth_tstep hK
          obtain ⟨r, hr⟩ := table_val hnd hdl hnl g
          have rs : RdN pTStep [.ref tb, .int n, .int g] σ'.mu (.int (duesay due n g)) := fun _ q => ⟨tb, dt, cd, dc, cl, _, _, _, n, g, _, rfl, X.ta, X.ca, by unfold tableRows; rw [List.length_map, List.length_range]; lia, fun x hx => by
            unfold tableRows at hx
            refine el1_2 (List.mem_map.mp hx) fun i _ eqz34 => ?_
            subst eqz34
            rw [List.length_map, List.length_cons, s1]; lia, ⟨r, hr⟩, q⟩
          have vn' : (σ'.setv (Str.ofString "glyph") (.int g)).vars (Str.ofString "node") = some (.int n) := (v_off (by decide)).trans vn
          have v5' : (σ'.setv (Str.ofString "glyph") (.int g)).vars (Str.ofString "table") = some (.ref tb) := (v_off (by decide)).trans v5
          have v3' : (σ'.setv (Str.ofString "glyph") (.int g)).vars (Str.ofString "due") = some (.ref du) := (v_off (by decide)).trans v3
          have hR : Rd (wIf (asBool (pInI false) (wVar "glyph") (wVar "due")) (Mine.w2 pGetL (Mine.w2 pGetI (wVar "due") (wVar "glyph")) (wVar "node")) (wNeg (wLit (.int 1)))) (σ'.setv (Str.ofString "glyph") (.int g)) (.int (duesay due n g)) := by
            cases hf : due.find? (fun p => decide (p.1 = g)) with
            | some p =>
              have hp := List.mem_of_find?_eq_some hf
              have he : p.1 = g := of_decide_eq_true (List.find?_some (p := fun p : Int × List Int => decide (p.1 = g)) hf)
              have hdg : dget (embC due) g = some (.tup (p.2.map MV.int)) := he ▸ dget_embC hnd hp
              have hsay : duesay due n g = p.2.getD n 0 := by unfold duesay; rw [hf]
              have hpl := hdl p hp
              have hpn : (p.2.map MV.int)[(n : Int).toNat]? = some (.int (p.2.getD n 0)) := by
                rw [Int.toNat_natCast, List.getElem?_map, List.getElem?_eq_getElem (by lia), getD_at (by lia)]; rfl
              have hpl6 : (p.2.map MV.int).length ≤ 1000000 := by rw [List.length_map]; lia
              rw [hsay]
              exact rd_ifT (rt_cmp (rd_var v_same) (rd_var v3') (r2_inIy w3 hdg)) (rd_2 (rd_2 (rd_var v3') (rd_var v_same) (r2_getI w3 hdg)) (rd_var vn') (r2_getT (Int.natCast_nonneg _) hpn hpl6))
            | none =>
              have hdg : dget (embC due) g = none := embC_none fun p hp e => by
                rw [List.find?_eq_none] at hf
                exact hf p hp (decide_eq_true e)
              have hsay : duesay due n g = -1 := by unfold duesay; rw [hf]
              rw [hsay]
              exact rd_ifF (rt_cmp (rd_var v_same) (rd_var v3') (r2_inIn w3 hdg)) (rd_neg rd_lit)
          exact ⟨trivial, i_setv (i_seq (s_condF (rt_cmp (rd_meth (rd_var v5') w5 w6 m1 rfl (rd_a (rd_var vn') (rd_a (rd_var v_same) rd_a0)) rs) hR (r2_neIn rfl)) (i_nil (i_next (i_nil (hC' _ ⟨gs, rfl, vn', X.setv "glyph" (.int g) (by decide)⟩))))))⟩
    clear X
    rintro σ14 X
    have v2 := X.l2.v2
    have w2 := X.l2.m2
    have v1 := X.l1.v
    have w1 := X.l1.m
    have v5 := X.vt
    have w5 := X.ta.inst
    have w6 := X.ta.attrs
    have g1 := get_tends hK
    refine i_seq (i_ret (i_w2 ((show Rd _ _ _ from rd_attr (rd_var v5) w5 w6 g1 rfl) _ (i_comp (ri_R (rd_var v2) w2 _ fun D hD => ?_)))))
    have hD : σ14.mu D = none := hD
    refine wItems_inv (fun l σ vs => ∃ (done rest : List (List Int)) (its : List Value), l = rest.map itup ∧ fs = done ++ rest ∧ vs = done.map (fun s => MV.int (endOf ws s)) ∧ σ.vars (Str.ofString "words") = some (.ref wr) ∧ σ.mu D = some (.pin its vs) ∧ (∀ y p, σ14.mu y = some p → σ.mu y = some p)) ?_ ?_ ?_
    · intro σ' vs hz35
      refine el3_6 hz35 fun done rest its e1 e2 e3 u1 hp E => ?_; clear hz35
      obtain rfl := List.map_eq_nil_iff.mp e1.symm
      rw [List.append_nil] at e2
      have eq1 : (fs.map (endOf ws)).map MV.int = vs := by rw [List.map_map, e3, e2]; rfl
      have hpv : plains vs = true := plains_all.mpr fun d m => by
        rw [e3] at m
        refine el1_2 (List.mem_map.mp m) fun x _ eqz36 => ?_
        subst eqz36
        rfl
      have q1 : Rd2 (pEq false) (intsMV (fs.map (endOf ws))) (.flist vs) (erase σ'.mu D) (.bool true) := by
        unfold intsMV
        have := r2_eqF (μ := erase σ'.mu D) (l := (fs.map (endOf ws)).map MV.int) (m := vs) (plains_ints _) hpv (by rw [deps_ints]; decide)
        rw [decide_eq_true eq1] at this; exact this
      exact ⟨E _ _ w2, q1 _ (i_retC (h _))⟩
    · intro d l σ' vs C2 hz508 hC2
      refine el3_6 hz508 fun done rest its e1 e2 e3 u1 hp E => ?_
      clear hz508
      cases rest with
      | nil => cases e1
      | cons s rest =>
      injection e1 with e1 e1'
      subst e1
      subst e1'
      have k1 := E _ _ w1
      have hz : done.length < 1000000 := by
        have := congrArg List.length e2
        rw [List.length_append] at this
        lia
      have hvl : vs.length < 1000000 := by rw [e3, List.length_map]; exact hz
      have hkk := keys_ints 5 s
      refine' ⟨E _ _ w2, i_setv ⟨fun _ => i_emit (i_bmeth (i_wN1 (i_var ?vw ⟨.ref wr, wordD ws, (fun μ => μ wr = some (.list (ws.map embW))), rfl, trivial, ?x1, ?x2, ?x3, fun rd hrd => ?_⟩))), fun e => nomatch e⟩⟩
      case vw => exact u1
      case x1 =>
        simp only [srcOf, setv_mu, k1, wordD, List.map_map]
        rfl
      case x2 =>
        intro p hp
        refine el1_2 (List.mem_map.mp hp) fun q _ eqz37 => ?_
        subst eqz37
        exact keys_ints 5 _
      case x3 => rw [wordD, List.length_map]; lia
      rw [foldl_dset_nodup (by rw [List.nil_append]; exact wordD_nd G.nd), List.nil_append]
      have hrd : σ'.mu rd = none := hrd
      have hdv : (dget (wordD ws) (s.map MV.int)).getD (.int (-1)) = .int (endOf ws s) := dget_wordD ws s
      have vs0 : (σ'.setv (Str.ofString "start") (itup s)).vars (Str.ofString "start") = some (.tup (s.map MV.int)) := v_same
      refine ⟨recv_dict.mpr ⟨rd, rfl, .inr ⟨_, upd_self _ _ _⟩⟩, i_rdA (ds := [.tup (s.map MV.int), .int (-1)]) (rd_a (rd_var vs0) (rd_a (rd_neg rd_lit) rd_a0)) ⟨rd, _, _, _, rfl, upd_self _ _ _, hkk, ?_⟩⟩
      rw [hdv]
      have hMn : σ14.mu rd = none := ext_none E hrd
      refine ⟨hvl, fun its' => hC2 _ _ ⟨done ++ [s], rest, its', rfl, by rw [e2, List.append_assoc]; rfl, by rw [e3, List.map_append]; rfl, ?_, upd_self _ _ _, ext_upd (ext_upd E hMn) hD⟩⟩
      exact u1
    · refine ⟨[], fs, [], rfl, rfl, rfl, ?_, upd_self _ _ _, ext_upd (fun y p e => e) hD⟩
      exact v1
end
end Mine
end
section
open PySem PySem.W PyProof.Rows
namespace Mine
theorem well_ints {P : Params} {h : Heap} {μ : MHeap} : ∀ {vs : List Value} {is : List Int}, WellAll P h vs (ofPys (is.map PyData.int)) → RepAll h μ vs (is.map MV.int)
  | vs, [], w => by
    cases vs with
    | nil => exact .nil
    | cons v vs => exact nomatch (show WellAll P h (v :: vs) [] from w)
  | vs, i :: is, w => by
    have w' : WellAll P h vs (WData.int i :: ofPys (is.map PyData.int)) := w
    cases w' with
    | cons a r =>
      cases a with
      | int i t => exact .cons (.int i t) (well_ints r)
theorem post_true (ar : List WData) : PySem.Challenge.rw_pb0166_01.row.claim.post ar (WData.bool true) ar = true := by with_unfolding_all rfl
end Mine
end
open PySem PySem.W PyProof.Rows
open Mine
theorem PySem.Challenge.cw_pb0166_01_holds : PySem.Challenge.rw_pb0166_01.Holds := by
  refine headP ?_
  intro w s₀ s₁ mg mb G Y fa o pm cd doc dV kV ho hdd hcd hD hmg hg args vals as hpre hlay hrd hwl hlo
  have KX := kIn_of Y
  have glow := G.low
  refine Ground.open G ?_
  intro T B D TE TW
  have hmg : mg (Str.ofString "law") = some (.ref fa) := hmg
  clear ho hdd hcd hD
  wrow_args hpre hlay hrd hwl hlo
  rename_i is _ _ _ _ _ _ _ va _ _ hL ra wl r0 hI hr hcond1 hcond2
  have h191 : ∃ o, s₁.heap.get? 191 = some o := ⟨_, KX 191 _ rfl⟩
  obtain ⟨o191, h191⟩ := h191
  let c : Cx PySem.Challenge.rw_pb0166_01.row.prog w := { B := s₁.heap, K := heapK w.params, p := viewP, loose := looseW viewP [], mg := mg, mb := mb, g0 := s₁.gens, os0 := s₁.os, X := KX, T := topRead_of T, low := ⟨191, o191, h191, by decide⟩ }
  have hfa : fa = 191 := by
    have := mg_of KX T.g (n := Str.ofString "law") (v := .ref 191) rfl
    rw [hmg] at this
    injection this with this
    injection this
  subst hfa
  have S : S0 c (fun _ => none) s₁ := ⟨fun b o e => e, rfl, rfl, (fun a mo e => nomatch e), fun _ _ _ => rfl, rfl⟩
  have wl' : Well w.params s₁.heap (.ref va) (.list (ofPys (is.map PyData.int))) := wl
  have rep : ∃ vs, s₁.heap.get? va = some (seqObj "list" (List.toArray vs) 0) ∧ RepAll s₁.heap (fun _ => none) vs (is.map MV.int) := by
    cases wl' with
    | list ho hw => exact ⟨_, ho, well_ints hw⟩
  refine el1_2 rep fun vs hva hrep => ?_
  have rep : Rep s₁.heap (fun _ => none) (.ref va) (.flist (is.map MV.int)) := .flist rfl hva hrep
  have hlen : is.length ≤ 63 := by omega
  have key := (sp_law (c := c) (k := 0) rfl).op callerA s₁ (fun _ => none) [.ref va] [.flist (is.map MV.int)] (fun d _ => d = .bool true) ⟨rfl, by decide, by decide⟩ S (.cons rep .nil) ⟨is, rfl, hlen, fun _ => rfl⟩
  refine wpAny_mono key ?_ fun _ _ q => q.elim
  intro v s' hz1
  refine el2_4 hz1 fun d μ' rp S' _ eqz2 => ?_; clear hz1
  subst eqz2
  obtain rfl := rp.isBool
  exact GoodW.toG ⟨.inl ⟨_, .bool true, [], rfl, fun _ => rfl, .bool true, post_true _, fun _ => ⟨List.nodup_nil, fun _ m => nomatch m⟩⟩, S'.base, S'.os, S'.gens.trans hg⟩
