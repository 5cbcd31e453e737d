import PyProof.Rows.All
import Wide.All
import OpenK.AllK
import Wide.FinOn
import KE.KItem
import PySem.Challenge.RW_xm0999_01
set_option Elab.async false
open PySem PySem.W PyProof.Rows

/-! Hx -/
open PySem PySem.W PyProof.Rows
namespace Mine
/-- arguments, body and names of a def, out of the row's own text -/
def fnOf : Stmt → Arguments × List Stmt × Scope
  | .FunctionDef _ a b _ _ _ sc _ _ _ => (a, b, sc)
  | _ => (⟨[], [], none, [], [], none, []⟩, [], ⟨.function, [], false, false, []⟩)
def bodyOf : Stmt → List Stmt
  | .ClassDef _ _ _ b _ _ _ _ _ _ _ => b
  | _ => []
def nth : Nat → List Stmt → Stmt
  | _, [] => .Pass default
  | 0, s :: _ => s
  | i + 1, _ :: l => nth i l
noncomputable def fnAt (i : Nat) : Arguments × List Stmt × Scope := fnOf (nth i PySem.Challenge.pw_xm0999_01.main.body)
noncomputable def methAt (i j : Nat) : Arguments × List Stmt × Scope := fnOf (nth j (bodyOf (nth i PySem.Challenge.pw_xm0999_01.main.body)))
/-- the heap behind the text's own rows, the defs by their places -/
noncomputable def heapL : Params → Frag := fun P =>
  [(2, { cls := Value.none, data := Data.dict #[{ hash := PyData.keyHash P (Str.ofString "type.__subclasses__.Exception.0"), key := Value.str (Str.ofString "type.__subclasses__.Exception.0") 214, val := Value.int 31 0 }, { hash := PyData.keyHash P (Str.ofString "type.__subclasses__.Exception.n"), key := Value.str (Str.ofString "type.__subclasses__.Exception.n") 215, val := Value.int 1 0 }] 2 }),
   (3, { cls := Value.type "dict", data := Data.dict #[{ hash := PyData.keyHash P (Str.ofString "__name__"), key := Value.str (Str.ofString "__name__") 165, val := Value.str (Str.ofString "law_xm0999_01") 331 }, { hash := PyData.keyHash P (Str.ofString "__doc__"), key := Value.str (Str.ofString "__doc__") 166, val := Value.none }, { hash := PyData.keyHash P (Str.ofString "__package__"), key := Value.str (Str.ofString "__package__") 167, val := Value.none }, { hash := PyData.keyHash P (Str.ofString "__loader__"), key := Value.str (Str.ofString "__loader__") 168, val := Value.builtin "__main__.__loader__#opaque" }, { hash := PyData.keyHash P (Str.ofString "__spec__"), key := Value.str (Str.ofString "__spec__") 169, val := Value.none }, { hash := PyData.keyHash P (Str.ofString "__annotations__"), key := Value.str (Str.ofString "__annotations__") 170, val := Value.ref 6 }, { hash := PyData.keyHash P (Str.ofString "__builtins__"), key := Value.str (Str.ofString "__builtins__") 171, val := Value.ref 4 }, { hash := PyData.keyHash P (Str.ofString "__file__"), key := Value.str (Str.ofString "__file__") 173, val := Value.str (Str.ofString "/claim/cut.py") 172 }, { hash := PyData.keyHash P (Str.ofString "__cached__"), key := Value.str (Str.ofString "__cached__") 174, val := Value.none }, { hash := PyData.keyHash P (Str.ofString "BasicError"), key := Value.str (Str.ofString "BasicError") 217, val := Value.ref 31 }, { hash := PyData.keyHash P (Str.ofString "GREATEST"), key := Value.str (Str.ofString "GREATEST") 221, val := Value.int 65529 220 }, { hash := PyData.keyHash P (Str.ofString "JUMPS"), key := Value.str (Str.ofString "JUMPS") 228, val := Value.ref 35 }, { hash := PyData.keyHash P (Str.ofString "Program"), key := Value.str (Str.ofString "Program") 257, val := Value.ref 52 }, { hash := PyData.keyHash P (Str.ofString "place_of"), key := Value.str (Str.ofString "place_of") 268, val := Value.ref 63 }, { hash := PyData.keyHash P (Str.ofString "has_line"), key := Value.str (Str.ofString "has_line") 277, val := Value.ref 70 }, { hash := PyData.keyHash P (Str.ofString "put_line"), key := Value.str (Str.ofString "put_line") 288, val := Value.ref 77 }, { hash := PyData.keyHash P (Str.ofString "targets"), key := Value.str (Str.ofString "targets") 294, val := Value.ref 82 }, { hash := PyData.keyHash P (Str.ofString "is_whole_target"), key := Value.str (Str.ofString "is_whole_target") 302, val := Value.ref 89 }, { hash := PyData.keyHash P (Str.ofString "lost_targets"), key := Value.str (Str.ofString "lost_targets") 308, val := Value.ref 94 }, { hash := PyData.keyHash P (Str.ofString "new_numbers"), key := Value.str (Str.ofString "new_numbers") 314, val := Value.ref 99 }, { hash := PyData.keyHash P (Str.ofString "led_row"), key := Value.str (Str.ofString "led_row") 324, val := Value.ref 106 }, { hash := PyData.keyHash P (Str.ofString "renumber"), key := Value.str (Str.ofString "renumber") 330, val := Value.ref 111 }, { hash := PyData.keyHash P (Str.ofString "_law_next"), key := Value.str (Str.ofString "_law_next") 342, val := Value.ref 118 }, { hash := PyData.keyHash P (Str.ofString "_law_form"), key := Value.str (Str.ofString "_law_form") 348, val := Value.ref 123 }, { hash := PyData.keyHash P (Str.ofString "_law_row"), key := Value.str (Str.ofString "_law_row") 362, val := Value.ref 130 }, { hash := PyData.keyHash P (Str.ofString "_law_lost"), key := Value.str (Str.ofString "_law_lost") 375, val := Value.ref 137 }, { hash := PyData.keyHash P (Str.ofString "_law_same"), key := Value.str (Str.ofString "_law_same") 381, val := Value.ref 142 }, { hash := PyData.keyHash P (Str.ofString "_law_told"), key := Value.str (Str.ofString "_law_told") 392, val := Value.ref 149 }, { hash := PyData.keyHash P (Str.ofString "law"), key := Value.str (Str.ofString "law") 398, val := Value.ref 154 }] 29 }),
   (15, { cls := Value.type "tuple", data := Data.seq #[Value.type "Exception"] }),
   (27, { cls := Value.type "code", data := Data.fields #[Value.str (Str.ofString "__init__") 201, Value.str (Str.ofString "BasicError.__init__") 202, Value.str (Str.ofString "/claim/cut.py") 203, Value.int 4 0, Value.int 2 0, Value.int 0 0, Value.int 0 0, Value.int 3 0, Value.ref 22, Value.bool true, Value.int 181 0, Value.ref 23, Value.none, Value.ref 24, Value.ref 25, Value.ref 26, Value.int 206 0, Value.int 4 0, Value.str (Str.ofString "/claim/cut.py") 207] }),
   (28, { cls := Value.type "function", data := Data.func { name := Str.ofString "__init__", qualname := Str.ofString "BasicError.__init__", params := (methAt 1 0).1, body := (.stmts (methAt 1 0).2.1), scope := (methAt 1 0).2.2, globals := 3, closure := [], defaults := Value.none, kwdefaults := Value.none, pyModule := Value.str (Str.ofString "z80.btokens") 187, code := Value.ref 27 } }),
   (30, { cls := Value.type "dict", data := Data.dict #[{ hash := PyData.keyHash P (Str.ofString "__module__"), key := Value.str (Str.ofString "__module__") 196, val := Value.str (Str.ofString "z80.btokens") 187 }, { hash := PyData.keyHash P (Str.ofString "__firstlineno__"), key := Value.str (Str.ofString "__firstlineno__") 200, val := Value.int 2 199 }, { hash := PyData.keyHash P (Str.ofString "__init__"), key := Value.str (Str.ofString "__init__") 208, val := Value.ref 28 }, { hash := PyData.keyHash P (Str.ofString "__static_attributes__"), key := Value.str (Str.ofString "__static_attributes__") 210, val := Value.ref 29 }, { hash := PyData.keyHash P (Str.ofString "__weakref__"), key := Value.str (Str.ofString "__weakref__") 212, val := Value.ref 32 }, { hash := PyData.keyHash P (Str.ofString "__doc__"), key := Value.str (Str.ofString "__doc__") 213, val := Value.none }] 3 }),
   (31, { cls := Value.type "type", data := Data.cls { name := Str.ofString "BasicError", bases := [Value.type "Exception"], mro := [Value.ref 31, Value.type "Exception", Value.type "BaseException", Value.type "object"], ns := 30, qualname := Str.ofString "BasicError" }, slots := #[some (Value.ref 15), none, some (Value.str (Str.ofString "BasicError") 189), some (Value.str (Str.ofString "BasicError") 197), some (Value.builtin "Exception.__new__"), some (Value.bool true)] }),
   (35, { cls := Value.type "tuple", data := Data.seq #[Value.str (Str.ofString "GOTO") 222, Value.str (Str.ofString "GOSUB") 223, Value.str (Str.ofString "THEN") 224, Value.str (Str.ofString "ELSE") 225, Value.str (Str.ofString "RESTORE") 226, Value.str (Str.ofString "RUN") 227] }),
   (48, { cls := Value.type "code", data := Data.fields #[Value.str (Str.ofString "__init__") 241, Value.str (Str.ofString "Program.__init__") 242, Value.str (Str.ofString "/claim/cut.py") 243, Value.int 11 0, Value.int 1 0, Value.int 0 0, Value.int 0 0, Value.int 3 0, Value.ref 43, Value.bool true, Value.int 181 0, Value.ref 44, Value.none, Value.ref 45, Value.ref 46, Value.ref 47, Value.int 245 0, Value.int 11 0, Value.str (Str.ofString "/claim/cut.py") 246] }),
   (49, { cls := Value.type "function", data := Data.func { name := Str.ofString "__init__", qualname := Str.ofString "Program.__init__", params := (methAt 5 0).1, body := (.stmts (methAt 5 0).2.1), scope := (methAt 5 0).2.2, globals := 3, closure := [], defaults := Value.none, kwdefaults := Value.none, pyModule := Value.str (Str.ofString "z80.bprogram") 218, code := Value.ref 48 } }),
   (51, { cls := Value.type "dict", data := Data.dict #[{ hash := PyData.keyHash P (Str.ofString "__module__"), key := Value.str (Str.ofString "__module__") 236, val := Value.str (Str.ofString "z80.bprogram") 218 }, { hash := PyData.keyHash P (Str.ofString "__firstlineno__"), key := Value.str (Str.ofString "__firstlineno__") 240, val := Value.int 9 239 }, { hash := PyData.keyHash P (Str.ofString "__init__"), key := Value.str (Str.ofString "__init__") 247, val := Value.ref 49 }, { hash := PyData.keyHash P (Str.ofString "__static_attributes__"), key := Value.str (Str.ofString "__static_attributes__") 250, val := Value.ref 50 }, { hash := PyData.keyHash P (Str.ofString "__dict__"), key := Value.str (Str.ofString "__dict__") 252, val := Value.ref 53 }, { hash := PyData.keyHash P (Str.ofString "__weakref__"), key := Value.str (Str.ofString "__weakref__") 254, val := Value.ref 54 }, { hash := PyData.keyHash P (Str.ofString "__doc__"), key := Value.str (Str.ofString "__doc__") 255, val := Value.none }] 4 }),
   (52, { cls := Value.type "type", data := Data.cls { name := Str.ofString "Program", bases := [Value.type "object"], mro := [Value.ref 52, Value.type "object"], ns := 51, qualname := Str.ofString "Program" }, slots := #[none, none, some (Value.str (Str.ofString "Program") 229), some (Value.str (Str.ofString "Program") 237), some (Value.builtin "object.__new__"), some (Value.bool true)] }),
   (62, { cls := Value.type "code", data := Data.fields #[Value.str (Str.ofString "place_of") 258, Value.str (Str.ofString "place_of") 259, Value.str (Str.ofString "/claim/cut.py") 260, Value.int 14 0, Value.int 2 0, Value.int 0 0, Value.int 0 0, Value.int 3 0, Value.ref 57, Value.bool true, Value.int 181 0, Value.ref 58, Value.none, Value.ref 59, Value.ref 60, Value.ref 61, Value.int 266 0, Value.int 14 0, Value.str (Str.ofString "/claim/cut.py") 267] }),
   (63, { cls := Value.type "function", data := Data.func { name := Str.ofString "place_of", qualname := Str.ofString "place_of", params := (fnAt 6).1, body := (.stmts (fnAt 6).2.1), scope := (fnAt 6).2.2, globals := 3, closure := [], defaults := Value.none, kwdefaults := Value.none, pyModule := Value.str (Str.ofString "z80.bprogram") 218, code := Value.ref 62 } }),
   (69, { cls := Value.type "code", data := Data.fields #[Value.str (Str.ofString "has_line") 269, Value.str (Str.ofString "has_line") 270, Value.str (Str.ofString "/claim/cut.py") 271, Value.int 23 0, Value.int 2 0, Value.int 0 0, Value.int 0 0, Value.int 3 0, Value.ref 64, Value.bool true, Value.int 181 0, Value.ref 65, Value.none, Value.ref 66, Value.ref 67, Value.ref 68, Value.int 275 0, Value.int 23 0, Value.str (Str.ofString "/claim/cut.py") 276] }),
   (70, { cls := Value.type "function", data := Data.func { name := Str.ofString "has_line", qualname := Str.ofString "has_line", params := (fnAt 7).1, body := (.stmts (fnAt 7).2.1), scope := (fnAt 7).2.2, globals := 3, closure := [], defaults := Value.none, kwdefaults := Value.none, pyModule := Value.str (Str.ofString "z80.bprogram") 218, code := Value.ref 69 } }),
   (76, { cls := Value.type "code", data := Data.fields #[Value.str (Str.ofString "put_line") 278, Value.str (Str.ofString "put_line") 279, Value.str (Str.ofString "/claim/cut.py") 280, Value.int 26 0, Value.int 3 0, Value.int 0 0, Value.int 0 0, Value.int 3 0, Value.ref 71, Value.bool true, Value.int 181 0, Value.ref 72, Value.none, Value.ref 73, Value.ref 74, Value.ref 75, Value.int 286 0, Value.int 26 0, Value.str (Str.ofString "/claim/cut.py") 287] }),
   (77, { cls := Value.type "function", data := Data.func { name := Str.ofString "put_line", qualname := Str.ofString "put_line", params := (fnAt 8).1, body := (.stmts (fnAt 8).2.1), scope := (fnAt 8).2.2, globals := 3, closure := [], defaults := Value.none, kwdefaults := Value.none, pyModule := Value.str (Str.ofString "z80.bprogram") 218, code := Value.ref 76 } }),
   (81, { cls := Value.type "code", data := Data.fields #[Value.str (Str.ofString "targets") 289, Value.str (Str.ofString "targets") 290, Value.str (Str.ofString "/claim/cut.py") 291, Value.int 41 0, Value.int 1 0, Value.int 0 0, Value.int 0 0, Value.int 3 0, Value.ref 78, Value.bool true, Value.int 181 0, Value.ref 79, Value.none, Value.none, Value.none, Value.ref 80, Value.int 292 0, Value.int 41 0, Value.str (Str.ofString "/claim/cut.py") 293] }),
   (82, { cls := Value.type "function", data := Data.func { name := Str.ofString "targets", qualname := Str.ofString "targets", params := (fnAt 9).1, body := (.stmts (fnAt 9).2.1), scope := (fnAt 9).2.2, globals := 3, closure := [], defaults := Value.none, kwdefaults := Value.none, pyModule := Value.str (Str.ofString "z80.bprogram") 218, code := Value.ref 81 } }),
   (88, { cls := Value.type "code", data := Data.fields #[Value.str (Str.ofString "is_whole_target") 295, Value.str (Str.ofString "is_whole_target") 296, Value.str (Str.ofString "/claim/cut.py") 297, Value.int 49 0, Value.int 2 0, Value.int 0 0, Value.int 0 0, Value.int 3 0, Value.ref 83, Value.bool true, Value.int 181 0, Value.ref 84, Value.none, Value.ref 85, Value.ref 86, Value.ref 87, Value.int 300 0, Value.int 49 0, Value.str (Str.ofString "/claim/cut.py") 301] }),
   (89, { cls := Value.type "function", data := Data.func { name := Str.ofString "is_whole_target", qualname := Str.ofString "is_whole_target", params := (fnAt 10).1, body := (.stmts (fnAt 10).2.1), scope := (fnAt 10).2.2, globals := 3, closure := [], defaults := Value.none, kwdefaults := Value.none, pyModule := Value.str (Str.ofString "z80.bprogram") 218, code := Value.ref 88 } }),
   (93, { cls := Value.type "code", data := Data.fields #[Value.str (Str.ofString "lost_targets") 303, Value.str (Str.ofString "lost_targets") 304, Value.str (Str.ofString "/claim/cut.py") 305, Value.int 53 0, Value.int 1 0, Value.int 0 0, Value.int 0 0, Value.int 3 0, Value.ref 90, Value.bool true, Value.int 181 0, Value.ref 91, Value.none, Value.none, Value.none, Value.ref 92, Value.int 306 0, Value.int 53 0, Value.str (Str.ofString "/claim/cut.py") 307] }),
   (94, { cls := Value.type "function", data := Data.func { name := Str.ofString "lost_targets", qualname := Str.ofString "lost_targets", params := (fnAt 11).1, body := (.stmts (fnAt 11).2.1), scope := (fnAt 11).2.2, globals := 3, closure := [], defaults := Value.none, kwdefaults := Value.none, pyModule := Value.str (Str.ofString "z80.bprogram") 218, code := Value.ref 93 } }),
   (98, { cls := Value.type "code", data := Data.fields #[Value.str (Str.ofString "new_numbers") 309, Value.str (Str.ofString "new_numbers") 310, Value.str (Str.ofString "/claim/cut.py") 311, Value.int 58 0, Value.int 4 0, Value.int 0 0, Value.int 0 0, Value.int 3 0, Value.ref 95, Value.bool true, Value.int 181 0, Value.ref 96, Value.none, Value.none, Value.none, Value.ref 97, Value.int 312 0, Value.int 58 0, Value.str (Str.ofString "/claim/cut.py") 313] }),
   (99, { cls := Value.type "function", data := Data.func { name := Str.ofString "new_numbers", qualname := Str.ofString "new_numbers", params := (fnAt 12).1, body := (.stmts (fnAt 12).2.1), scope := (fnAt 12).2.2, globals := 3, closure := [], defaults := Value.none, kwdefaults := Value.none, pyModule := Value.str (Str.ofString "z80.bprogram") 218, code := Value.ref 98 } }),
   (105, { cls := Value.type "code", data := Data.fields #[Value.str (Str.ofString "led_row") 315, Value.str (Str.ofString "led_row") 316, Value.str (Str.ofString "/claim/cut.py") 317, Value.int 65 0, Value.int 2 0, Value.int 0 0, Value.int 0 0, Value.int 3 0, Value.ref 100, Value.bool true, Value.int 181 0, Value.ref 101, Value.none, Value.ref 102, Value.ref 103, Value.ref 104, Value.int 322 0, Value.int 65 0, Value.str (Str.ofString "/claim/cut.py") 323] }),
   (106, { cls := Value.type "function", data := Data.func { name := Str.ofString "led_row", qualname := Str.ofString "led_row", params := (fnAt 13).1, body := (.stmts (fnAt 13).2.1), scope := (fnAt 13).2.2, globals := 3, closure := [], defaults := Value.none, kwdefaults := Value.none, pyModule := Value.str (Str.ofString "z80.bprogram") 218, code := Value.ref 105 } }),
   (110, { cls := Value.type "code", data := Data.fields #[Value.str (Str.ofString "renumber") 325, Value.str (Str.ofString "renumber") 326, Value.str (Str.ofString "/claim/cut.py") 327, Value.int 70 0, Value.int 4 0, Value.int 0 0, Value.int 0 0, Value.int 3 0, Value.ref 107, Value.bool true, Value.int 181 0, Value.ref 108, Value.none, Value.none, Value.none, Value.ref 109, Value.int 328 0, Value.int 70 0, Value.str (Str.ofString "/claim/cut.py") 329] }),
   (111, { cls := Value.type "function", data := Data.func { name := Str.ofString "renumber", qualname := Str.ofString "renumber", params := (fnAt 14).1, body := (.stmts (fnAt 14).2.1), scope := (fnAt 14).2.2, globals := 3, closure := [], defaults := Value.none, kwdefaults := Value.none, pyModule := Value.str (Str.ofString "z80.bprogram") 218, code := Value.ref 110 } }),
   (117, { cls := Value.type "code", data := Data.fields #[Value.str (Str.ofString "_law_next") 333, Value.str (Str.ofString "_law_next") 334, Value.str (Str.ofString "/claim/cut.py") 335, Value.int 79 0, Value.int 2 0, Value.int 0 0, Value.int 0 0, Value.int 3 0, Value.ref 112, Value.bool true, Value.int 181 0, Value.ref 113, Value.none, Value.ref 114, Value.ref 115, Value.ref 116, Value.int 340 0, Value.int 79 0, Value.str (Str.ofString "/claim/cut.py") 341] }),
   (118, { cls := Value.type "function", data := Data.func { name := Str.ofString "_law_next", qualname := Str.ofString "_law_next", params := (fnAt 16).1, body := (.stmts (fnAt 16).2.1), scope := (fnAt 16).2.2, globals := 3, closure := [], defaults := Value.none, kwdefaults := Value.none, pyModule := Value.str (Str.ofString "law_xm0999_01") 331, code := Value.ref 117 } }),
   (122, { cls := Value.type "code", data := Data.fields #[Value.str (Str.ofString "_law_form") 343, Value.str (Str.ofString "_law_form") 344, Value.str (Str.ofString "/claim/cut.py") 345, Value.int 85 0, Value.int 1 0, Value.int 0 0, Value.int 0 0, Value.int 3 0, Value.ref 119, Value.bool true, Value.int 181 0, Value.ref 120, Value.none, Value.none, Value.none, Value.ref 121, Value.int 346 0, Value.int 85 0, Value.str (Str.ofString "/claim/cut.py") 347] }),
   (123, { cls := Value.type "function", data := Data.func { name := Str.ofString "_law_form", qualname := Str.ofString "_law_form", params := (fnAt 17).1, body := (.stmts (fnAt 17).2.1), scope := (fnAt 17).2.2, globals := 3, closure := [], defaults := Value.none, kwdefaults := Value.none, pyModule := Value.str (Str.ofString "law_xm0999_01") 331, code := Value.ref 122 } }),
   (129, { cls := Value.type "code", data := Data.fields #[Value.str (Str.ofString "_law_row") 349, Value.str (Str.ofString "_law_row") 350, Value.str (Str.ofString "/claim/cut.py") 351, Value.int 96 0, Value.int 3 0, Value.int 0 0, Value.int 0 0, Value.int 3 0, Value.ref 124, Value.bool true, Value.int 181 0, Value.ref 125, Value.none, Value.ref 126, Value.ref 127, Value.ref 128, Value.int 360 0, Value.int 96 0, Value.str (Str.ofString "/claim/cut.py") 361] }),
   (130, { cls := Value.type "function", data := Data.func { name := Str.ofString "_law_row", qualname := Str.ofString "_law_row", params := (fnAt 18).1, body := (.stmts (fnAt 18).2.1), scope := (fnAt 18).2.2, globals := 3, closure := [], defaults := Value.none, kwdefaults := Value.none, pyModule := Value.str (Str.ofString "law_xm0999_01") 331, code := Value.ref 129 } }),
   (136, { cls := Value.type "code", data := Data.fields #[Value.str (Str.ofString "_law_lost") 363, Value.str (Str.ofString "_law_lost") 364, Value.str (Str.ofString "/claim/cut.py") 365, Value.int 106 0, Value.int 3 0, Value.int 0 0, Value.int 0 0, Value.int 3 0, Value.ref 131, Value.bool true, Value.int 181 0, Value.ref 132, Value.none, Value.ref 133, Value.ref 134, Value.ref 135, Value.int 373 0, Value.int 106 0, Value.str (Str.ofString "/claim/cut.py") 374] }),
   (137, { cls := Value.type "function", data := Data.func { name := Str.ofString "_law_lost", qualname := Str.ofString "_law_lost", params := (fnAt 19).1, body := (.stmts (fnAt 19).2.1), scope := (fnAt 19).2.2, globals := 3, closure := [], defaults := Value.none, kwdefaults := Value.none, pyModule := Value.str (Str.ofString "law_xm0999_01") 331, code := Value.ref 136 } }),
   (141, { cls := Value.type "code", data := Data.fields #[Value.str (Str.ofString "_law_same") 376, Value.str (Str.ofString "_law_same") 377, Value.str (Str.ofString "/claim/cut.py") 378, Value.int 113 0, Value.int 4 0, Value.int 0 0, Value.int 0 0, Value.int 3 0, Value.ref 138, Value.bool true, Value.int 181 0, Value.ref 139, Value.none, Value.none, Value.none, Value.ref 140, Value.int 379 0, Value.int 113 0, Value.str (Str.ofString "/claim/cut.py") 380] }),
   (142, { cls := Value.type "function", data := Data.func { name := Str.ofString "_law_same", qualname := Str.ofString "_law_same", params := (fnAt 20).1, body := (.stmts (fnAt 20).2.1), scope := (fnAt 20).2.2, globals := 3, closure := [], defaults := Value.none, kwdefaults := Value.none, pyModule := Value.str (Str.ofString "law_xm0999_01") 331, code := Value.ref 141 } }),
   (148, { cls := Value.type "code", data := Data.fields #[Value.str (Str.ofString "_law_told") 382, Value.str (Str.ofString "_law_told") 383, Value.str (Str.ofString "/claim/cut.py") 384, Value.int 116 0, Value.int 4 0, Value.int 0 0, Value.int 0 0, Value.int 3 0, Value.ref 143, Value.bool true, Value.int 181 0, Value.ref 144, Value.none, Value.ref 145, Value.ref 146, Value.ref 147, Value.int 390 0, Value.int 116 0, Value.str (Str.ofString "/claim/cut.py") 391] }),
   (149, { cls := Value.type "function", data := Data.func { name := Str.ofString "_law_told", qualname := Str.ofString "_law_told", params := (fnAt 21).1, body := (.stmts (fnAt 21).2.1), scope := (fnAt 21).2.2, globals := 3, closure := [], defaults := Value.none, kwdefaults := Value.none, pyModule := Value.str (Str.ofString "law_xm0999_01") 331, code := Value.ref 148 } }),
   (153, { cls := Value.type "code", data := Data.fields #[Value.str (Str.ofString "law") 393, Value.str (Str.ofString "law") 394, Value.str (Str.ofString "/claim/cut.py") 395, Value.int 121 0, Value.int 1 0, Value.int 0 0, Value.int 0 0, Value.int 3 0, Value.ref 150, Value.bool true, Value.int 181 0, Value.ref 151, Value.none, Value.none, Value.none, Value.ref 152, Value.int 396 0, Value.int 121 0, Value.str (Str.ofString "/claim/cut.py") 397] }),
   (154, { cls := Value.type "function", data := Data.func { name := Str.ofString "law", qualname := Str.ofString "law", params := (fnAt 22).1, body := (.stmts (fnAt 22).2.1), scope := (fnAt 22).2.2, globals := 3, closure := [], defaults := Value.none, kwdefaults := Value.none, pyModule := Value.str (Str.ofString "law_xm0999_01") 331, code := Value.ref 153 } })]

local macro_rules | `(tactic| k_head) => `(tactic| o_head (kHook heapL [2, 3, 15, 27, 28, 30, 31, 35, 48, 49, 51, 52, 62, 63, 69, 70, 76, 77, 81, 82, 88, 89, 93, 94, 98, 99, 105, 106, 110, 111, 117, 118, 122, 123, 129, 130, 136, 137, 141, 142, 148, 149, 153, 154] (fun _ => by kernel_rfl)))
set_option maxRecDepth 100000 in
set_option maxHeartbeats 8000000 in
open_top hdx for PySem.Challenge.rw_xm0999_01
end Mine

/-! Lg1 -/
open PySem PySem.W PyProof.Rows PySem.Spec PySem.Calls
set_option maxRecDepth 100000
set_option linter.unusedVariables false
namespace Mine

noncomputable abbrev KK := Mine.heapL
abbrev PP : Program := PySem.Challenge.pw_xm0999_01
abbrev MM (w : World) : Model := model PP w
abbrev Hot := List (Addr × Obj)
abbrev Loc := Str → Option Value

abbrev Le (g g' : Heap) : Prop := ∀ b o, g.get? b = some o → g'.get? b = some o
theorem Le.rf (g : Heap) : Le g g := fun _ _ e => e
theorem Le.tr {a b c : Heap} (x : Le a b) (y : Le b c) : Le a c := fun _ _ e => y _ _ (x _ _ e)

structure At (g : Heap) (hot : Hot) (h : Heap) : Prop where
  keep : Le g h
  on : ∀ p ∈ hot, h.get? p.1 = some p.2
  sep : ∀ p ∈ hot, g.get? p.1 = none
  nd : (hot.map (·.1)).Nodup

section
variable {g h h' : Heap} {hot hot' : Hot} {a : Addr} {o o' : Obj} {p : Addr × Obj}
theorem At.grow (H : At g hot h) (k : Le h h') : At g hot h' :=
  ⟨H.keep.tr k, fun p hp => k _ _ (H.on p hp), H.sep, H.nd⟩
theorem At.rebase (H : At g hot h) : ∃ g', Le g g' ∧ At g' hot h ∧ ∀ b o, h.get? b = some o → b ∉ hot.map (·.1) → g'.get? b = some o := by
  refine ⟨hideAll h (hot.map (·.1)), fun b o e => hideAll_get _ (H.keep _ _ e) fun hm => ?_, ⟨fun b o e => of_hideAll _ e, H.on, fun p hp => hideAll_none _ (List.mem_map_of_mem hp), H.nd⟩, fun b o e hn => hideAll_get _ e hn⟩
  obtain ⟨p, hp, rfl⟩ := List.mem_map.mp hm
  rw [H.sep p hp] at e; cases e
theorem At.notLt (H : At g hot h) {b : Addr} (hb : h.get? b = none) : b ∉ hot.map (·.1) := fun hm => by
  obtain ⟨p, hp, rfl⟩ := List.mem_map.mp hm
  rw [H.on p hp] at hb; cases hb
theorem get_size (h : Heap) : h.get? h.objs.size = none := by
  cases q : h.get? h.objs.size with
  | none => rfl
  | some o => exact absurd (Heap.lt_size q) (Nat.lt_irrefl _)
theorem Le.push (h : Heap) (o : Obj) : Le h (h.push o) := fun _ _ e => Heap.get?_push_of_some _ e
theorem At.push (H : At g hot h) (o : Obj) (hf : o.isFreed = false := by rfl) : At g ((h.objs.size, o) :: hot) (h.push o) := by
  refine ⟨H.keep.tr (Le.push _ _), fun p hp => ?_, fun p hp => ?_, ?_⟩
  · rcases List.mem_cons.mp hp with rfl | hp
    · exact Heap.get?_push_size _ hf
    · exact Heap.get?_push_of_some _ (H.on p hp)
  · rcases List.mem_cons.mp hp with rfl | hp
    · cases q : g.get? h.objs.size with
      | none => rfl
      | some o' => have := H.keep _ _ q; rw [get_size] at this; cases this
    · exact H.sep p hp
  · rw [List.map_cons]
    exact List.nodup_cons.mpr ⟨H.notLt (get_size h), H.nd⟩
theorem At.perm (H : At g hot h) (q : hot.Perm hot') : At g hot' h :=
  ⟨H.keep, fun p hp => H.on p (q.mem_iff.mpr hp), fun p hp => H.sep p (q.mem_iff.mpr hp), (q.map _).nodup_iff.mp H.nd⟩
theorem At.drop (H : At g (p :: hot) h) : At g hot h :=
  ⟨H.keep, fun p hp => H.on p (.tail _ hp), fun p hp => H.sep p (.tail _ hp), (List.nodup_cons.mp (by simpa using H.nd)).2⟩
theorem At.swap {q : Addr × Obj} (H : At g (p :: q :: hot) h) : At g (q :: p :: hot) h := H.perm (List.Perm.swap ..)
theorem At.set (H : At g ((a, o) :: hot) h) (hs : Heap.SameBut a h h') (e : h'.get? a = some o') : At g ((a, o') :: hot) h' := by
  have hn := List.nodup_cons.mp (show ((a, o).1 :: hot.map (·.1)).Nodup from by simpa using H.nd)
  refine ⟨fun b ob eb => ?_, fun p hp => ?_, fun p hp => ?_, by simpa using H.nd⟩
  · refine (hs.2 b ?_).trans (H.keep _ _ eb)
    rintro rfl
    rw [H.sep (b, o) (.head _)] at eb; cases eb
  · rcases List.mem_cons.mp hp with rfl | hp
    · exact e
    · refine (hs.2 p.1 ?_).trans (H.on p (.tail _ hp))
      rintro q
      exact hn.1 (List.mem_map.mpr ⟨p, hp, q⟩)
  · rcases List.mem_cons.mp hp with rfl | hp
    · exact H.sep (a, o) (.head _)
    · exact H.sep p (.tail _ hp)
theorem At.freeze (H : At g ((a, o) :: hot) h) : ∃ g', Le g g' ∧ g'.get? a = some o ∧ At g' hot h := by
  obtain ⟨g', l, H', k⟩ := H.drop.rebase
  have hn := List.nodup_cons.mp (show ((a, o).1 :: hot.map (·.1)).Nodup from by simpa using H.nd)
  exact ⟨g', l, k a o (H.on _ (.head _)) hn.1, H'⟩
/-- a new object, frozen at once -/
theorem At.fresh (H : At g hot h) (o : Obj) (hf : o.isFreed = false := by rfl) : ∃ g', Le g g' ∧ g'.get? h.objs.size = some o ∧ At g' hot (h.push o) := (H.push o hf).freeze
theorem At.extBut (H : At g hot h) (x : Heap.ExtBut h.objs.size h h') : At g hot h' :=
  H.grow fun b o e => x b o (Nat.ne_of_lt (Heap.lt_size e)) e
end

def ObjNs (o : Obj) (m : Loc) : Prop := ∃ es ep, o.data = .dict es ep ∧ StrKeys es ∧ ∀ name, nsFind es name = m name
theorem ObjNs.ns {h : Heap} {a : Addr} {o : Obj} {m : Loc} (x : ObjNs o m) (e : h.get? a = some o) : h.Ns a m :=
  let ⟨es, ep, r⟩ := x; ⟨o, es, ep, e, r⟩
theorem ObjNs.of {h : Heap} {a : Addr} {m : Loc} (x : h.Ns a m) : ∃ o, h.get? a = some o ∧ ObjNs o m :=
  let ⟨o, es, ep, e, r⟩ := x; ⟨o, e, es, ep, r⟩

def Rd (g : Heap) (v : Value) (d : PyData) : Prop := ∃ as, Reads g v d as
theorem Rd.mono {g g' : Heap} {v : Value} {d : PyData} (r : Rd g v d) (l : Le g g') : Rd g' v d := let ⟨as, x⟩ := r; ⟨as, Reads.keeps l x⟩
def RdAll (g : Heap) (vs : List Value) (ds : List PyData) : Prop := ∃ as, ReadsAll g vs ds as
theorem RdAll.mono {g g' : Heap} {v : List Value} {d : List PyData} (r : RdAll g v d) (l : Le g g') : RdAll g' v d := let ⟨as, x⟩ := r; ⟨as, ReadsAll.keeps l x⟩
theorem RdAll.nil {g : Heap} : RdAll g [] [] := ⟨_, .nil⟩
theorem RdAll.cons {g : Heap} {v : Value} {vs : List Value} {d : PyData} {ds : List PyData} (r : Rd g v d) (q : RdAll g vs ds) : RdAll g (v :: vs) (d :: ds) :=
  let ⟨_, x⟩ := r; let ⟨_, y⟩ := q; ⟨_, .cons x y⟩
theorem RdAll.inv {g : Heap} {vs : List Value} {d : PyData} {ds : List PyData} (r : RdAll g vs (d :: ds)) : ∃ v ws, vs = v :: ws ∧ Rd g v d ∧ RdAll g ws ds := by
  obtain ⟨as, x⟩ := r
  cases x with
  | cons x y => exact ⟨_, _, rfl, ⟨_, x⟩, ⟨_, y⟩⟩
theorem RdAll.length {g : Heap} {vs : List Value} {ds : List PyData} (r : RdAll g vs ds) : vs.length = ds.length := by
  induction ds generalizing vs with
  | nil => obtain ⟨as, x⟩ := r; cases x; rfl
  | cons d ds ih => obtain ⟨v, ws, rfl, _, q⟩ := r.inv; simp [ih q]
abbrev listO (vs : List Value) (n : Nat) : Obj := { cls := .type "list", data := .seq vs.toArray n }
abbrev tupO (vs : List Value) (n : Nat) : Obj := { cls := .type "tuple", data := .seq vs.toArray n }

def Cn {α : Type} (w : World) (A : Around) (g : Heap) (hot : Hot) (t : Sem α) (R : Heap → α → Prop) : Prop :=
  ∀ (s : Shared) (Q : α → Shared → Prop) (E : Value → Shared → Prop) (g0 : Heap), Le g g0 → At g0 hot s.heap →
    (∀ v g1 h1 tk, Le g0 g1 → At g1 hot h1 → R g1 v → Q v { s with heap := h1, toks := tk }) → wpAny (MM w) A t Q E s

section
variable {α β : Type} {w : World} {A : Around} {g g' : Heap} {hot hot' : Hot} {t : Sem α} {R R' : Heap → α → Prop}
theorem Cn.up (c : Cn w A g hot t R) (l : Le g g') : Cn w A g' hot t R := fun s Q E g0 l0 => c s Q E g0 (l.tr l0)
theorem Cn.perm (c : Cn w A g hot t R) (q : hot.Perm hot') : Cn w A g hot' t R := fun s Q E g0 l0 H hQ =>
  c s Q E g0 l0 (H.perm q.symm) fun v g1 h1 tk l1 H1 r => hQ v g1 h1 tk l1 (H1.perm q) r
theorem Cn.imp (c : Cn w A g hot t R) (h : ∀ g1 v, Le g g1 → R g1 v → R' g1 v) : Cn w A g hot t R' := fun s Q E g0 l0 H hQ =>
  c s Q E g0 l0 H fun v g1 h1 tk l1 H1 r => hQ v g1 h1 tk l1 H1 (h g1 v (l0.tr l1) r)
/-- one that leaves the heap alone -/
theorem Cn.still {v : α} (h : ∀ (s : Shared) (Q : α → Shared → Prop) (E : Value → Shared → Prop) (g0 : Heap), Le g g0 → At g0 hot s.heap → (∀ tk, Q v { s with toks := tk }) → wpAny (MM w) A t Q E s)
    (r : ∀ g0, Le g g0 → R g0 v) : Cn w A g hot t R := fun s Q E g0 l0 H hQ => h s Q E g0 l0 H fun tk => hQ v g0 s.heap tk (Le.rf _) H (r g0 l0)
theorem Cn.bind {f : α → Sem β} {S : Heap → β → Prop} (c : Cn w A g hot t R) (k : ∀ g1 v, Le g g1 → R g1 v → Cn w A g1 hot (f v) S) : Cn w A g hot (t >>= f) S := fun s Q E g0 l0 H hQ =>
  wpAny_bind (c s _ E g0 l0 H fun v g1 h1 tk l1 H1 r => k g1 v (l0.tr l1) r _ Q E g1 (Le.rf _) H1 fun u g2 h2 tk2 l2 H2 r2 => hQ u g2 h2 tk2 (l1.tr l2) H2 r2)
theorem Cn.pure {v : α} (r : ∀ g0, Le g g0 → R g0 v) : Cn w A g hot (pure v) R := .still (fun s Q E g0 l0 H hQ => wpAny_pure (hQ s.toks)) r
end
abbrev CD (w : World) (A : Around) (g : Heap) (hot : Hot) (t : Sem Value) (d : PyData) : Prop := Cn w A g hot t fun g v => Rd g v d

end Mine

/-! Lg2 -/
open PySem PySem.W PyProof.Rows PySem.Spec PySem.Calls
set_option maxRecDepth 100000
set_option linter.unusedVariables false
namespace Mine

/-- the names of built-ins that this text calls -/
def biTab : List (Str × Value) := [("len", .builtin "len"), ("range", .type "range"), ("enumerate", .type "enumerate"), ("zip", .type "zip"), ("list", .type "list"), ("abs", .builtin "abs"), ("int", .type "int")]
structure Wd (w : World) (g : Heap) : Prop where
  X : (KK w.params).In g
  lim : g.NoLimit
  bi : ∃ mb, g.Ns builtinsNs mb ∧ ∀ x v, biTab.lookup x = some v → mb x = some v
theorem Wd.up {w : World} {g g' : Heap} (W : Wd w g) (l : Le g g') : Wd w g' := ⟨fun a o e => l _ _ (W.X a o e), W.lim.keeps l, let ⟨mb, a, b⟩ := W.bi; ⟨mb, a.keeps l, b⟩⟩
theorem bi_all {mb : Str → Option Value} (h : ∀ x : Str, x ≠ "__name__" → mb x = bootBuiltins x) : ∀ x v, biTab.lookup x = some v → mb x = some v := by
  have one : ∀ (x : Str) (v : Value), x ≠ "__name__" → bootBuiltins x = some v → mb x = some v := fun x v hx e => (h x hx).trans e
  intro x v e
  unfold biTab at e
  simp only [List.lookup_cons, List.lookup_nil] at e
  repeat' split at e
  all_goals first | (cases e; done) | skip
  all_goals (rename_i q; have q := eq_of_beq q; subst q; cases e; refine one _ _ (by decide) ?_; boot_by_name)
theorem dlt {d a b : Nat} (h : d < a) (k : a + 1 ≤ b) : d + 1 < b := Nat.lt_of_lt_of_le (Nat.succ_lt_succ h) k
theorem ult {u a b c : Nat} (h : u + a < c) (k : 3 + b ≤ a) : u + 3 + b < c := Nat.lt_of_le_of_lt (by rw [Nat.add_assoc]; exact Nat.add_le_add_left k u) h
theorem rlt {d a : Nat} (h : d < a) (k : a ≤ recursionLimit := by decide) : d < recursionLimit := Nat.lt_of_lt_of_le h k

def strKeysB (es : Array DictEntry) : Bool := es.toList.all fun e => match e.key with | .str .. => true | _ => false
theorem strKeys_of {es : Array DictEntry} (h : strKeysB es = true) : StrKeys es := fun e he => by
  have := List.all_eq_true.mp h e (Array.mem_toList_iff.mpr he)
  revert this
  cases e.key <;> simp
theorem ns_of {w : World} {g : Heap} (W : Wd w g) {a : Addr} {c : Value} {d : Option Addr} {es : Array DictEntry} {n : Nat} {sl : Array (Option Value)}
    (e : (KK w.params).lookup a = some ⟨c, d, .dict es n, sl⟩) (k : strKeysB es = true) : g.Ns a (nsFind es) :=
  ⟨_, es, n, W.X _ _ e, rfl, strKeys_of k, fun _ => rfl⟩
theorem glob_ns (w : World) : ∃ es n, (∀ g, Wd w g → g.Ns 3 (nsFind es)) ∧ (KK w.params).lookup 3 = some ⟨.type "dict", none, .dict es n, #[]⟩ :=
  ⟨_, _, fun g W => ns_of W rfl rfl, rfl⟩
theorem limit_ns (w : World) {g : Heap} (W : Wd w g) : g.NoLimit := W.lim
theorem mb_of {w : World} {g : Heap} (W : Wd w g) {x : Str} {v : Value} (e : biTab.lookup x = some v) : ∃ mb, g.Ns builtinsNs mb ∧ mb x = some v :=
  let ⟨mb, a, b⟩ := W.bi; ⟨mb, a, b x v e⟩

theorem mem0 {α : Type} {a : α} {l : List α} : a ∈ a :: l := .head _
theorem mem1 {α : Type} {a b : α} {l : List α} : a ∈ b :: a :: l := .tail _ (.head _)
theorem mem2 {α : Type} {a b c : α} {l : List α} : a ∈ b :: c :: a :: l := .tail _ (.tail _ (.head _))
theorem mem3 {α : Type} {a b c d : α} {l : List α} : a ∈ b :: c :: d :: a :: l := .tail _ (.tail _ (.tail _ (.head _)))
theorem mem4 {α : Type} {a b c d e : α} {l : List α} : a ∈ b :: c :: d :: e :: a :: l := .tail _ (.tail _ (.tail _ (.tail _ (.head _))))
theorem memB {α : Type} {a x : α} {l l1 : List α} (h : a ∈ l) : a ∈ x :: (l1 ++ l) := .tail _ (List.mem_append_right _ h)
theorem memA {α : Type} {a x : α} {l l1 l2 : List α} (h : a ∈ l) : a ∈ x :: (l1 ++ (l2 ++ l)) := .tail _ (List.mem_append_right _ (List.mem_append_right _ h))

section
variable {w : World} {A : Around} {g : Heap} {hot : Hot} {env : Env} {x : Str} {pos np : Pos} {R : Heap → Value → Prop} {v : Value} {m : Loc} {o : Obj}
theorem nm (hm : (env.locals, o) ∈ hot) (hn : ObjNs o m) (hv : m x = some v) (r : ∀ g0, Le g g0 → R g0 v)
    (hk : env.scope.kind = .function := by rfl) (hl : env.kindOf x = some .local := by rfl) (hd : (x == ("__debug__" : Str)) = false := by decide) : Cn w A g hot (eval (.Name x pos) env) R :=
  .still (fun s Q E g0 l H hQ => wpAny_Name (wpAny_loadName_local hk hl (hn.ns (H.on _ hm)) hv (hQ s.toks)) hd) r
theorem nmc {c : Addr} {oc : Obj} (hc : env.cells.lookup x = some c) (hm : (c, oc) ∈ hot) (ho : oc.data = .cell (some v)) (r : ∀ g0, Le g g0 → R g0 v)
    (hk : env.scope.kind = .function := by rfl) (hl : env.kindOf x = some .cell := by rfl) (hd : (x == ("__debug__" : Str)) = false := by decide) : Cn w A g hot (eval (.Name x pos) env) R :=
  .still (fun s Q E g0 l H hQ => wpAny_Name (wpAny_loadName_cell hk hl hc ⟨oc, H.on _ hm, ho⟩ (hQ s.toks)) hd) r
theorem nmg (W : Wd w g) (e : nsIn (KK w.params) mainGlobals x = some (some v)) (r : ∀ g0, Le g g0 → R g0 v) (hgl : env.globals = mainGlobals := by rfl)
    (hk : env.scope.kind = .function := by rfl) (hl : env.kindOf x = some .globalImplicit := by rfl) (hd : (x == ("__debug__" : Str)) = false := by decide) : Cn w A g hot (eval (.Name x pos) env) R := by
  obtain ⟨es, n, h, _⟩ := glob_ns w
  exact .still (fun s Q E g0 l H hQ => Name_function_global hk hl (loadGlobal_global (hgl ▸ (h g W).keeps (l.tr H.keep)) (mg_of W.X (h g W) e) (hQ s.toks)) hd) r
theorem nmb (W : Wd w g) (e0 : nsIn (KK w.params) mainGlobals x = some none) (e : biTab.lookup x = some v) (r : ∀ g0, Le g g0 → R g0 v) (hgl : env.globals = mainGlobals := by rfl) (hbl : env.builtins = builtinsNs := by rfl)
    (hk : env.scope.kind = .function := by rfl) (hl : env.kindOf x = some .globalImplicit := by rfl) (hd : (x == ("__debug__" : Str)) = false := by decide) : Cn w A g hot (eval (.Name x pos) env) R := by
  obtain ⟨es, n, h, _⟩ := glob_ns w
  obtain ⟨mb, hb, hv⟩ := mb_of W e
  exact .still (fun s Q E g0 l H hQ => Name_function_global hk hl (loadGlobal_builtin (hgl ▸ (h g W).keeps (l.tr H.keep)) (mg_none_of W.X (h g W) e0) (hbl ▸ hb.keeps (l.tr H.keep)) hv (hQ s.toks)) hd) r
theorem kInt {i : Int} {k : Nat} (r : ∀ g0 t, Le g g0 → R g0 (.int i t)) : Cn w A g hot (eval (.Constant (.int i) k pos) env) R :=
  fun s Q E g0 l H hQ => wpAny_Constant_int (hQ _ g0 s.heap _ (Le.rf _) H (r g0 _ l))
theorem kStr {i : Str} {k : Nat} (r : ∀ g0 t, Le g g0 → R g0 (.str i t)) : Cn w A g hot (eval (.Constant (.str i) k pos) env) R :=
  fun s Q E g0 l H hQ => Constant_str (hQ _ g0 s.heap _ (Le.rf _) H (r g0 _ l))
theorem kBool {i : Bool} {k : Nat} (r : ∀ g0, Le g g0 → R g0 (.bool i)) : Cn w A g hot (eval (.Constant (.bool i) k pos) env) R :=
  .still (fun s Q E g0 l H hQ => wpAny_Constant_bool (hQ s.toks)) r

theorem args0 {S : Heap → List Value → Prop} (r : ∀ g0, Le g g0 → S g0 []) : Cn w A g hot (spliced (backTo pos (starEach [] env))) S := .still (fun s Q E g0 l H hQ => spliced_nil (hQ s.toks)) r
theorem args1 {S : Heap → List Value → Prop} {e : Expr} {rest : List Expr} {R1 : Heap → Value → Prop} (c : Cn w A g hot (eval e env) R1) (k : ∀ g1 v, Le g g1 → R1 g1 v → Cn w A g1 hot (spliced (backTo pos (starEach rest env))) fun g2 vs => S g2 (v :: vs))
    (he : starEach (e :: rest) env = (false, eval e env) :: starEach rest env := by rfl) : Cn w A g hot (spliced (backTo pos (starEach (e :: rest) env))) S := fun s Q E g0 l H hQ => by
  rw [he]
  refine spliced_cons (c s _ E g0 l H fun v g1 h1 tk l1 H1 r1 => ?_)
  exact k g1 v (l.tr l1) r1 _ _ E g1 (Le.rf _) H1 fun vs g2 h2 tk2 l2 H2 r2 => hQ (v :: vs) g2 h2 tk2 (l1.tr l2) H2 r2
/-- a call of a def of the text -/
theorem calldef {e : Expr} {rest : List Expr} {f : Addr} {fo : Obj} {fd : FuncData} {S : Heap → List Value → Prop} (W : Wd w g) (en : nsIn (KK w.params) mainGlobals x = some (some (.ref f))) (ho : (KK w.params).lookup f = some fo) (hd : fo.data = .func fd)
    (c : Cn w A g hot (spliced (backTo pos (starEach (e :: rest) env))) S) (k : ∀ g1 vs, Le g g1 → S g1 vs → Cn w A g1 hot (call (.ref f) vs) R)
    (he : starEach (e :: rest) env = (false, eval e env) :: starEach rest env := by rfl) (hgl : env.globals = mainGlobals := by rfl)
    (hk : env.scope.kind = .function := by rfl) (hl : env.kindOf x = some .globalImplicit := by rfl) (hdb : (x == ("__debug__" : Str)) = false := by decide) :
    Cn w A g hot (eval (.Call (.Name x np) (e :: rest) [] pos) env) R := fun s Q E g0 l H hQ => by
  refine wpAny_Call_NameR (nmg (R := fun _ v => v = .ref f) W en (fun _ _ => rfl) hgl hk hl hdb s _ E g0 l H fun v g1 h1 tk l1 H1 r1 => ?_)
  subst r1
  refine callWith_def hd (c _ _ E g1 (l.tr l1) H1 fun vs g2 h2 tk2 l2 H2 r2 => ⟨(((l.tr l1).tr l2).tr H2.keep) _ _ (W.X _ _ ho), ?_⟩) he
  exact k g2 vs ((l.tr l1).tr l2) r2 _ _ E g2 (Le.rf _) H2 fun u g3 h3 tk3 l3 H3 r3 => hQ u g3 h3 tk3 ((l1.tr l2).tr l3) H3 r3
/-- a call of a built-in function -/
theorem callbi {e : Expr} {rest : List Expr} {id : String} {S : Heap → List Value → Prop} (W : Wd w g) (e0 : nsIn (KK w.params) mainGlobals x = some none) (en : biTab.lookup x = some (.builtin id))
    (c : Cn w A g hot (spliced (backTo pos (starEach (e :: rest) env))) S) (k : ∀ g1 vs, Le g g1 → S g1 vs → Cn w A g1 hot (call (.builtin id) vs) R)
    (he : starEach (e :: rest) env = (false, eval e env) :: starEach rest env := by rfl) (hpl : (backTo pos (starEach rest env)).any (·.1) = false := by rfl) (hgl : env.globals = mainGlobals := by rfl) (hbl : env.builtins = builtinsNs := by rfl)
    (hk : env.scope.kind = .function := by rfl) (hl : env.kindOf x = some .globalImplicit := by rfl) (hdb : (x == ("__debug__" : Str)) = false := by decide) :
    Cn w A g hot (eval (.Call (.Name x np) (e :: rest) [] pos) env) R := fun s Q E g0 l H hQ => by
  refine wpAny_Call_NameR (nmb (R := fun _ v => v = .builtin id) W e0 en (fun _ _ => rfl) hgl hbl hk hl hdb s _ E g0 l H fun v g1 h1 tk l1 H1 r1 => ?_)
  subst r1
  refine callWith_builtin1 (c _ _ E g1 (l.tr l1) H1 fun vs g2 h2 tk2 l2 H2 r2 => ?_) he hpl
  exact k g2 vs ((l.tr l1).tr l2) r2 _ _ E g2 (Le.rf _) H2 fun u g3 h3 tk3 l3 H3 r3 => hQ u g3 h3 tk3 ((l1.tr l2).tr l3) H3 r3
theorem calltype {e : Expr} {rest : List Expr} {id : String} {S : Heap → List Value → Prop} (W : Wd w g) (e0 : nsIn (KK w.params) mainGlobals x = some none) (en : biTab.lookup x = some (.type id))
    (c : Cn w A g hot (spliced (backTo pos (starEach (e :: rest) env))) S) (k : ∀ g1 vs, Le g g1 → S g1 vs → Cn w A g1 hot (call (.type id) vs) R)
    (he : starEach (e :: rest) env = (false, eval e env) :: starEach rest env := by rfl) (hpl : (backTo pos (starEach rest env)).any (·.1) = false := by rfl) (hgl : env.globals = mainGlobals := by rfl) (hbl : env.builtins = builtinsNs := by rfl)
    (hk : env.scope.kind = .function := by rfl) (hl : env.kindOf x = some .globalImplicit := by rfl) (hdb : (x == ("__debug__" : Str)) = false := by decide) :
    Cn w A g hot (eval (.Call (.Name x np) (e :: rest) [] pos) env) R := fun s Q E g0 l H hQ => by
  refine wpAny_Call_NameR (nmb (R := fun _ v => v = .type id) W e0 en (fun _ _ => rfl) hgl hbl hk hl hdb s _ E g0 l H fun v g1 h1 tk l1 H1 r1 => ?_)
  subst r1
  refine PyProof.Rows.callWith_type1 (c _ _ E g1 (l.tr l1) H1 fun vs g2 h2 tk2 l2 H2 r2 => ?_) he hpl
  exact k g2 vs ((l.tr l1).tr l2) r2 _ _ E g2 (Le.rf _) H2 fun u g3 h3 tk3 l3 H3 r3 => hQ u g3 h3 tk3 ((l1.tr l2).tr l3) H3 r3

theorem bin {l r : Expr} {op : Operator} {R1 R2 : Heap → Value → Prop} (c1 : Cn w A g hot (eval l env) R1) (c2 : ∀ g1 a, Le g g1 → R1 g1 a → Cn w A g1 hot (eval r env) R2)
    (k : ∀ g1 g2 a b, Le g g1 → Le g1 g2 → R1 g1 a → R2 g2 b → Cn w A g2 hot (binaryOp op a b) R) : Cn w A g hot (eval (.BinOp l op r pos) env) R := fun s Q E g0 l0 H hQ =>
  wpAny_BinOp (c1 s _ E g0 l0 H fun a g1 h1 tk l1 H1 r1 => c2 g1 a (l0.tr l1) r1 _ _ E g1 (Le.rf _) H1 fun b g2 h2 tk2 l2 H2 r2 =>
    k g1 g2 a b (l0.tr l1) l2 r1 r2 _ _ E g2 (Le.rf _) H2 fun u g3 h3 tk3 l3 H3 r3 => hQ u g3 h3 tk3 ((l1.tr l2).tr l3) H3 r3)
theorem cmp {l r : Expr} {op : CmpOp} {R1 R2 : Heap → Value → Prop} (c1 : Cn w A g hot (eval l env) R1) (c2 : ∀ g1 a, Le g g1 → R1 g1 a → Cn w A g1 hot (eval r env) R2)
    (k : ∀ g1 g2 a b, Le g g1 → Le g1 g2 → R1 g1 a → R2 g2 b → Cn w A g2 hot (compareOp op a b) R) (hm : behindInMarks op r = false := by with_unfolding_all rfl) : Cn w A g hot (eval (.Compare l [op] [r] pos) env) R := fun s Q E g0 l0 H hQ =>
  wpAny_Compare1 (c1 s _ E g0 l0 H fun a g1 h1 tk l1 H1 r1 => c2 g1 a (l0.tr l1) r1 _ _ E g1 (Le.rf _) H1 fun b g2 h2 tk2 l2 H2 r2 =>
    k g1 g2 a b (l0.tr l1) l2 r1 r2 _ _ E g2 (Le.rf _) H2 fun u g3 h3 tk3 l3 H3 r3 => hQ u g3 h3 tk3 ((l1.tr l2).tr l3) H3 r3) hm
end
end Mine

/-! Lg3 -/
open PySem PySem.W PyProof.Rows PySem.Spec PySem.Calls
set_option maxRecDepth 100000
set_option linter.unusedVariables false
namespace Mine

section
variable {w : World} {A : Around} {g : Heap} {hot : Hot} {env : Env} {pos : Pos} {whole : Sem Value}

/-- a test -/
abbrev Ts (w : World) (A : Around) (g : Heap) (hot : Hot) (e : Expr) (env : Env) (b : Bool) : Prop := Cn w A g hot (isTrue e env (eval e env)) fun _ v => v = b

theorem tCmp {l r : Expr} {op : CmpOp} {R1 R2 : Heap → Value → Prop} {R : Heap → Bool → Prop} (c1 : Cn w A g hot (eval l env) R1) (c2 : ∀ g1 a, Le g g1 → R1 g1 a → Cn w A g1 hot (eval r env) R2)
    (k : ∀ g1 g2 a b, Le g g1 → Le g1 g2 → R1 g1 a → R2 g2 b → Cn w A g2 hot (compareOp op a b) fun g3 v => ∃ c, v = .bool c ∧ R g3 c) (hm : behindInMarks op r = false := by with_unfolding_all rfl) : Cn w A g hot (isTrue (.Compare l [op] [r] pos) env whole) R := fun s Q E g0 l0 H hQ =>
  wpAny_isTrue_Compare1 (c1 s _ E g0 l0 H fun a g1 h1 tk l1 H1 r1 => c2 g1 a (l0.tr l1) r1 _ _ E g1 (Le.rf _) H1 fun b g2 h2 tk2 l2 H2 r2 =>
    k g1 g2 a b (l0.tr l1) l2 r1 r2 _ _ E g2 (Le.rf _) H2 fun u g3 h3 tk3 l3 H3 r3 => by
      obtain ⟨c, rfl, r3⟩ := r3
      exact wpAny_truthy_bool (hQ c g3 h3 tk3 ((l1.tr l2).tr l3) H3 r3)) hm
/-- a test by a value that is a bool -/
theorem tVal {e : Expr} {R : Heap → Bool → Prop} (c : Cn w A g hot whole fun g3 v => ∃ c, v = .bool c ∧ R g3 c)
    (he : isTrue e env whole = (do let v ← whole; standAt e.pos; holding [v] (truthy v)) := by rfl) : Cn w A g hot (isTrue e env whole) R := fun s Q E g0 l0 H hQ =>
  wpAny_isTrue_value (c s _ E g0 l0 H fun u g3 h3 tk3 l3 H3 r3 => by
      obtain ⟨c, rfl, r3⟩ := r3
      exact wpAny_truthy_bool (hQ c g3 h3 tk3 l3 H3 r3)) he
theorem tNot {e : Expr} {b : Bool} (c : Ts w A g hot e env b) : Cn w A g hot (isTrue (.UnaryOp .Not e pos) env whole) fun _ v => v = !b := fun s Q E g0 l0 H hQ =>
  wpAny_isTrue_Not (c s _ E g0 l0 H fun u g3 h3 tk3 l3 H3 r3 => hQ _ g3 h3 tk3 l3 H3 (by rw [r3]))
/-- allTrue And | Or, left to right: b tells the answer so far -/
theorem tAnd0 : Cn w A g hot (allTrue .And [] env) fun _ v => v = true := .still (fun s Q E g0 l H hQ => wpAny_allTrue_And_nil (hQ s.toks)) fun _ _ => rfl
theorem tOr0 : Cn w A g hot (allTrue .Or [] env) fun _ v => v = false := .still (fun s Q E g0 l H hQ => wpAny_allTrue_Or_nil (hQ s.toks)) fun _ _ => rfl
theorem tAnd {x : Expr} {rest : List Expr} {b c : Bool} (h : Ts w A g hot x env b) (k : b = true → ∀ g1, Le g g1 → Cn w A g1 hot (allTrue .And rest env) fun _ v => v = c) : Cn w A g hot (allTrue .And (x :: rest) env) fun _ v => v = (b && c) := fun s Q E g0 l0 H hQ =>
  wpAny_allTrue_And_cons (h s _ E g0 l0 H fun u g1 h1 tk1 l1 H1 r1 => by
    subst r1
    cases u with
    | false => exact hQ false g1 h1 tk1 l1 H1 rfl
    | true => exact k rfl g1 (l0.tr l1) _ Q E g1 (Le.rf _) H1 fun v g2 h2 tk2 l2 H2 r2 => hQ v g2 h2 tk2 (l1.tr l2) H2 (by rw [r2]; rfl))
theorem tOr {x : Expr} {rest : List Expr} {b c : Bool} (h : Ts w A g hot x env b) (k : b = false → ∀ g1, Le g g1 → Cn w A g1 hot (allTrue .Or rest env) fun _ v => v = c) : Cn w A g hot (allTrue .Or (x :: rest) env) fun _ v => v = (b || c) := fun s Q E g0 l0 H hQ =>
  wpAny_allTrue_Or_cons (h s _ E g0 l0 H fun u g1 h1 tk1 l1 H1 r1 => by
    subst r1
    cases u with
    | true => exact hQ true g1 h1 tk1 l1 H1 rfl
    | false => exact k rfl g1 (l0.tr l1) _ Q E g1 (Le.rf _) H1 fun v g2 h2 tk2 l2 H2 r2 => hQ v g2 h2 tk2 (l1.tr l2) H2 (by rw [r2]; rfl))
theorem tBool {op : BoolOp} {values : List Expr} {R : Heap → Bool → Prop} (c : Cn w A g hot (allTrue op values env) R) : Cn w A g hot (isTrue (.BoolOp op values pos) env whole) R := fun s Q E g0 l0 H hQ =>
  wpAny_isTrue_BoolOp (c s Q E g0 l0 H hQ)

/-- and | or of bools, as values -/
theorem vAnd {x y : Expr} {R : Heap → Value → Prop} {b : Bool} (h : Cn w A g hot (eval x env) fun _ v => v = .bool b) (kf : b = false → ∀ g1, Le g g1 → R g1 (.bool false)) (k : b = true → ∀ g1, Le g g1 → Cn w A g1 hot (eval y env) R) :
    Cn w A g hot (eval (.BoolOp .And [x, y] pos) env) R := fun s Q E g0 l0 H hQ =>
  wpAny_And2 (h s _ E g0 l0 H fun u g1 h1 tk1 l1 H1 r1 => by
    subst r1
    refine wpAny_truthy_bool ?_
    cases b with
    | false => exact hQ _ g1 h1 tk1 l1 H1 (kf rfl g1 (l0.tr l1))
    | true => exact k rfl g1 (l0.tr l1) _ Q E g1 (Le.rf _) H1 fun v g2 h2 tk2 l2 H2 r2 => hQ v g2 h2 tk2 (l1.tr l2) H2 r2)
theorem vOr {x y : Expr} {R : Heap → Value → Prop} {b : Bool} (h : Cn w A g hot (eval x env) fun _ v => v = .bool b) (kf : b = true → ∀ g1, Le g g1 → R g1 (.bool true)) (k : b = false → ∀ g1, Le g g1 → Cn w A g1 hot (eval y env) R) :
    Cn w A g hot (eval (.BoolOp .Or [x, y] pos) env) R := fun s Q E g0 l0 H hQ =>
  wpAny_Or2 (h s _ E g0 l0 H fun u g1 h1 tk1 l1 H1 r1 => by
    subst r1
    refine wpAny_truthy_bool ?_
    cases b with
    | true => exact hQ _ g1 h1 tk1 l1 H1 (kf rfl g1 (l0.tr l1))
    | false => exact k rfl g1 (l0.tr l1) _ Q E g1 (Le.rf _) H1 fun v g2 h2 tk2 l2 H2 r2 => hQ v g2 h2 tk2 (l1.tr l2) H2 r2)
theorem ifexp {test body orelse : Expr} {R : Heap → Value → Prop} {b : Bool} (h : Ts w A g hot test env b) (kt : b = true → ∀ g1, Le g g1 → Cn w A g1 hot (eval body env) R) (kf : b = false → ∀ g1, Le g g1 → Cn w A g1 hot (eval orelse env) R) :
    Cn w A g hot (eval (.IfExp test body orelse pos) env) R := fun s Q E g0 l0 H hQ =>
  wpAny_IfExp (h s _ E g0 l0 H fun u g1 h1 tk1 l1 H1 r1 => by
    subst r1
    cases u with
    | true => exact kt rfl g1 (l0.tr l1) _ Q E g1 (Le.rf _) H1 fun v g2 h2 tk2 l2 H2 r2 => hQ v g2 h2 tk2 (l1.tr l2) H2 r2
    | false => exact kf rfl g1 (l0.tr l1) _ Q E g1 (Le.rf _) H1 fun v g2 h2 tk2 l2 H2 r2 => hQ v g2 h2 tk2 (l1.tr l2) H2 r2)
end

/-- statements: the frame's map and the hot objects may turn -/
def Em {α : Type} (w : World) (A : Around) (L : Addr) (g : Heap) (m : Loc) (hot : Hot) (t : Sem α) (R : α → Heap → Loc → Hot → Prop) : Prop :=
  ∀ (o : Obj), ObjNs o m → ∀ (s : Shared) (Q : α → Shared → Prop) (E : Value → Shared → Prop) (g0 : Heap), Le g g0 → At g0 ((L, o) :: hot) s.heap →
    (∀ v g1 m1 hot1 o1 h1 tk, Le g0 g1 → ObjNs o1 m1 → At g1 ((L, o1) :: hot1) h1 → R v g1 m1 hot1 → Q v { s with heap := h1, toks := tk }) → wpAny (MM w) A t Q E s
abbrev up (m : Loc) (x : Str) (v : Value) : Loc := fun y => if y = x then some v else m y

theorem wp_app {M : Model} {Γ : PySem.Ctx} {env : Env} {E : Value → Pos → Shared → Prop} (b : List Stmt) : ∀ (a : List Stmt) (Q : Flow → Pos → Shared → Prop) (p : Pos) (s : Shared), Sem.wp M Γ (execs (a ++ b) env) Q E p s →
    Sem.wp M Γ (execs a env) (fun f p' s' => match f with | .next => Sem.wp M Γ (execs b env) Q E p' s' | f => Q f p' s') E p s
  | [], Q, p, s, h => h
  | st :: r, Q, p, s, h => by
    rw [execs_cons, Sem.wp_bind']
    rw [List.cons_append, execs_cons, Sem.wp_bind'] at h
    refine Sem.wp_mono M Γ _ (fun f p' s' h' => ?_) (fun _ _ _ x => x) p s h
    cases f with
    | next => exact wp_app b r Q p' s' h'
    | _ => exact h'

section
variable {w : World} {A : Around} {g : Heap} {m : Loc} {hot : Hot} {env : Env} {pos : Pos} {R : Flow → Heap → Loc → Hot → Prop} {rest : List Stmt}
theorem Em.up {α : Type} {L : Addr} {t : Sem α} {R : α → Heap → Loc → Hot → Prop} {g' : Heap} (c : Em w A L g m hot t R) (l : Le g g') : Em w A L g' m hot t R := fun o hn s Q E g0 l0 => c o hn s Q E g0 (l.tr l0)
theorem eNil (r : ∀ g0, Le g g0 → R .next g0 m hot) : Em w A env.locals g m hot (execs [] env) R := fun o hn s Q E g0 l H hQ =>
  wpAny_execs_nil (hQ .next g0 m hot o s.heap s.toks (Le.rf _) hn H (r g0 l))
theorem eRet {e : Expr} {R1 : Heap → Value → Prop} (c : ∀ o, ObjNs o m → Cn w A g ((env.locals, o) :: hot) (eval e env) R1) (k : ∀ g1 v, Le g g1 → R1 g1 v → R (.ret v) g1 m hot) :
    Em w A env.locals g m hot (execs (.Return (some e) pos :: rest) env) R := fun o hn s Q E g0 l H hQ =>
  wpAny_execs_cons (wpAny_Return_some (c o hn s _ E g0 l H fun v g1 h1 tk l1 H1 r1 => hQ (.ret v) g1 m hot o h1 tk l1 hn H1 (k g1 v (l.tr l1) r1)))
theorem store {x : Str} {v : Value} {o : Obj} {g0 : Heap} {s : Shared} {Q : Unit → Shared → Prop} {E : Value → Shared → Prop} (hn : ObjNs o m) (H : At g0 ((env.locals, o) :: hot) s.heap)
    (h : ∀ o' h' tk, ObjNs o' (up m x v) → At g0 ((env.locals, o') :: hot) h' → Q () { s with heap := h', toks := tk })
    (hl : env.kindOf x = some .local := by rfl) (hp : (env.scope.kind == .class || (env.scope.kind == .module && env.locals != env.globals)) = false := by rfl) : wpAny (MM w) A (storeName env x v) Q E s :=
  wpAny_storeName_local hl (hn.ns (H.on _ (.head _))) (fun h' hns hsb => by
    obtain ⟨o', e, hn'⟩ := ObjNs.of hns
    exact h o' h' _ hn' (H.set hsb e)) hp
theorem eAsg {x : Str} {np : Pos} {e : Expr} {R1 : Heap → Value → Prop} (c : ∀ o, ObjNs o m → Cn w A g ((env.locals, o) :: hot) (eval e env) R1)
    (k : ∀ g1 v, Le g g1 → R1 g1 v → Em w A env.locals g1 (up m x v) hot (execs rest env) R)
    (hs : swapsWith e (some (.Name x np)) pos.line env = pure false := by rfl) (hl : env.kindOf x = some .local := by rfl) (hp : (env.scope.kind == .class || (env.scope.kind == .module && env.locals != env.globals)) = false := by rfl) :
    Em w A env.locals g m hot (execs (.Assign [.Name x np] e pos :: rest) env) R := fun o hn s Q E g0 l H hQ =>
  wpAny_execs_cons (wpAny_Assign_Name (c o hn s _ E g0 l H fun v g1 h1 tk l1 H1 r1 => store hn H1 (fun o' h' tk' hn' H' =>
    k g1 v (l.tr l1) r1 o' hn' _ Q E g1 (Le.rf _) H' fun f g2 m2 hot2 o2 h2 tk2 l2 hn2 H2 r2 => hQ f g2 m2 hot2 o2 h2 tk2 (l1.tr l2) hn2 H2 r2) hl hp) hs)
theorem eIf {test : Expr} {body orelse : List Stmt} {b : Bool} (c : ∀ o, ObjNs o m → Ts w A g ((env.locals, o) :: hot) test env b)
    (kt : b = true → ∀ g1, Le g g1 → Em w A env.locals g1 m hot (execs (body ++ rest) env) R) (kf : b = false → ∀ g1, Le g g1 → Em w A env.locals g1 m hot (execs (orelse ++ rest) env) R) :
    Em w A env.locals g m hot (execs (.If test body orelse pos :: rest) env) R := fun o hn s Q E g0 l H hQ Γ p hΓ => by
  rw [execs_cons, Sem.wp_bind', exec_If]
  simp only [Sem.wp_bind', Sem.wp_cmd_standAt]
  refine Sem.wp_mono (MM w) Γ _ (fun u p2 s2 h2 => ?_) (fun _ _ _ x => x) _ _ (c o hn s (fun u s2 => (∃ g1 h1 tk, Le g0 g1 ∧ At g1 ((env.locals, o) :: hot) h1 ∧ u = b ∧ s2 = { s with heap := h1, toks := tk })) E g0 l H (fun u g1 h1 tk l1 H1 r1 => ⟨g1, h1, tk, l1, H1, r1, rfl⟩) Γ _ hΓ)
  obtain ⟨g1, h1, tk, l1, H1, rfl, rfl⟩ := h2
  cases u with
  | true => rw [if_pos rfl]; exact Sem.wp_mono (MM w) Γ _ (fun f p' s' h' => by cases f <;> exact h') (fun _ _ _ x => x) _ _ <| wp_app rest body _ _ _ (kt rfl g1 (l.tr l1) o hn { s with heap := h1, toks := tk } Q E g1 (Le.rf _) H1 (fun f g2 m2 hot2 o2 h2 tk2 l2 hn2 H2 r2 => hQ f g2 m2 hot2 o2 h2 tk2 (l1.tr l2) hn2 H2 r2) Γ p2 hΓ)
  | false => rw [if_neg (by decide)]; exact Sem.wp_mono (MM w) Γ _ (fun f p' s' h' => by cases f <;> exact h') (fun _ _ _ x => x) _ _ <| wp_app rest orelse _ _ _ (kf rfl g1 (l.tr l1) o hn { s with heap := h1, toks := tk } Q E g1 (Le.rf _) H1 (fun f g2 m2 hot2 o2 h2 tk2 l2 hn2 H2 r2 => hQ f g2 m2 hot2 o2 h2 tk2 (l1.tr l2) hn2 H2 r2) Γ p2 hΓ)
end
end Mine

/-! Lg4 -/
open PySem PySem.W PyProof.Rows PySem.Spec PySem.Calls
set_option maxRecDepth 100000
set_option linter.unusedVariables false
namespace Mine

section
variable {w : World} {A : Around} {g : Heap} {hot : Hot} {f : Addr} {fo : Obj} {fd : FuncData} {body : List Stmt} {binds : List (Str × Value)} {vs : List Value} {R : Heap → Value → Prop}
theorem enter (W : Wd w g) (ho : (KK w.params).lookup f = some fo) (hd : fo.data = .func fd) (hb : fd.body = .stmts body) (hcd : codeIn (KK w.params) fd.code fd.qualname = true) (hbind : bindArgs fd ⟨vs, []⟩ = pure binds)
    (hroom : A.depth < recursionLimit)
    (k : ∀ L, Em w (A.deeper (callEnv fd L f)) (callEnv fd L f).locals g (fun x => binds.reverse.lookup x) hot (execs body (callEnv fd L f)) fun fl g1 m1 hot1 => ∃ ex, hot1 = ex ++ hot ∧ R g1 (match fl with | .ret v => v | _ => .none))
    (hcell : ∀ x ∈ fd.scope.names, x.2 ≠ .cell) (hloc : ∀ x ∈ binds, fd.scope.names.lookup x.1 = some .local)
    (hco : fd.scope.isCoroutine = false := by rfl) (hgen : fd.scope.isGenerator = false := by rfl) (hk : fd.scope.kind = .function := by rfl) : Cn w A g hot (call (.ref f) vs) R := fun s Q E g0 l H hQ => by
  refine wpAny_call (codeAny_call_def hroom ((l.tr H.keep) _ _ (W.X _ _ ho)) hd ((limit_ns w W).keeps (l.tr H.keep)) (codeRec_of (fun a o e => (l.tr H.keep) _ _ (W.X a o e)) hcd) hb (BindsTo.of_eq hbind) hcell hloc (fun h0 hns hk0 => ?_) hco hgen hk)
  obtain ⟨o, ho', hn⟩ := ObjNs.of hns
  have H' := H.grow hk0
  have H0 : At g0 ((s.heap.objs.size, o) :: hot) h0 := by
    refine ⟨H'.keep, fun p hp => ?_, fun p hp => ?_, ?_⟩
    · rcases List.mem_cons.mp hp with rfl | hp
      · exact ho'
      · exact H'.on p hp
    · rcases List.mem_cons.mp hp with rfl | hp
      · cases q : g0.get? s.heap.objs.size with
        | none => rfl
        | some o' => have := H.keep _ _ q; rw [get_size] at this; cases this
      · exact H'.sep p hp
    · rw [List.map_cons]
      exact List.nodup_cons.mpr ⟨H.notLt (get_size _), H.nd⟩
  refine k _ o hn _ _ _ g0 l H0 fun fl g1 m1 hot1 o1 h1 tk l1 hn1 H1 r1 => ?_
  obtain ⟨ex, rfl, r1⟩ := r1
  refine hQ _ g1 h1 tk l1 ?_ r1
  have H2 := H1.drop
  clear H1 hn1 hQ k
  induction ex with
  | nil => exact H2
  | cons p ex ih => exact ih H2.drop
end

section
variable {w : World} {A : Around} {g : Heap} {hot : Hot} {env : Env} {pos np : Pos}
/-- an attribute of an object of its own dict -/
theorem attrOwn {pa da C : Addr} {es : List DictEntry} {n : Nat} {name : Str} {v : Value} {attr : Option Value} (W : Wd w g) (hp : (pa, instObj C da) ∈ hot) (hd : (da, dictOf es n) ∈ hot)
    (hg : plainGet (KK w.params) C name = true) (hh : hasDictIn (KK w.params) C = true) (ha : findIn (KK w.params) (.ref C) name = some attr) (hng : noGet (KK w.params) attr = true) (hl : getL name es = some (some v)) (hv : handedIn v = true) :
    Cn w A g hot (getAttr (.ref pa) name true) fun _ u => u = v :=
  .still (fun s Q E g0 l H hQ => get_value (fun a o e => (l.tr H.keep) _ _ (W.X a o e)) ⟨H.on _ hp, rfl, rfl, H.on _ hd⟩ (plainGet_of hg).1 (findObj_own (od := dictOf es n) hh ha hng hl) hv (hQ _)) fun _ _ => rfl
theorem attrNm {x attr : Str} {R R1 : Heap → Value → Prop} (c : Cn w A g hot (eval (.Name x np) env) R1) (k : ∀ g1 v, Le g g1 → R1 g1 v → Cn w A g1 hot (getAttr v attr true) R)
    (he : eval (.Attribute (.Name x np) attr pos) env = (do
      let o ← eval (.Name x np) env
      standAt pos.atName
      let r ← holding [o] (getAttr o attr true)
      letTemporaryGo (.Name x np) o r
      pure r) := by with_unfolding_all rfl) : Cn w A g hot (eval (.Attribute (.Name x np) attr pos) env) R := fun s Q E g0 l H hQ =>
  Attribute_Name_ (c s _ E g0 l H fun v g1 h1 tk l1 H1 r1 => k g1 v (l.tr l1) r1 _ _ E g1 (Le.rf _) H1 fun u g2 h2 tk2 l2 H2 r2 => hQ u g2 h2 tk2 (l1.tr l2) H2 r2) he
end
end Mine

/-! Lg5 -/
open PySem PySem.W PyProof.Rows PySem.Spec PySem.Calls
set_option maxRecDepth 100000
set_option linter.unusedVariables false
namespace Mine

theorem At.sub {g h : Heap} {hot hot' : Hot} (H : At g hot h) (q : hot'.Sublist hot) : At g hot' h :=
  ⟨H.keep, fun p hp => H.on p (q.mem hp), fun p hp => H.sep p (q.mem hp), (q.map _).nodup H.nd⟩
theorem At.setAt {g h h' : Heap} {l1 l2 : Hot} {a : Addr} {o o' : Obj} (H : At g (l1 ++ (a, o) :: l2) h) (hs : Heap.SameBut a h h') (e : h'.get? a = some o') : At g (l1 ++ (a, o') :: l2) h' :=
  ((H.perm List.perm_middle).set hs e).perm List.perm_middle.symm

def IsI (i : Int) (v : Value) : Prop := ∃ t, v = .int i t
theorem IsI.rd {i : Int} {v : Value} (x : IsI i v) (g : Heap) : Rd g v (.int i) := by obtain ⟨t, rfl⟩ := x; exact ⟨_, .int i t⟩
theorem Rd.int {g : Heap} {v : Value} {i : Int} (r : Rd g v (.int i)) : IsI i v := by obtain ⟨as, x⟩ := r; obtain ⟨t, rfl, _⟩ := reads_int_inv x; exact ⟨t, rfl⟩

def HasL (g : Heap) (hot : Hot) (a : Addr) (vs : List Value) : Prop := (∃ n, (a, listO vs n) ∈ hot) ∨ g.IsList a vs.toArray
theorem HasL.at {g g0 h : Heap} {hot : Hot} {a : Addr} {vs : List Value} (e : HasL g hot a vs) (l : Le g g0) (H : At g0 hot h) : h.IsList a vs.toArray := by
  rcases e with ⟨n, e⟩ | ⟨o, ho, r⟩
  · exact ⟨_, H.on _ e, rfl, n, rfl⟩
  · exact ⟨o, (l.tr H.keep) _ _ ho, r⟩
theorem HasL.up {g g0 : Heap} {hot : Hot} {a : Addr} {vs : List Value} (e : HasL g hot a vs) (l : Le g g0) : HasL g0 hot a vs := e.imp id fun ⟨o, ho, r⟩ => ⟨o, l _ _ ho, r⟩
theorem HasL.of {g : Heap} {hot : Hot} {a : Addr} {vs : List Value} {n : Nat} (e : g.get? a = some (listO vs n)) : HasL g hot a vs := .inr ⟨_, e, rfl, n, rfl⟩
def HasT (g : Heap) (a : Addr) (vs : List Value) : Prop := g.IsTuple a vs.toArray
theorem HasT.at {g g0 h : Heap} {hot : Hot} {a : Addr} {vs : List Value} (e : HasT g a vs) (l : Le g g0) (H : At g0 hot h) : h.IsTuple a vs.toArray := by
  obtain ⟨o, ho, r⟩ := e
  exact ⟨o, (l.tr H.keep) _ _ ho, r⟩
theorem HasT.up {g g0 : Heap} {a : Addr} {vs : List Value} (e : HasT g a vs) (l : Le g g0) : HasT g0 a vs := let ⟨o, ho, r⟩ := e; ⟨o, l _ _ ho, r⟩
theorem HasT.of {g : Heap} {a : Addr} {vs : List Value} {n : Nat} (e : g.get? a = some (tupO vs n)) : HasT g a vs := ⟨_, e, rfl, n, rfl⟩
theorem Rd.listInv {g : Heap} {v : Value} {ds : List PyData} (r : Rd g v (.list ds)) : ∃ a vs, v = .ref a ∧ g.IsList a vs.toArray ∧ RdAll g vs ds := by
  obtain ⟨as, x⟩ := r
  cases x with
  | list ho hc hd hr => exact ⟨_, _, rfl, ⟨_, ho, hc, _, by rw [hd, Array.toArray_toList]⟩, _, hr⟩
theorem Rd.tupInv {g : Heap} {v : Value} {ds : List PyData} (r : Rd g v (.tuple ds)) : ∃ a vs, v = .ref a ∧ HasT g a vs ∧ RdAll g vs ds := by
  obtain ⟨as, x⟩ := r
  cases x with
  | tuple ho hc hd hr => exact ⟨_, _, rfl, ⟨_, ho, hc, _, by rw [hd, Array.toArray_toList]⟩, _, hr⟩
theorem Rd.ofList {g : Heap} {a : Addr} {vs : List Value} {ds : List PyData} (h : g.IsList a vs.toArray) (r : RdAll g vs ds) : Rd g (.ref a) (.list ds) := by
  obtain ⟨o, ho, hc, n, hd⟩ := h
  obtain ⟨as, x⟩ := r
  exact ⟨_, .list ho hc hd (by simpa using x)⟩
theorem Rd.ofTup {g : Heap} {a : Addr} {vs : List Value} {ds : List PyData} (h : HasT g a vs) (r : RdAll g vs ds) : Rd g (.ref a) (.tuple ds) := by
  obtain ⟨o, ho, hc, n, hd⟩ := h
  obtain ⟨as, x⟩ := r
  exact ⟨_, .tuple ho hc hd (by simpa using x)⟩
theorem Rd.strInv {g : Heap} {v : Value} {x : Str} (r : Rd g v (.str x)) : ∃ t, v = .str x t := by obtain ⟨as, y⟩ := r; obtain ⟨t, rfl, _⟩ := reads_str_inv y; exact ⟨t, rfl⟩
theorem Rd.ofStr {g : Heap} {x : Str} {t : Tok} : Rd g (.str x t) (.str x) := ⟨_, .str x t⟩
theorem RdAll.get {g : Heap} {vs : List Value} {ds : List PyData} (r : RdAll g vs ds) {i : Nat} {d : PyData} (e : ds[i]? = some d) : ∃ v, vs[i]? = some v ∧ Rd g v d := by
  induction ds generalizing vs i with
  | nil => simp at e
  | cons d' ds ih =>
    obtain ⟨v, ws, rfl, h1, h2⟩ := r.inv
    cases i with
    | zero => simp at e; subst e; exact ⟨v, rfl, h1⟩
    | succ i => exact ih h2 (by simpa using e)
theorem RdAll.snoc {g : Heap} {vs : List Value} {ds : List PyData} {v : Value} {d : PyData} (r : RdAll g vs ds) (q : Rd g v d) : RdAll g (vs ++ [v]) (ds ++ [d]) := by
  induction ds generalizing vs with
  | nil =>
    have := r.length
    have : vs = [] := List.length_eq_zero_iff.mp (by simpa using this)
    subst this
    exact RdAll.cons q RdAll.nil
  | cons d' ds ih =>
    obtain ⟨u, ws, rfl, h1, h2⟩ := r.inv
    exact RdAll.cons h1 (ih h2)

section
variable {w : World} {A : Around} {g : Heap} {hot : Hot} {a b : Int} {u v : Value}
theorem oAdd (x : IsI a u) (y : IsI b v) : Cn w A g hot (binaryOp .Add u v) fun _ r => IsI (a + b) r := by
  obtain ⟨t, rfl⟩ := x; obtain ⟨t', rfl⟩ := y
  exact fun s Q E g0 l H hQ => add_int (hQ _ g0 s.heap _ (Le.rf _) H ⟨_, rfl⟩)
theorem oSub (x : IsI a u) (y : IsI b v) : Cn w A g hot (binaryOp .Sub u v) fun _ r => IsI (a - b) r := by
  obtain ⟨t, rfl⟩ := x; obtain ⟨t', rfl⟩ := y
  exact fun s Q E g0 l H hQ => sub_int (hQ _ g0 s.heap _ (Le.rf _) H ⟨_, rfl⟩)
theorem oMul (x : IsI a u) (y : IsI b v) (hm : IntMulOk a b) : Cn w A g hot (binaryOp .Mult u v) fun _ r => IsI (a * b) r := by
  obtain ⟨t, rfl⟩ := x; obtain ⟨t', rfl⟩ := y
  exact fun s Q E g0 l H hQ => mul_int (hQ _ g0 s.heap _ (Le.rf _) H ⟨_, rfl⟩) hm
theorem oDiv (x : IsI a u) (y : IsI b v) (hb : b ≠ 0) (hp : Builtin.divisionGoesByPylong a b = false) : Cn w A g hot (binaryOp .FloorDiv u v) fun _ r => IsI (a.fdiv b) r := by
  obtain ⟨t, rfl⟩ := x; obtain ⟨t', rfl⟩ := y
  exact fun s Q E g0 l H hQ => floordiv_int hb (hQ _ g0 s.heap _ (Le.rf _) H ⟨_, rfl⟩) (Or.inl hp)
theorem cLt (x : IsI a u) (y : IsI b v) : Cn w A g hot (compareOp .Lt u v) fun _ r => r = .bool (decide (a < b)) := by
  obtain ⟨t, rfl⟩ := x; obtain ⟨t', rfl⟩ := y
  exact fun s Q E g0 l H hQ => lt_int (hQ _ g0 s.heap s.toks (Le.rf _) H rfl)
theorem cLe (x : IsI a u) (y : IsI b v) : Cn w A g hot (compareOp .LtE u v) fun _ r => r = .bool (decide (a ≤ b)) := by
  obtain ⟨t, rfl⟩ := x; obtain ⟨t', rfl⟩ := y
  exact fun s Q E g0 l H hQ => le_int (hQ _ g0 s.heap s.toks (Le.rf _) H rfl)
theorem cGt (x : IsI a u) (y : IsI b v) : Cn w A g hot (compareOp .Gt u v) fun _ r => r = .bool (decide (a > b)) := by
  obtain ⟨t, rfl⟩ := x; obtain ⟨t', rfl⟩ := y
  exact fun s Q E g0 l H hQ => gt_int (hQ _ g0 s.heap s.toks (Le.rf _) H rfl)
theorem cEq (x : IsI a u) (y : IsI b v) : Cn w A g hot (compareOp .Eq u v) fun _ r => r = .bool (a == b) := by
  obtain ⟨t, rfl⟩ := x; obtain ⟨t', rfl⟩ := y
  exact fun s Q E g0 l H hQ => eq_int (hQ _ g0 s.heap s.toks (Le.rf _) H rfl)
theorem cNe (x : IsI a u) (y : IsI b v) : Cn w A g hot (compareOp .NotEq u v) fun _ r => r = .bool (a != b) := by
  obtain ⟨t, rfl⟩ := x; obtain ⟨t', rfl⟩ := y
  exact fun s Q E g0 l H hQ => ne_int (hQ _ g0 s.heap s.toks (Le.rf _) H rfl)
/-- len of a list -/
theorem bLen {a : Addr} {vs : List Value} (e : HasL g hot a vs) (hz : vs.length < 2 ^ 62) : Cn w A g hot (call (.builtin "len") [.ref a]) fun _ r => IsI vs.length r := fun s Q E g0 l H hQ => by
  have hl : s.heap.IsList a vs.toArray := e.at l H
  exact PyProof.Rows.len_list hl (by simp; omega) (by simpa using hQ (.int vs.length _) g0 s.heap _ (Le.rf _) H ⟨_, rfl⟩)
/-- an item of a list, of a tuple -/
theorem iList {value slice : Expr} {a : Addr} {vs : List Value} {k : Int} {i x : Value} (e : HasL g hot a vs) (hi : IsI k i) (h0 : 0 ≤ k) (hz : k < 2 ^ 62) (hx : vs[k.toNat]? = some x)
    (hs : ∀ u, subscripted slice false (.ref a) (.int k u) = operate [.ref a, .int k u] (getItem (.ref a) (.int k u)) := by intro _; with_unfolding_all rfl) : Cn w A g hot (subscriptTail value slice (.ref a) i) fun _ r => r = x := by
  obtain ⟨t, rfl⟩ := hi
  refine fun s Q E g0 l H hQ => ?_
  have hl : s.heap.IsList a vs.toArray := e.at l H
  exact tail_any hl.typeIs slot_list_getitem.lookup (wpAny_getItem_list hl h0 (by omega) (by simpa using hx) (hQ x g0 s.heap s.toks (Le.rf _) H rfl)) (hs t)
theorem iTup {value slice : Expr} {a : Addr} {vs : List Value} {k : Int} {i x : Value} (e : HasT g a vs) (hi : IsI k i) (h0 : 0 ≤ k) (hz : k < 2 ^ 62) (hx : vs[k.toNat]? = some x)
    (hs : ∀ u, subscripted slice false (.ref a) (.int k u) = operate [.ref a, .int k u] (getItem (.ref a) (.int k u)) := by intro _; with_unfolding_all rfl) : Cn w A g hot (subscriptTail value slice (.ref a) i) fun _ r => r = x := by
  obtain ⟨t, rfl⟩ := hi
  refine fun s Q E g0 l H hQ => ?_
  have hl : IsTup s.heap a vs.toArray := e.at l H
  have hlt : k.toNat < vs.length := (List.getElem?_eq_some_iff.mp hx).1
  refine item_tupleT hl (by omega) (by omega) (j := k.toNat) ?_ (by simpa using hx) (hQ x g0 s.heap s.toks (Le.rf _) H rfl) (hs t)
  unfold seqIndex?
  have h1 : ¬ k < 0 := by omega
  simp [h1]
  omega
end

section
variable {w : World} {A : Around} {g : Heap} {hot : Hot} {env : Env} {pos : Pos} {x : Str} {v : Value} {m : Loc} {o : Obj}
theorem nV (hm : (env.locals, o) ∈ hot) (hn : ObjNs o m) (hv : m x = some v)
    (hk : env.scope.kind = .function := by rfl) (hl : env.kindOf x = some .local := by rfl) (hd : (x == ("__debug__" : Str)) = false := by decide) : Cn w A g hot (eval (.Name x pos) env) fun _ u => u = v := nm hm hn hv (fun _ _ => rfl) hk hl hd
theorem cI {i : Int} {k : Nat} : Cn w A g hot (eval (.Constant (.int i) k pos) env) fun _ u => IsI i u := kInt fun _ _ _ => ⟨_, rfl⟩
theorem cS {i : Str} {k : Nat} : Cn w A g hot (eval (.Constant (.str i) k pos) env) fun _ u => ∃ t, u = .str i t := kStr fun _ _ _ => ⟨_, rfl⟩
theorem cB {i : Bool} {k : Nat} : Cn w A g hot (eval (.Constant (.bool i) k pos) env) fun _ u => u = .bool i := kBool fun _ _ => rfl
abbrev Mono (R : Heap → Value → Prop) : Prop := ∀ g g' v, Le g g' → R g v → R g' v
theorem arg1 {e : Expr} {R1 : Heap → Value → Prop} (c : Cn w A g hot (eval e env) R1) (mono : Mono R1 := by first | exact fun _ _ _ _ h => h | exact fun _ _ _ l h => Rd.mono h l) (he : starEach [e] env = [(false, eval e env)] := by rfl) :
    Cn w A g hot (spliced (backTo pos (starEach [e] env))) fun g' vs => ∃ a, vs = [a] ∧ R1 g' a :=
  args1 c (fun g1 v l r => args0 (S := fun g2 vs => ∃ a, v :: vs = [a] ∧ R1 g2 a) fun g2 l2 => ⟨v, rfl, mono _ _ _ l2 r⟩) he
theorem arg2 {e e2 : Expr} {R1 R2 : Heap → Value → Prop} (c : Cn w A g hot (eval e env) R1) (c2 : ∀ g1, Le g g1 → Cn w A g1 hot (eval e2 env) R2) (mono : Mono R1 := by first | exact fun _ _ _ _ h => h | exact fun _ _ _ l h => Rd.mono h l) (mono2 : Mono R2 := by first | exact fun _ _ _ _ h => h | exact fun _ _ _ l h => Rd.mono h l)
    (he : starEach [e, e2] env = [(false, eval e env), (false, eval e2 env)] := by rfl) (he2 : starEach [e2] env = [(false, eval e2 env)] := by rfl) :
    Cn w A g hot (spliced (backTo pos (starEach [e, e2] env))) fun g' vs => ∃ a b, vs = [a, b] ∧ R1 g' a ∧ R2 g' b :=
  args1 c (fun g1 v l r => fun s Q E g0 l0 H hQ => arg1 (c2 g1 l) mono2 he2 s Q E g0 l0 H fun vs g2 h2 tk l2 H2 r2 => hQ vs g2 h2 tk l2 H2 (by
    obtain ⟨b, rfl, r2⟩ := r2
    exact ⟨v, b, rfl, mono _ _ _ (l0.tr l2) r, r2⟩)) (he.trans (by rw [he2]))
theorem arg3 {e e2 e3 : Expr} {R1 R2 R3 : Heap → Value → Prop} (c : Cn w A g hot (eval e env) R1) (c2 : ∀ g1, Le g g1 → Cn w A g1 hot (eval e2 env) R2) (c3 : ∀ g1, Le g g1 → Cn w A g1 hot (eval e3 env) R3) (mono : Mono R1 := by first | exact fun _ _ _ _ h => h | exact fun _ _ _ l h => Rd.mono h l) (mono2 : Mono R2 := by first | exact fun _ _ _ _ h => h | exact fun _ _ _ l h => Rd.mono h l) (mono3 : Mono R3 := by first | exact fun _ _ _ _ h => h | exact fun _ _ _ l h => Rd.mono h l)
    (he : starEach [e, e2, e3] env = [(false, eval e env), (false, eval e2 env), (false, eval e3 env)] := by rfl) (he2 : starEach [e2, e3] env = [(false, eval e2 env), (false, eval e3 env)] := by rfl) (he3 : starEach [e3] env = [(false, eval e3 env)] := by rfl) :
    Cn w A g hot (spliced (backTo pos (starEach [e, e2, e3] env))) fun g' vs => ∃ a b c, vs = [a, b, c] ∧ R1 g' a ∧ R2 g' b ∧ R3 g' c :=
  args1 c (fun g1 v l r => fun s Q E g0 l0 H hQ => arg2 (c2 g1 l) (fun g2 l2 => c3 g2 (l.tr l2)) mono2 mono3 he2 he3 s Q E g0 l0 H fun vs g2 h2 tk l2 H2 r2 => hQ vs g2 h2 tk l2 H2 (by
    obtain ⟨b, c, rfl, r2, r3⟩ := r2
    exact ⟨v, b, c, rfl, mono _ _ _ (l0.tr l2) r, r2, r3⟩)) (he.trans (by rw [he2]))
end

section
variable {w : World} {A : Around} {g : Heap} {hot : Hot} {env : Env} {pos : Pos}
theorem subs {value slice : Expr} {R1 R2 R : Heap → Value → Prop} (c1 : Cn w A g hot (eval value env) R1) (c2 : ∀ g1 a, Le g g1 → R1 g1 a → Cn w A g1 hot (eval slice env) R2)
    (k : ∀ g1 g2 a b, Le g g1 → Le g1 g2 → R1 g1 a → R2 g2 b → Cn w A g2 hot (subscriptTail value slice a b) R) : Cn w A g hot (eval (.Subscript value slice pos) env) R := fun s Q E g0 l0 H hQ =>
  Subscript_ (c1 s _ E g0 l0 H fun a g1 h1 tk l1 H1 r1 => c2 g1 a (l0.tr l1) r1 _ _ E g1 (Le.rf _) H1 fun b g2 h2 tk2 l2 H2 r2 =>
    k g1 g2 a b (l0.tr l1) l2 r1 r2 _ _ E g2 (Le.rf _) H2 fun u g3 h3 tk3 l3 H3 r3 => hQ u g3 h3 tk3 ((l1.tr l2).tr l3) H3 r3)
/-- a tuple | a list display: a new object, frozen -/
theorem tupD {elts : List Expr} {k : Nat} {S : Heap → List Value → Prop} {R : Heap → Value → Prop} (c : Cn w A g hot (spliced (backTo pos (starEach elts env))) S) (hz : ∀ g1 vs, S g1 vs → vs.length ≤ 4096)
    (r : ∀ g1 g2 vs a, Le g g1 → Le g1 g2 → S g1 vs → g2.get? a = some (tupO vs 0) → R g2 (.ref a)) : Cn w A g hot (eval (.Tuple elts k pos) env) R := fun s Q E g0 l0 H hQ =>
  Tuple_ (c s _ E g0 l0 H fun vs g1 h1 tk l1 H1 r1 => by
    have hz' := hz g1 vs r1
    obtain ⟨g2, l2, e2, H2⟩ := H1.fresh (tupO vs 0)
    exact wpAny_newObj_type (hQ _ g2 _ tk (l1.tr l2) H2 (r g1 g2 vs _ (l0.tr l1) l2 r1 e2)) (by show vs.toArray.size ≤ sizeLine; rw [List.size_toArray]; exact Nat.le_trans hz' (by decide)))
theorem listD {elts : List Expr} {S : Heap → List Value → Prop} {R : Heap → Value → Prop} (c : Cn w A g hot (spliced (backTo pos (starEach elts env))) S) (hz : ∀ g1 vs, S g1 vs → vs.length ≤ 4096)
    (r : ∀ g1 g2 vs a, Le g g1 → Le g1 g2 → S g1 vs → g2.get? a = some (listO vs 0) → R g2 (.ref a)) : Cn w A g hot (eval (.List elts pos) env) R := fun s Q E g0 l0 H hQ =>
  List_ (c s _ E g0 l0 H fun vs g1 h1 tk l1 H1 r1 => by
    have hz' := hz g1 vs r1
    obtain ⟨g2, l2, e2, H2⟩ := H1.fresh (listO vs 0)
    exact wpAny_newObj_type (hQ _ g2 _ tk (l1.tr l2) H2 (r g1 g2 vs _ (l0.tr l1) l2 r1 e2)) (by show vs.toArray.size ≤ sizeLine; rw [List.size_toArray]; exact Nat.le_trans hz' (by decide)))

theorem tup2 {e e2 : Expr} {k : Nat} {R1 R2 : Heap → Value → Prop} (c : Cn w A g hot (eval e env) R1) (c2 : ∀ g1, Le g g1 → Cn w A g1 hot (eval e2 env) R2) (mono : Mono R1 := by first | exact fun _ _ _ _ h => h | exact fun _ _ _ l h => Rd.mono h l) (mono2 : Mono R2 := by first | exact fun _ _ _ _ h => h | exact fun _ _ _ l h => Rd.mono h l)
    (he : starEach [e, e2] env = [(false, eval e env), (false, eval e2 env)] := by rfl) (he2 : starEach [e2] env = [(false, eval e2 env)] := by rfl) :
    Cn w A g hot (eval (.Tuple [e, e2] k pos) env) fun g1 v => ∃ t a b n, v = .ref t ∧ g1.get? t = some (tupO [a, b] n) ∧ R1 g1 a ∧ R2 g1 b :=
  tupD (arg2 c c2 mono mono2 he he2) (fun _ vs ⟨a, b, e, _⟩ => by rw [e]; exact (by decide : 2 ≤ 4096)) fun g1 g2 vs t l1 l2 r e => by
    obtain ⟨a, b, rfl, r1, r2⟩ := r
    exact ⟨t, a, b, 0, rfl, e, mono _ _ _ l2 r1, mono2 _ _ _ l2 r2⟩

variable {m : Loc} {R : Flow → Heap → Loc → Hot → Prop} {rest : List Stmt}
/-- x, y = (a, b), stored the other way round -/
theorem eAsg2s {x y : Str} {elts : List Expr} {kk : Nat} {tp : Pos} {e : Expr} (S : Heap → Value → Value → Prop) (hh : A.handled = none) (c : ∀ o, ObjNs o m → Cn w A g ((env.locals, o) :: hot) (eval e env) fun g1 v => ∃ t a b n, v = .ref t ∧ g1.get? t = some (tupO [a, b] n) ∧ S g1 a b)
    (k : ∀ g1 a b, Le g g1 → S g1 a b → Em w A env.locals g1 (up (up m y b) x a) hot (execs rest env) R)
    (hs : swapsWithSole [.Tuple elts kk tp] e pos.line env = pure false := by rfl) (hw : swappedStores [.Tuple elts kk tp] e env = pure (some [x, y]) := by rfl)
    (hx : env.kindOf x = some .local := by rfl) (hy : env.kindOf y = some .local := by rfl) (hp : (env.scope.kind == .class || (env.scope.kind == .module && env.locals != env.globals)) = false := by rfl) :
    Em w A env.locals g m hot (execs (.Assign [.Tuple elts kk tp] e pos :: rest) env) R := fun o hn s Q E g0 l H hQ =>
  wpAny_execs_cons (Assign_Tuple_swapped (c o hn s _ E g0 l H fun v g1 h1 tk l1 H1 r1 => by
    obtain ⟨t, a, b, n, rfl, e1, r1⟩ := r1
    refine unpackItems_tuple hh (items := #[a, b]) ⟨_, H1.keep _ _ e1, rfl, n, rfl⟩ fun h' he => ?_
    have H2 := H1.extBut he
    show wpAny _ _ (assignInOrder [fun v => bindName env y v, fun v => bindName env x v] [b, a]) _ _ _
    refine wpAny_assignInOrder_more (bindName_ (store hn H2 (fun o2 h2 tk2 hn2 H2 => ?_) hy hp))
    refine wpAny_assignInOrder_more (bindName_ (store hn2 H2 (fun o3 h3 tk3 hn3 H3 => ?_) hx hp))
    refine wpAny_pure ?_
    exact k g1 a b (l.tr l1) r1 o3 hn3 _ Q E g1 (Le.rf _) H3 fun f g4 m4 hot4 o4 h4 tk4 l4 hn4 H4 r4 => hQ f g4 m4 hot4 o4 h4 tk4 (l1.tr l4) hn4 H4 r4) hs hw)

theorem Around.whileLoop {test : Expr} {body orelse : List Stmt} {env : Env} : A.under (.whileLoop test body orelse env) = A := Around.under_of_weight rfl rfl
/-- a while, by what holds at its head and a measure -/
theorem eWhile {test : Expr} {body : List Stmt} (I : Nat → Heap → Loc → Hot → Prop) (D : Heap → Loc → Hot → Prop) (n : Nat) (init : I n g m hot)
    (turn : ∀ n g1 m1 hot1, Le g g1 → I n g1 m1 hot1 → ∃ b, (∀ o, ObjNs o m1 → Ts w A g1 ((env.locals, o) :: hot1) test env b) ∧
      (b = true → ∀ g2, Le g1 g2 → Em w A env.locals g2 m1 hot1 (execs body env) fun fl g3 m3 hot3 => fl = .next ∧ ∃ n', n' < n ∧ I n' g3 m3 hot3) ∧ (b = false → ∀ g2, Le g1 g2 → D g2 m1 hot1))
    (k : ∀ g1 m1 hot1, Le g g1 → D g1 m1 hot1 → Em w A env.locals g1 m1 hot1 (execs rest env) R) : Em w A env.locals g m hot (execs (.While test body [] pos :: rest) env) R := fun o hn s Q E g0 l H hQ => by
  refine wpAny_execs_cons (wpAny_While ?_)
  refine codeAny_loop rfl (fun n s' => ∃ g1 m1 hot1 o1 h1 tk, s' = { s with heap := h1, toks := tk } ∧ Le g0 g1 ∧ ObjNs o1 m1 ∧ At g1 ((env.locals, o1) :: hot1) h1 ∧ ∃ gi, Le g gi ∧ Le gi g1 ∧ I n gi m1 hot1) (fun n s' hI => ?_) n ⟨g0, m, hot, o, s.heap, s.toks, rfl, Le.rf _, hn, H, g, Le.rf _, l, init⟩
  obtain ⟨g1, m1, hot1, o1, h1, tk, rfl, l1, hn1, H1, gi, li, lg, hI⟩ := hI
  rw [Around.whileLoop]
  show wpAny (MM w) A ((whileTurn test body [] env).onRaise fun x => do noteFrame x env; theTreesLotGoes x) _ _ _
  refine wpAny_onRaise ?_
  obtain ⟨b, c, kt, kf⟩ := turn n gi m1 hot1 li hI
  unfold whileTurn
  refine wpAny_bind (c o1 hn1 _ _ _ g1 lg H1 fun v g2 h2 tk2 l2 H2 r2 => ?_)
  subst r2
  cases v with
  | true =>
    rw [if_pos rfl]
    refine wpAny_bind (kt rfl g2 (lg.tr l2) o1 hn1 _ _ _ g2 (Le.rf _) H2 fun fl g3 m3 hot3 o3 h3 tk3 l3 hn3 H3 r3 => ?_)
    obtain ⟨rfl, n', hn', hI'⟩ := r3
    exact wpAny_pure ⟨rfl, n', hn', g3, m3, hot3, o3, h3, tk3, rfl, (l1.tr l2).tr l3, hn3, H3, g3, (li.tr lg).tr (l2.tr l3), Le.rf _, hI'⟩
  | false =>
    rw [if_neg (by decide)]
    refine wpAny_bind (wpAny_execs_nil (wpAny_pure ?_))
    exact k g2 m1 hot1 ((li.tr lg).tr l2) (kf rfl g2 (lg.tr l2)) o1 hn1 _ Q E g2 (Le.rf _) H2 fun f g4 m4 hot4 o4 h4 tk4 l4 hn4 H4 r4 => hQ f g4 m4 hot4 o4 h4 tk4 ((l1.tr l2).tr l4) hn4 H4 r4
end
end Mine

/-! Lg6 -/
open PySem PySem.W PyProof.Rows PySem.Spec PySem.Calls
set_option maxRecDepth 100000
set_option linter.unusedVariables false
namespace Mine

/-- an evaluation that makes new objects which stay hot -/
def Ch {α : Type} (w : World) (A : Around) (g : Heap) (hot : Hot) (t : Sem α) (R : Heap → Hot → α → Prop) : Prop :=
  ∀ (s : Shared) (Q : α → Shared → Prop) (E : Value → Shared → Prop) (g0 : Heap), Le g g0 → At g0 hot s.heap →
    (∀ v new g1 h1 tk, Le g0 g1 → At g1 (new ++ hot) h1 → R g1 new v → Q v { s with heap := h1, toks := tk }) → wpAny (MM w) A t Q E s
section
variable {α : Type} {w : World} {A : Around} {g g' : Heap} {hot : Hot} {env : Env} {pos : Pos}
theorem Ch.of {t : Sem α} {R : Heap → α → Prop} (c : Cn w A g hot t R) : Ch w A g hot t fun g1 new v => new = [] ∧ R g1 v := fun s Q E g0 l H hQ =>
  c s Q E g0 l H fun v g1 h1 tk l1 H1 r => hQ v [] g1 h1 tk l1 H1 ⟨rfl, r⟩
theorem Ch.imp {t : Sem α} {R R' : Heap → Hot → α → Prop} (c : Ch w A g hot t R) (h : ∀ g1 new v, Le g g1 → R g1 new v → R' g1 new v) : Ch w A g hot t R' := fun s Q E g0 l0 H hQ =>
  c s Q E g0 l0 H fun v new g1 h1 tk l1 H1 r => hQ v new g1 h1 tk l1 H1 (h g1 new v (l0.tr l1) r)
theorem chNil : Ch w A g hot (eval (.List [] pos) env) fun _ new v => ∃ a, v = .ref a ∧ new = [(a, listO [] 0)] := fun s Q E g0 l H hQ =>
  List_ (spliced_nil (wpAny_newObj_type (hQ _ [(s.heap.objs.size, listO [] 0)] g0 _ s.toks (Le.rf _) (H.push (listO [] 0)) ⟨_, rfl, rfl⟩) (by show (0 : Nat) ≤ sizeLine; omega)))
/-- (a, b) where the first may make hot objects -/
theorem tup2H {e e2 : Expr} {k : Nat} {R1 : Heap → Hot → Value → Prop} {R2 : Heap → Value → Prop} (c : Ch w A g hot (eval e env) R1) (c2 : ∀ g1 new, Le g g1 → Cn w A g1 (new ++ hot) (eval e2 env) R2)
    (mono : ∀ g1 g2 new v, Le g1 g2 → R1 g1 new v → R1 g2 new v := by exact fun _ _ _ _ _ h => h) (mono2 : Mono R2 := by first | exact fun _ _ _ _ h => h | exact fun _ _ _ l h => Rd.mono h l)
    (he : starEach [e, e2] env = [(false, eval e env), (false, eval e2 env)] := by rfl) :
    Ch w A g hot (eval (.Tuple [e, e2] k pos) env) fun g1 new v => ∃ t a b n, v = .ref t ∧ g1.get? t = some (tupO [a, b] n) ∧ R1 g1 new a ∧ R2 g1 b := fun s Q E g0 l H hQ => by
  refine Tuple_ ?_
  rw [he]
  refine spliced_cons (c s _ E g0 l H fun a new g1 h1 tk l1 H1 r1 => ?_)
  refine spliced_cons (c2 g1 new (l.tr l1) _ _ E g1 (Le.rf _) H1 fun b g2 h2 tk2 l2 H2 r2 => spliced_nil ?_)
  obtain ⟨g3, l3, e3, H3⟩ := H2.fresh (tupO [a, b] 0)
  exact wpAny_newObj_type (hQ _ new g3 _ _ ((l1.tr l2).tr l3) H3 ⟨_, a, b, 0, rfl, e3, mono _ _ _ _ (l2.tr l3) r1, mono2 _ _ _ l3 r2⟩) (by show (2 : Nat) ≤ sizeLine; decide)

variable {m : Loc} {R : Flow → Heap → Loc → Hot → Prop} {rest : List Stmt}
theorem At.front {h : Heap} {new : Hot} {p : Addr × Obj} (H : At g (new ++ p :: hot) h) : At g (p :: (new ++ hot)) h := H.perm List.perm_middle
theorem eAsgH {x : Str} {np : Pos} {e : Expr} {R1 : Heap → Hot → Value → Prop} (c : ∀ o, ObjNs o m → Ch w A g ((env.locals, o) :: hot) (eval e env) R1)
    (k : ∀ g1 new v, Le g g1 → R1 g1 new v → Em w A env.locals g1 (up m x v) (new ++ hot) (execs rest env) R)
    (hs : swapsWith e (some (.Name x np)) pos.line env = pure false := by rfl) (hl : env.kindOf x = some .local := by rfl) (hp : (env.scope.kind == .class || (env.scope.kind == .module && env.locals != env.globals)) = false := by rfl) :
    Em w A env.locals g m hot (execs (.Assign [.Name x np] e pos :: rest) env) R := fun o hn s Q E g0 l H hQ =>
  wpAny_execs_cons (wpAny_Assign_Name (c o hn s _ E g0 l H fun v new g1 h1 tk l1 H1 r1 => store hn H1.front (fun o' h' tk' hn' H' =>
    k g1 new v (l.tr l1) r1 o' hn' _ Q E g1 (Le.rf _) H' fun f g2 m2 hot2 o2 h2 tk2 l2 hn2 H2 r2 => hQ f g2 m2 hot2 o2 h2 tk2 (l1.tr l2) hn2 H2 r2) hl hp) hs)
theorem eAsg2sH {x y : Str} {elts : List Expr} {kk : Nat} {tp : Pos} {e : Expr} (S : Heap → Hot → Value → Value → Prop) (hh : A.handled = none) (c : ∀ o, ObjNs o m → Ch w A g ((env.locals, o) :: hot) (eval e env) fun g1 new v => ∃ t a b n, v = .ref t ∧ g1.get? t = some (tupO [a, b] n) ∧ S g1 new a b)
    (k : ∀ g1 new a b, Le g g1 → S g1 new a b → Em w A env.locals g1 (up (up m y b) x a) (new ++ hot) (execs rest env) R)
    (hs : swapsWithSole [.Tuple elts kk tp] e pos.line env = pure false := by rfl) (hw : swappedStores [.Tuple elts kk tp] e env = pure (some [x, y]) := by rfl)
    (hx : env.kindOf x = some .local := by rfl) (hy : env.kindOf y = some .local := by rfl) (hp : (env.scope.kind == .class || (env.scope.kind == .module && env.locals != env.globals)) = false := by rfl) :
    Em w A env.locals g m hot (execs (.Assign [.Tuple elts kk tp] e pos :: rest) env) R := fun o hn s Q E g0 l H hQ =>
  wpAny_execs_cons (Assign_Tuple_swapped (c o hn s _ E g0 l H fun v new g1 h1 tk l1 H1 r1 => by
    obtain ⟨t, a, b, n, rfl, e1, r1⟩ := r1
    refine unpackItems_tuple hh (items := #[a, b]) ⟨_, H1.keep _ _ e1, rfl, n, rfl⟩ fun h' he => ?_
    have H2 := (H1.extBut he).front
    show wpAny _ _ (assignInOrder [fun v => bindName env y v, fun v => bindName env x v] [b, a]) _ _ _
    refine wpAny_assignInOrder_more (bindName_ (store hn H2 (fun o2 h2 tk2 hn2 H2 => ?_) hy hp))
    refine wpAny_assignInOrder_more (bindName_ (store hn2 H2 (fun o3 h3 tk3 hn3 H3 => ?_) hx hp))
    refine wpAny_pure ?_
    exact k g1 new a b (l.tr l1) r1 o3 hn3 _ Q E g1 (Le.rf _) H3 fun f g4 m4 hot4 o4 h4 tk4 l4 hn4 H4 r4 => hQ f g4 m4 hot4 o4 h4 tk4 (l1.tr l4) hn4 H4 r4) hs hw)
/-- x.append(e), x a hot list -/
theorem eAppend {o : Expr} {elt : Expr} {apos cpos : Pos} {D : Addr} {vs : List Value} {n : Nat} {l1 l2 : Hot} {R1 : Heap → Value → Prop} (ho : ∀ ob, ObjNs ob m → Cn w A g ((env.locals, ob) :: (l1 ++ (D, listO vs n) :: l2)) (eval o env) fun _ u => u = .ref D)
    (c : ∀ ob, ObjNs ob m → ∀ g1, Le g g1 → Cn w A g1 ((env.locals, ob) :: (l1 ++ (D, listO vs n) :: l2)) (eval elt env) R1) (hz : vs.length ≤ 4096)
    (k : ∀ g1 v n', Le g g1 → R1 g1 v → Em w A env.locals g1 m (l1 ++ (D, listO (vs ++ [v]) n') :: l2) (execs rest env) R)
    (hbase : attributeBase o "append" env (eval o env) = eval o env := by rfl)
    (hfew : ((backTo cpos (starEach [elt] env)).all (fun x => !x.1) && (backToKw cpos (keywordEach [] env)).all (fun x => x.1.isSome)
      && decide (([elt] : List Expr).length + ([] : List Keyword).length + (if ([] : List Keyword).isEmpty then 0 else 1) < 30)) = true := by rfl)
    (hline : (apos.endLine == cpos.line) = true := by rfl)
    (htrees : backTo cpos (starEach [elt] env) = [(false, eval elt env)] := by rfl) (hi : interactive env = false := by rfl) (hs : swapsWith (.Call (.Attribute o "append" apos) [elt] [] cpos) none pos.line env = pure false := by rfl) :
    Em w A env.locals g m (l1 ++ (D, listO vs n) :: l2) (execs (.Expr (.Call (.Attribute o "append" apos) [elt] [] cpos) pos :: rest) env) R := fun ob hn s Q E g0 l H hQ => by
  refine wpAny_execs_cons (wpAny_Expr (wpAny_Call_append hbase hfew hline htrees (ho ob hn s _ E g0 l H fun u g1 h1 tk l1' H1 r1 => ?_)) hi hs)
  subst r1
  refine ⟨D, vs.toArray, rfl, ⟨_, n, H1.on _ (.tail _ (List.mem_append_right _ (.head _))), rfl, rfl, rfl⟩, ?_⟩
  refine c ob hn g1 (l.tr l1') _ _ E g1 (Le.rf _) H1 fun v g2 h2 tk2 l2' H2 r2 => ?_
  refine wpAny_list_append_plain ⟨n, H2.on _ (.tail _ (List.mem_append_right _ (.head _)))⟩ (fun h' hpl hsb => ?_) (by rw [List.size_toArray]; exact Nat.le_trans hz (by decide))
  obtain ⟨n', e'⟩ := hpl
  have e2 : vs.toArray.push v = (vs ++ [v]).toArray := by simp
  rw [e2] at e'
  have H3 : At g2 ((env.locals, ob) :: (l1 ++ (D, listO (vs ++ [v]) n') :: l2)) h' := At.setAt (l1 := (env.locals, ob) :: l1) H2 hsb e'
  exact k g2 v n' ((l.tr l1').tr l2') r2 ob hn _ Q E g2 (Le.rf _) H3 fun f g4 m4 hot4 o4 h4 tk4 l4 hn4 H4 r4 => hQ f g4 m4 hot4 o4 h4 tk4 ((l1'.tr l2').tr l4) hn4 H4 r4
end

/-- the iterators' own objects, looked up anew -/
theorem owned {h : Heap} : ∀ (wr : List Addr), (∀ b ∈ wr, ∃ o, h.get? b = some o) → ∃ its : Hot, its.map (·.1) = wr ∧ ∀ p ∈ its, h.get? p.1 = some p.2
  | [], _ => ⟨[], rfl, fun _ hp => nomatch hp⟩
  | b :: r, hx => by
    obtain ⟨o, ho⟩ := hx b (.head _)
    obtain ⟨its, e, hi⟩ := owned r fun c hc => hx c (.tail _ hc)
    refine ⟨(b, o) :: its, by rw [List.map_cons, e], fun p hp => ?_⟩
    rcases List.mem_cons.mp hp with rfl | hp
    · exact ho
    · exact hi p hp
theorem At.reown {g h h' : Heap} {its hot : Hot} {wr : List Addr} {p : Addr × Obj} (H : At g (p :: (its ++ hot)) h) (e : its.map (·.1) = wr) (k : ∀ b o, b ∉ wr → h.get? b = some o → h'.get? b = some o) (lv : ∀ b ∈ wr, ∃ o, h'.get? b = some o) :
    ∃ its', its'.map (·.1) = wr ∧ At g (p :: (its' ++ hot)) h' := by
  obtain ⟨its', e', hi⟩ := owned wr lv
  refine ⟨its', e', ?_⟩
  have nd := H.nd
  rw [List.map_cons, List.map_append, e] at nd
  have nd' : ((p :: (its' ++ hot)).map (·.1)).Nodup := by rw [List.map_cons, List.map_append, e']; exact nd
  have off : ∀ q ∈ p :: hot, q.1 ∉ wr := fun q hq hm => by
    rw [List.nodup_cons, List.nodup_append] at nd
    rcases List.mem_cons.mp hq with rfl | hq
    · exact nd.1 (List.mem_append_left _ hm)
    · exact nd.2.2.2 _ hm _ (List.mem_map_of_mem hq) rfl
  refine ⟨fun b o eb => k b o (fun hm => ?_) (H.keep _ _ eb), fun q hq => ?_, fun q hq => ?_, nd'⟩
  · rw [← e] at hm
    obtain ⟨q, hq, rfl⟩ := List.mem_map.mp hm
    rw [H.sep q (.tail _ (List.mem_append_left _ hq))] at eb; cases eb
  · rcases List.mem_cons.mp hq with rfl | hq
    · exact k _ _ (off _ (.head _)) (H.on _ (.head _))
    · rcases List.mem_append.mp hq with hq | hq
      · exact hi q hq
      · exact k _ _ (off _ (.tail _ hq)) (H.on _ (.tail _ (List.mem_append_right _ hq)))
  · rcases List.mem_cons.mp hq with rfl | hq
    · exact H.sep _ (.head _)
    · rcases List.mem_append.mp hq with hq | hq
      · have : q.1 ∈ wr := e' ▸ List.mem_map_of_mem hq
        rw [← e] at this
        obtain ⟨r, hr, hrq⟩ := List.mem_map.mp this
        rw [← hrq]; exact H.sep r (.tail _ (List.mem_append_left _ hr))
      · exact H.sep _ (.tail _ (List.mem_append_right _ hq))

/-- an iterator at hand: its own objects are hot, what else it reads is frozen or hot and kept -/
structure Itr (w : World) (A : Around) (g : Heap) (hot : Hot) (h : Heap) (it : Value) (n : Nat) (P : Nat → Value → Prop) (keep : Hot) : Prop where
  ex : ∃ I fp wr St its, it = .ref I ∧ Walks PP w A I fp wr n P St ∧ (∀ i h, St i h → ∀ b ∈ wr, ∃ o, h.get? b = some o) ∧ its.map (·.1) = wr ∧ At g (its ++ hot) h ∧ St 0 h ∧ ∀ b ∈ fp, b ∈ wr ∨ (∃ o, g.get? b = some o) ∨ ∃ o, (b, o) ∈ keep
structure ItrT (w : World) (A : Around) (g : Heap) (hot : Hot) (h : Heap) (it : Value) (n : Nat) (P : Nat → Value → Value → Prop) (keep : Hot) : Prop where
  ex : ∃ I fp wr Pt St Mid its, it = .ref I ∧ WalksT PP w A I fp wr n Pt St Mid ∧ (∀ i vals, Pt i vals → ∃ a b, vals = #[a, b] ∧ P i a b) ∧ (∀ i h, St i h → ∀ b ∈ wr, ∃ o, h.get? b = some o) ∧ its.map (·.1) = wr ∧ At g (its ++ hot) h ∧ St 0 h ∧ ∀ b ∈ fp, b ∈ wr ∨ (∃ o, g.get? b = some o) ∨ ∃ o, (b, o) ∈ keep
def It (w : World) (A : Around) (g : Heap) (hot : Hot) (t : Sem Value) (n : Nat) (P : Nat → Value → Prop) (keep : Hot) : Prop :=
  ∀ (s : Shared) (Q : Value → Shared → Prop) (E : Value → Shared → Prop) (g0 : Heap), Le g g0 → At g0 hot s.heap → (∀ it g1 h1 tk, Le g0 g1 → Itr w A g1 hot h1 it n P keep → Q it { s with heap := h1, toks := tk }) →
    wpAny (MM w) A t (fun x s1 => wpAny (MM w) A (pyIter x) Q E s1) E s
def ItT (w : World) (A : Around) (g : Heap) (hot : Hot) (t : Sem Value) (n : Nat) (P : Nat → Value → Value → Prop) (keep : Hot) : Prop :=
  ∀ (s : Shared) (Q : Value → Shared → Prop) (E : Value → Shared → Prop) (g0 : Heap), Le g g0 → At g0 hot s.heap → (∀ it g1 h1 tk, Le g0 g1 → ItrT w A g1 hot h1 it n P keep → Q it { s with heap := h1, toks := tk }) →
    wpAny (MM w) A t (fun x s1 => wpAny (MM w) A (pyIter x) Q E s1) E s

def ItX (w : World) (A : Around) (g : Heap) (hot : Hot) (t : Sem Value) (n : Nat) (S : Heap → (Nat → Value → Prop) → Prop) (keep : Hot) : Prop :=
  ∀ (s : Shared) (Q : Value → Shared → Prop) (E : Value → Shared → Prop) (g0 : Heap), Le g g0 → At g0 hot s.heap → (∀ it g1 h1 tk P, Le g0 g1 → S g1 P → Itr w A g1 hot h1 it n P keep → Q it { s with heap := h1, toks := tk }) →
    wpAny (MM w) A t (fun x s1 => wpAny (MM w) A (pyIter x) Q E s1) E s
theorem stKeep {St : Nat → Heap → Prop} {fp wr : List Addr} (frame : ∀ i h h', St i h → (∀ b ∈ fp, ∀ o, h.get? b = some o → h'.get? b = some o) → St i h') {g g' h h' : Heap} {C C' : Addr} {o o' : Obj} {its keep hot hot' : Hot} (ei : its.map (·.1) = wr)
    (H : At g ((C, o) :: (its ++ hot)) h) (H' : At g' ((C', o') :: (its ++ hot')) h') (l : Le g g') (hfp : ∀ b ∈ fp, b ∈ wr ∨ (∃ o, g.get? b = some o) ∨ ∃ o, (b, o) ∈ keep) (k1 : ∀ p ∈ keep, p ∈ hot) (k2 : ∀ p ∈ keep, p ∈ hot') {i : Nat} (st : St i h) : St i h' :=
  frame _ _ _ st fun b hb ob eb => by
    rcases hfp b hb with hw | ⟨ob', hg⟩ | ⟨ob', hkp⟩
    · have : b ∈ its.map (·.1) := ei ▸ hw
      obtain ⟨q, hq, rfl⟩ := List.mem_map.mp this
      have e1 := H.on q (.tail _ (List.mem_append_left _ hq))
      rw [eb] at e1
      have e2 := H'.on q (.tail _ (List.mem_append_left _ hq))
      rw [e2, e1]
    · have e1 := H.keep _ _ hg
      rw [eb] at e1
      rw [H'.keep _ _ (l _ _ hg), e1]
    · have e1 := H.on _ (.tail _ (List.mem_append_right _ (k1 _ hkp)))
      rw [eb] at e1
      have e2 := H'.on _ (.tail _ (List.mem_append_right _ (k2 _ hkp)))
      rw [e2, e1]

theorem sub3 {p : Addr × Obj} {its hot : Hot} : (p :: hot).Sublist (p :: (its ++ hot)) := List.Sublist.cons_cons _ (List.sublist_append_right _ _)
/-- the iterator's own objects fall away -/
theorem At.strip {g h h' : Heap} {C : Addr} {o : Obj} {its hot : Hot} {wr : List Addr} (ei : its.map (·.1) = wr) (H : At g ((C, o) :: (its ++ hot)) h) (k : ∀ b ob, b ∉ wr → h.get? b = some ob → h'.get? b = some ob) : At g ((C, o) :: hot) h' := by
  have H2 : At g ((C, o) :: hot) h := H.sub sub3
  have nd := H.nd
  rw [List.map_cons, List.map_append, ei, List.nodup_cons, List.nodup_append] at nd
  refine ⟨fun b ob eb => k b ob (fun hm => ?_) (H.keep _ _ eb), fun q hq => k _ _ (fun hm => ?_) (H2.on q hq), H2.sep, H2.nd⟩
  · rw [← ei] at hm
    obtain ⟨q, hq, rfl⟩ := List.mem_map.mp hm
    rw [H.sep q (.tail _ (List.mem_append_left _ hq))] at eb; cases eb
  · rcases List.mem_cons.mp hq with rfl | hq
    · exact nd.1 (List.mem_append_left _ hm)
    · exact nd.2.2.2 _ hm _ (List.mem_map_of_mem hq) rfl
/-- where a loop stands -/
inductive LoopI (s : Shared) (L : Addr) (g1 : Heap) (wr : List Addr) (St : Nat → Heap → Prop) (J : Nat → Heap → Loc → Hot → Prop) (n : Nat) : Nat → Shared → Prop where
  | mk (i : Nat) (g2 : Heap) (m2 : Loc) (hot2 its2 : Hot) (o2 : Obj) (h2 : Heap) (tk2 : Nat) (l : Le g1 g2) (hn : ObjNs o2 m2) (ei : its2.map (·.1) = wr) (H : At g2 ((L, o2) :: (its2 ++ hot2)) h2) (st : St i h2) (hJ : J i g2 m2 hot2) (hi : i ≤ n) :
      LoopI s L g1 wr St J n (n + 1 - i) { s with heap := h2, toks := tk2 }
theorem down {n i : Nat} (h : i < n) : n + 1 - (i + 1) < n + 1 - i := Nat.sub_succ_lt_self _ _ (Nat.lt_succ_of_lt h)
section
variable {w : World} {A : Around} {g : Heap} {m : Loc} {hot : Hot} {env : Env} {pos : Pos} {R : Flow → Heap → Loc → Hot → Prop} {rest : List Stmt}
theorem eForX {x : Str} {px : Pos} {iter : Expr} {body : List Stmt} {n : Nat} (keep : Hot) (S : Heap → (Nat → Value → Prop) → Prop) (J : Nat → Heap → Loc → Hot → Prop) (c : ∀ o, ObjNs o m → ItX w A g ((env.locals, o) :: hot) (eval iter env) n S keep)
    (j0 : ∀ g1, Le g g1 → J 0 g1 m hot) (hk : ∀ i g1 m1 hot1, J i g1 m1 hot1 → ∀ p ∈ keep, p ∈ hot1)
    (turn : ∀ gI P i g1 m1 hot1 v its, Le g gI → S gI P → Le gI g1 → i < n → J i g1 m1 hot1 → P i v → Em w A env.locals g1 (up m1 x v) (its ++ hot1) (execs body env) fun fl g2 m2 hot2 => (fl = .next ∨ fl = .cont) ∧ ∃ hot3, hot2 = its ++ hot3 ∧ J (i + 1) g2 m2 hot3)
    (k : ∀ g1 m1 hot1, Le g g1 → J n g1 m1 hot1 → Em w A env.locals g1 m1 hot1 (execs rest env) R)
    (hx : env.kindOf x = some .local := by rfl) (hp : (env.scope.kind == .class || (env.scope.kind == .module && env.locals != env.globals)) = false := by rfl)
    (hs : ∀ x, foldedSetIterable iter env x = pure x := by intro _; rfl) : Em w A env.locals g m hot (execs (.For (.Name x px) iter body [] pos :: rest) env) R := fun o hn s Q E g0 l H hQ => by
  refine wpAny_execs_cons (wpAny_For (c o hn s _ E g0 l H fun it g1 h1 tk P l1 hS hI => ?_) hs)
  obtain ⟨I, fp, wr, St, its, rfl, W, lv, ei, H1, hst, hfp⟩ := hI.ex
  refine codeAny_forLoop (LoopI s env.locals g1 wr St J n) ?_ (n + 1) (.mk 0 g1 m hot its o h1 tk (Le.rf _) hn ei H1.front hst (j0 g1 (l.tr l1)) (Nat.zero_le _))
  rintro k' s' ⟨i, g2, m2, hot2, its2, o2, h2, tk2, l2, hn2, ei2, H2, hst2, hJ, hi⟩
  by_cases hlt : i < n
  · refine W.item i _ _ _ hlt hst2 fun v h3 tk3 hP hst3 hk3 => ?_
    obtain ⟨its3, ei3, H3⟩ := H2.reown ei2 hk3 (lv _ _ hst3)
    refine wpAny_assign_Name (store hn2 H3 (fun o4 h4 tk4 hn4 H4 => ?_) hx hp)
    refine turn g1 P i g2 m2 hot2 v its3 (l.tr l1) hS l2 hlt hJ hP o4 hn4 _ _ _ g2 (Le.rf _) H4 fun fl g5 m5 hot5 o5 h5 tk5 l5 hn5 H5 r5 => ?_
    obtain ⟨hfl, hot6, rfl, hJ6⟩ := r5
    have fin : ∃ mm, mm < n + 1 - i ∧ LoopI s env.locals g1 wr St J n mm { s with heap := h5, toks := tk5 } := ⟨_, down hlt, .mk (i + 1) g5 m5 hot6 its3 o5 h5 tk5 (l2.tr l5) hn5 ei3 H5
      (stKeep W.frame ei3 H3 H5 l5 (fun b hb => (hfp b hb).imp id fun x => x.imp (fun ⟨o, e⟩ => ⟨o, l2 _ _ e⟩) id) (hk _ _ _ _ hJ) (hk _ _ _ _ hJ6) hst3) hJ6 hlt⟩
    rcases hfl with rfl | rfl
    · exact fin
    · exact fin
  · obtain rfl : i = n := Nat.le_antisymm hi (Nat.not_lt.mp hlt)
    refine W.done _ _ _ hst2 fun h3 tk3 hk3 => wpAny_execs_nil ?_
    exact k g2 m2 hot2 ((l.tr l1).tr l2) hJ o2 hn2 _ Q E g2 (Le.rf _) (H2.strip ei2 hk3) fun f g4 m4 hot4 o4 h4 tk4 l4 hn4 H4 r4 => hQ f g4 m4 hot4 o4 h4 tk4 ((l1.tr l2).tr l4) hn4 H4 r4
theorem eFor {x : Str} {px : Pos} {iter : Expr} {body : List Stmt} {n : Nat} {P : Nat → Value → Prop} (keep : Hot) (J : Nat → Heap → Loc → Hot → Prop) (c : ∀ o, ObjNs o m → It w A g ((env.locals, o) :: hot) (eval iter env) n P keep)
    (j0 : ∀ g1, Le g g1 → J 0 g1 m hot) (hk : ∀ i g1 m1 hot1, J i g1 m1 hot1 → ∀ p ∈ keep, p ∈ hot1)
    (turn : ∀ i g1 m1 hot1 v its, Le g g1 → i < n → J i g1 m1 hot1 → P i v → Em w A env.locals g1 (up m1 x v) (its ++ hot1) (execs body env) fun fl g2 m2 hot2 => (fl = .next ∨ fl = .cont) ∧ ∃ hot3, hot2 = its ++ hot3 ∧ J (i + 1) g2 m2 hot3)
    (k : ∀ g1 m1 hot1, Le g g1 → J n g1 m1 hot1 → Em w A env.locals g1 m1 hot1 (execs rest env) R)
    (hx : env.kindOf x = some .local := by rfl) (hp : (env.scope.kind == .class || (env.scope.kind == .module && env.locals != env.globals)) = false := by rfl)
    (hs : ∀ x, foldedSetIterable iter env x = pure x := by intro _; rfl) : Em w A env.locals g m hot (execs (.For (.Name x px) iter body [] pos :: rest) env) R :=
  eForX keep (fun _ P' => P' = P) J (fun o hn s Q E g0 l H hQ => c o hn s Q E g0 l H fun it g1 h1 tk l1 r => hQ it g1 h1 tk P l1 rfl r) j0 hk (fun gI P' i g1 m1 hot1 v its l hS l2 hi hJ hP => turn i g1 m1 hot1 v its (l.tr l2) hi hJ (hS ▸ hP)) k hx hp hs
/-- for over pairs: how the two targets are bound is told -/
theorem eForP {x y : Str} {px py tp : Pos} {kk : Nat} {iter : Expr} {body : List Stmt} {n : Nat} {P : Nat → Value → Value → Prop} (hh : A.handled = none) (keep : Hot) (J : Nat → Heap → Loc → Hot → Prop) (B : Loc → Hot → Value → Value → Loc → Hot → Prop) (c : ∀ o, ObjNs o m → ItT w A g ((env.locals, o) :: hot) (eval iter env) n P keep)
    (j0 : ∀ g1, Le g g1 → J 0 g1 m hot) (hk : ∀ i g1 m1 hot1, J i g1 m1 hot1 → ∀ p ∈ keep, p ∈ hot1)
    (bind : ∀ i g1 m1 hot1 its a b, Le g g1 → J i g1 m1 hot1 → Em w A env.locals g1 m1 (its ++ hot1) (assignInOrder [assign (.Name x px) env, assign (.Name y py) env] [a, b]) fun _ g2 m2 hot2 => ∃ hot3, hot2 = its ++ hot3 ∧ B m1 hot1 a b m2 hot3 ∧ ∀ p ∈ keep, p ∈ hot3)
    (turn : ∀ i g1 g2 m1 hot1 a b m2 hot2 its, Le g g1 → i < n → J i g1 m1 hot1 → P i a b → Le g1 g2 → B m1 hot1 a b m2 hot2 → Em w A env.locals g2 m2 (its ++ hot2) (execs body env) fun fl g2 m2 hot2 => (fl = .next ∨ fl = .cont) ∧ ∃ hot3, hot2 = its ++ hot3 ∧ J (i + 1) g2 m2 hot3)
    (k : ∀ g1 m1 hot1, Le g g1 → J n g1 m1 hot1 → Em w A env.locals g1 m1 hot1 (execs rest env) R)
    (hs : ∀ x, foldedSetIterable iter env x = pure x := by intro _; rfl) : Em w A env.locals g m hot (execs (.For (.Tuple [.Name x px, .Name y py] kk tp) iter body [] pos :: rest) env) R := fun o hn s Q E g0 l H hQ => by
  refine wpAny_execs_cons (wpAny_For (c o hn s _ E g0 l H fun it g1 h1 tk l1 hI => ?_) hs)
  obtain ⟨I, fp, wr, Pt, St, Mid, its, rfl, W, hPt, lv, ei, H1, hst, hfp⟩ := hI.ex
  refine codeAny_forLoop_any (LoopI s env.locals g1 wr St J n) ?_ (n + 1) (.mk 0 g1 m hot its o h1 tk (Le.rf _) hn ei H1.front hst (j0 g1 (l.tr l1)) (Nat.zero_le _))
  rintro k' s' ⟨i, g2, m2, hot2, its2, o2, h2, tk2, l2, hn2, ei2, H2, hst2, hJ, hi⟩
  have hfp2 : ∀ b ∈ fp, b ∈ wr ∨ (∃ o, g2.get? b = some o) ∨ ∃ o, (b, o) ∈ keep := fun b hb => (hfp b hb).imp id fun x => x.imp (fun ⟨o, e⟩ => ⟨o, l2 _ _ e⟩) id
  by_cases hlt : i < n
  · refine W.item i _ _ _ hlt hst2 fun T vals h3 tk3 hP hT hIT hM hk3 => ?_
    refine W.go _ _ _ i T _ _ _ hM fun h4 hst4 hk4 => ?_
    obtain ⟨a, b, rfl, hP'⟩ := hPt i vals hP
    have hIT4 : h4.IsTuple T #[a, b] := by obtain ⟨oT, eT, rT⟩ := hIT; exact ⟨oT, hk4 _ _ (W.apart i T h3 hM) eT, rT⟩
    obtain ⟨its3, ei3, H3⟩ := H2.reown ei2 (fun b o hb e => hk4 b o hb (hk3 b o hb e)) (lv _ _ hst4)
    refine wpAny_assign_Tuple (items := #[a, b]) hh hIT4 rfl rfl fun h5 he5 => ?_
    have H5 := H3.extBut he5
    have hst5 := stKeep W.frame ei3 H3 H5 (Le.rf _) hfp2 (hk _ _ _ _ hJ) (hk _ _ _ _ hJ) hst4
    refine bind i g2 m2 hot2 its3 a b ((l.tr l1).tr l2) hJ o2 hn2 _ _ _ g2 (Le.rf _) H5 fun _ g6 m6 hot6 o6 h6 tk6 l6 hn6 H6 r6 => ?_
    obtain ⟨hot7, rfl, hB, hk7⟩ := r6
    have hst6 := stKeep W.frame ei3 H5 H6 l6 hfp2 (hk _ _ _ _ hJ) hk7 hst5
    refine turn i g2 g6 m2 hot2 a b m6 hot7 its3 ((l.tr l1).tr l2) hlt hJ hP' l6 hB o6 hn6 _ _ _ g6 (Le.rf _) H6 fun fl g8 m8 hot8 o8 h8 tk8 l8 hn8 H8 r8 => ?_
    obtain ⟨hfl, hot9, rfl, hJ9⟩ := r8
    have fin : ∃ mm, mm < n + 1 - i ∧ LoopI s env.locals g1 wr St J n mm { s with heap := h8, toks := tk8 } := ⟨_, down hlt, .mk (i + 1) g8 m8 hot9 its3 o8 h8 tk8 (l2.tr (l6.tr l8)) hn8 ei3 H8
      (stKeep W.frame ei3 H6 H8 l8 (fun b hb => (hfp2 b hb).imp id fun x => x.imp (fun ⟨o, e⟩ => ⟨o, l6 _ _ e⟩) id) hk7 (hk _ _ _ _ hJ9) hst6) hJ9 hlt⟩
    rcases hfl with rfl | rfl
    · exact fin
    · exact fin
  · obtain rfl : i = n := Nat.le_antisymm hi (Nat.not_lt.mp hlt)
    refine W.done _ _ _ hst2 fun h3 tk3 hk3 => wpAny_execs_nil ?_
    exact k g2 m2 hot2 ((l.tr l1).tr l2) hJ o2 hn2 _ Q E g2 (Le.rf _) (H2.strip ei2 hk3) fun f g4 m4 hot4 o4 h4 tk4 l4 hn4 H4 r4 => hQ f g4 m4 hot4 o4 h4 tk4 ((l1.tr l2).tr l4) hn4 H4 r4
end
end Mine

/-! Lg7 -/
open PySem PySem.W PyProof.Rows PySem.Spec PySem.Calls
set_option maxRecDepth 100000
set_option linter.unusedVariables false
namespace Mine

section
variable {w : World} {A : Around} {g : Heap} {m : Loc} {hot : Hot} {env : Env} {pos : Pos} {R : Flow → Heap → Loc → Hot → Prop} {rest : List Stmt}
theorem eForT {x y : Str} {px py tp : Pos} {kk : Nat} {iter : Expr} {body : List Stmt} {n : Nat} {P : Nat → Value → Value → Prop} (hh : A.handled = none) (keep : Hot) (J : Nat → Heap → Loc → Hot → Prop) (c : ∀ o, ObjNs o m → ItT w A g ((env.locals, o) :: hot) (eval iter env) n P keep)
    (j0 : ∀ g1, Le g g1 → J 0 g1 m hot) (hk : ∀ i g1 m1 hot1, J i g1 m1 hot1 → ∀ p ∈ keep, p ∈ hot1)
    (turn : ∀ i g1 m1 hot1 a b its, Le g g1 → i < n → J i g1 m1 hot1 → P i a b → Em w A env.locals g1 (up (up m1 x a) y b) (its ++ hot1) (execs body env) fun fl g2 m2 hot2 => (fl = .next ∨ fl = .cont) ∧ ∃ hot3, hot2 = its ++ hot3 ∧ J (i + 1) g2 m2 hot3)
    (k : ∀ g1 m1 hot1, Le g g1 → J n g1 m1 hot1 → Em w A env.locals g1 m1 hot1 (execs rest env) R)
    (hx : env.kindOf x = some .local := by rfl) (hy : env.kindOf y = some .local := by rfl) (hp : (env.scope.kind == .class || (env.scope.kind == .module && env.locals != env.globals)) = false := by rfl)
    (hs : ∀ x, foldedSetIterable iter env x = pure x := by intro _; rfl) : Em w A env.locals g m hot (execs (.For (.Tuple [.Name x px, .Name y py] kk tp) iter body [] pos :: rest) env) R :=
  eForP hh keep J (fun m1 hot1 a b m2 hot2 => m2 = up (up m1 x a) y b ∧ hot2 = hot1) c j0 hk
    (fun i g1 m1 hot1 its a b l hJ o hn s Q E g0 l0 H hQ => wpAny_assignInOrder_more (PySem.wpAny_assign_Name (store hn H (fun o6 h6 tk6 hn6 H6 => wpAny_assignInOrder_more (PySem.wpAny_assign_Name (store hn6 H6 (fun o7 h7 tk7 hn7 H7 =>
      wpAny_pure (hQ () g0 _ _ o7 h7 tk7 (Le.rf _) hn7 H7 ⟨hot1, rfl, ⟨rfl, rfl⟩, hk _ _ _ _ hJ⟩)) hy hp))) hx hp)))
    (fun i g1 g2 m1 hot1 a b m2 hot2 its l hi hJ hP l2 hB => hB.1 ▸ hB.2 ▸ (turn i g1 m1 hot1 a b its l hi hJ hP).up l2) k hs
end

theorem At.addNew {g h h' : Heap} {hot its : Hot} (H : At g hot h) (k : Le h h') (hi : ∀ p ∈ its, h'.get? p.1 = some p.2 ∧ h.objs.size ≤ p.1) (nd : (its.map (·.1)).Nodup) : At g (its ++ hot) h' := by
  refine ⟨H.keep.tr k, fun p hp => ?_, fun p hp => ?_, ?_⟩
  · rcases List.mem_append.mp hp with hp | hp
    · exact (hi p hp).1
    · exact k _ _ (H.on p hp)
  · rcases List.mem_append.mp hp with hp | hp
    · cases q : g.get? p.1 with
      | none => rfl
      | some o => exact absurd (Heap.lt_size (H.keep _ _ q)) (Nat.not_lt.mpr (hi p hp).2)
    · exact H.sep p hp
  · rw [List.map_append, List.nodup_append]
    refine ⟨nd, H.nd, fun a ha b hb e => ?_⟩
    subst e
    obtain ⟨p, hp, rfl⟩ := List.mem_map.mp ha
    obtain ⟨q, hq, e⟩ := List.mem_map.mp hb
    have := Heap.lt_size (H.on q hq)
    rw [e] at this
    exact absurd this (Nat.not_lt.mpr (hi p hp).2)

theorem zapart (n a b : Nat) (ha : a < n) (hb : b < n) : ZipApart (n + 4) (n + 2) (n + 3) n (n + 1) a b := by constructor <;> exact neN (by omega)

def HasP (g : Heap) (hot : Hot) (a : Addr) (vs : List Value) (n : Nat) : Prop := (a, listO vs n) ∈ hot ∨ g.get? a = some (listO vs n)
theorem HasP.at {g h : Heap} {hot : Hot} {a : Addr} {vs : List Value} {n : Nat} (e : HasP g hot a vs n) (H : At g hot h) : h.get? a = some (listO vs n) := e.elim (fun e => H.on _ e) fun e => H.keep _ _ e
theorem HasP.l {g : Heap} {hot : Hot} {a : Addr} {vs : List Value} {n : Nat} (e : HasP g hot a vs n) : HasL g hot a vs := e.elim (fun e => .inl ⟨n, e⟩) fun e => HasL.of e
theorem HasP.up {g g0 : Heap} {hot : Hot} {a : Addr} {vs : List Value} {n : Nat} (e : HasP g hot a vs n) (l : Le g g0) : HasP g0 hot a vs n := e.imp id fun e => l _ _ e

section
variable {w : World} {A : Around} {g : Heap} {hot : Hot} {t : Sem Value} {env : Env} {x : Str} {np pos : Pos}
/-- a call of a built-in type, to the call itself -/
theorem calltypeW {e : Expr} {rest : List Expr} {id : String} {S : Heap → List Value → Prop} {s : Shared} {Q : Value → Shared → Prop} {E : Value → Shared → Prop} {g0 : Heap} (W : Wd w g) (l : Le g g0) (H : At g0 hot s.heap) (e0 : nsIn (KK w.params) mainGlobals x = some none) (en : biTab.lookup x = some (.type id))
    (c : Cn w A g hot (spliced (backTo pos (starEach (e :: rest) env))) S) (k : ∀ g2 vs h2 tk2, Le g0 g2 → At g2 hot h2 → S g2 vs → wpAny (MM w) A (call (.type id) vs) Q E { s with heap := h2, toks := tk2 })
    (he : starEach (e :: rest) env = (false, eval e env) :: starEach rest env := by rfl) (hpl : (backTo pos (starEach rest env)).any (·.1) = false := by rfl) (hgl : env.globals = mainGlobals := by rfl) (hbl : env.builtins = builtinsNs := by rfl)
    (hk : env.scope.kind = .function := by rfl) (hl : env.kindOf x = some .globalImplicit := by rfl) (hdb : (x == ("__debug__" : Str)) = false := by decide) :
    wpAny (MM w) A (eval (.Call (.Name x np) (e :: rest) [] pos) env) Q E s := by
  refine wpAny_Call_NameR (nmb (R := fun _ v => v = .type id) W e0 en (fun _ _ => rfl) hgl hbl hk hl hdb s _ E g0 l H fun v g1 h1 tk l1 H1 r1 => ?_)
  subst r1
  refine PyProof.Rows.callWith_type1 (c _ _ E g1 (l.tr l1) H1 fun vs g2 h2 tk2 l2 H2 r2 => ?_) he hpl
  exact k g2 vs h2 tk2 (l1.tr l2) H2 r2
/-- over a list -/
theorem itList {a : Addr} {vs : List Value} (keep : Hot) (hh : A.handled = none) (c : Cn w A g hot t fun g1 v => v = .ref a ∧ HasL g1 hot a vs ∧ ((∃ o, (a, o) ∈ keep) ∨ ∃ o, g1.get? a = some o)) : It w A g hot t vs.length (fun i v => vs[i]? = some v) keep := fun s Q E g0 l H hQ => by
  refine c s _ E g0 l H fun v g1 h1 tk l1 H1 r1 => ?_
  obtain ⟨rfl, hl, hk⟩ := r1
  have hL := hl.at (Le.rf _) H1
  refine wpAny_pyIter_list hL ?_
  have hne : a ≠ h1.objs.size := by obtain ⟨o, e, _⟩ := hL; exact Nat.ne_of_lt (Heap.lt_size e)
  have W := Walks.list (prog := PP) (w := w) hh h1.objs.size a hne vs.toArray
  have e : vs.toArray.size = vs.length := List.size_toArray ..
  rw [e] at W
  simp only [List.getElem?_toArray] at W
  have I : Itr w A g1 hot (h1.push { cls := .type "list_iterator", data := .fields #[.ref a, .int 0 0] }) (.ref h1.objs.size) vs.length (fun i v => vs[i]? = some v) keep := by
    refine ⟨h1.objs.size, _, _, _, [(h1.objs.size, _)], rfl, W, ?_, rfl, H1.push _, ⟨⟨_, Heap.get?_push_size _ rfl, rfl, rfl⟩, hL.push _⟩, ?_⟩
    · rintro i h ⟨⟨o, e, _⟩, _⟩ b hb
      rw [List.mem_singleton.mp hb]; exact ⟨o, e⟩
    · intro b hb
      rcases List.mem_cons.mp hb with rfl | hb
      · exact .inl (.head _)
      · rw [List.mem_singleton.mp hb]
        exact .inr hk.symm
  exact hQ _ g1 _ tk l1 I
/-- over a range(n) -/
theorem itRange {e : Expr} {n : Nat} (hh : A.handled = none) (W : Wd w g) (hz : n < 2 ^ 20) (e0 : nsIn (KK w.params) mainGlobals (Str.ofString "range") = some none) (en : biTab.lookup (Str.ofString "range") = some (.type "range")) (c : Cn w A g hot (eval e env) fun _ v => IsI n v)
    (he : starEach [e] env = [(false, eval e env)] := by rfl) (hgl : env.globals = mainGlobals := by rfl) (hbl : env.builtins = builtinsNs := by rfl)
    (hk : env.scope.kind = .function := by rfl) (hl : env.kindOf (Str.ofString "range") = some .globalImplicit := by rfl) : It w A g hot (eval (.Call (.Name (Str.ofString "range") np) [e] [] pos) env) n (fun i v => IsI i v) [] := fun s Q E g0 l H hQ => by
  refine calltypeW (rest := []) W l H e0 en (arg1 c (fun _ _ _ _ h => h) he) (fun g2 vs h2 tk2 l2 H2 r2 => ?_) he rfl hgl hbl hk hl
  obtain ⟨a, rfl, t, rfl⟩ := r2
  refine call_range_1 ?_
  have H3 := H2.grow (Le.push h2 { cls := .type "range", data := .fields #[.int 0 tk2, .int n t, .int 1 (tk2 + 1)] })
  have hrs : Builtin.Range.rangeSize 0 (n : Int) 1 = (n : Int) := by rw [PyProof.Rows.rangeSize_nat]; simp
  have hsm : Builtin.Range.small 0 (n : Int) 1 = true := by
    have fit : ∀ i : Int, -(2 ^ 63) ≤ i → i < 2 ^ 63 → Builtin.Range.rangeFitsLong i = true := fun i h1 h2 => by
      unfold Builtin.Range.rangeFitsLong; rw [decide_eq_true h1, decide_eq_true h2]; rfl
    unfold Builtin.Range.small
    rw [hrs, fit 0 (by decide) (by decide), fit n (by omega) (by omega), fit 1 (by decide) (by decide), if_pos (by decide), fit ((n : Int) + (1 - 1)) (by omega) (by omega), Bool.or_true]
    rfl
  refine wpAny_pyIter_range (t := tk2) (u := t) (v := tk2 + 1) (a := 0) (b := n) (c := 1) (Heap.get?_push_size _ rfl) hsm ?_
  rw [hrs]
  have Wk := Walks.range (prog := PP) (w := w) hh (h2.push { cls := .type "range", data := .fields #[.int 0 tk2, .int n t, .int 1 (tk2 + 1)] }).objs.size 0 1 n
  have e : (fun (i : Nat) v => ∃ t, v = Value.int (0 + (i : Int) * 1) t) = fun (i : Nat) v => IsI i v := by
    funext i v
    rw [Int.zero_add, Int.mul_one]
    rfl
  rw [e] at Wk
  refine hQ _ g2 _ _ l2 ?_
  refine ⟨_, _, _, _, [(_, _)], rfl, Wk, ?_, rfl, H3.push _, ?_, ?_⟩
  · intro i h hs b hb
    rw [List.mem_singleton.mp hb]; exact ⟨_, hs⟩
  · simpa using Heap.get?_push_size (h2.push { cls := .type "range", data := .fields #[.int 0 tk2, .int n t, .int 1 (tk2 + 1)] }) (o := { cls := .type "range_iterator", data := .fields #[rawInt 0, rawInt n, rawInt 1] }) rfl
  · intro b hb
    exact .inl hb
/-- over enumerate(a list) -/
theorem itEnum {e : Expr} {a : Addr} {vs : List Value} {n : Nat} (keep : Hot) (hh : A.handled = none) (W : Wd w g) (e0 : nsIn (KK w.params) mainGlobals (Str.ofString "enumerate") = some none) (en : biTab.lookup (Str.ofString "enumerate") = some (.type "enumerate"))
    (c : Cn w A g hot (eval e env) fun _ v => v = .ref a) (hl : HasP g hot a vs n) (hk : (∃ o, (a, o) ∈ keep) ∨ ∃ o, g.get? a = some o)
    (he : starEach [e] env = [(false, eval e env)] := by rfl) (hgl : env.globals = mainGlobals := by rfl) (hbl : env.builtins = builtinsNs := by rfl)
    (hkk : env.scope.kind = .function := by rfl) (hll : env.kindOf (Str.ofString "enumerate") = some .globalImplicit := by rfl) : ItT w A g hot (eval (.Call (.Name (Str.ofString "enumerate") np) [e] [] pos) env) vs.length (fun i x y => IsI i x ∧ vs[i]? = some y) keep := fun s Q E g0 l H hQ => by
  refine calltypeW (rest := []) W l H e0 en (arg1 c (fun _ _ _ _ h => h) he) (fun g2 vs' h2 tk2 l2 H2 r2 => ?_) he rfl hgl hbl hkk hll
  obtain ⟨a', rfl, rfl⟩ := r2
  have hL := (hl.up (l.tr l2)).at H2
  refine call_enumerate_1 (items := vs.toArray) hL fun h' hE hI hz hk' => ?_
  refine wpAny_pyIter_enum hE ?_
  have alt : a < h2.objs.size := Heap.lt_size hL
  have Wk := WalksT.enumerate (prog := PP) (w := w) hh (h2.objs.size + 1) h2.objs.size a (by simp) (Nat.ne_of_lt (Nat.lt_succ_of_lt alt)) (Nat.ne_of_lt alt) vs.toArray
  have e' : vs.toArray.size = vs.length := List.size_toArray ..
  rw [e'] at Wk
  obtain ⟨oI, eI, rI⟩ := id hI
  have H3 : At g2 ([(h2.objs.size + 1, _), (h2.objs.size, oI)] ++ hot) h' := H2.addNew hk' (fun p hp => by
    rcases List.mem_cons.mp hp with rfl | hp
    · exact ⟨hE, Nat.le_succ _⟩
    · rw [List.mem_singleton.mp hp]; exact ⟨eI, Nat.le_refl _⟩) (by simp)
  refine hQ _ g2 _ _ l2 ?_
  refine ⟨_, _, _, _, _, _, _, rfl, Wk, ?_, ?_, rfl, H3, ⟨⟨_, hE⟩, hI, ⟨_, hk' _ _ hL, rfl, n, rfl⟩⟩, ?_⟩
  · rintro i vals ⟨t, x, hx, rfl⟩
    exact ⟨_, _, rfl, ⟨t, rfl⟩, by simpa using hx⟩
  · rintro i h ⟨⟨old, h1⟩, ⟨o2, h3, _⟩, _⟩ b hb
    rcases List.mem_cons.mp hb with rfl | hb
    · exact ⟨_, h1⟩
    · rw [List.mem_singleton.mp hb]; exact ⟨_, h3⟩
  · intro b hb
    rcases List.mem_cons.mp hb with rfl | hb
    · exact .inl (.head _)
    · rcases List.mem_cons.mp hb with rfl | hb
      · exact .inl (.tail _ (.head _))
      · rw [List.mem_singleton.mp hb]
        exact .inr (hk.symm.imp (fun ⟨o, e⟩ => ⟨o, (l.tr l2) _ _ e⟩) id)
/-- over zip(a list, a list) -/
theorem itZip {e1 e2 : Expr} {a b : Addr} {xs ys : List Value} (keep : Hot) (hh : A.handled = none) (W : Wd w g) (e0 : nsIn (KK w.params) mainGlobals (Str.ofString "zip") = some none) (en : biTab.lookup (Str.ofString "zip") = some (.type "zip"))
    (c : Cn w A g hot (eval e1 env) fun _ v => v = .ref a) (c2 : ∀ g1, Le g g1 → Cn w A g1 hot (eval e2 env) fun _ v => v = .ref b) (hl : HasL g hot a xs) (hl2 : HasL g hot b ys) (hk : (∃ o, (a, o) ∈ keep) ∨ ∃ o, g.get? a = some o) (hk2 : (∃ o, (b, o) ∈ keep) ∨ ∃ o, g.get? b = some o)
    (hn : ys.length = xs.length)
    (he : starEach [e1, e2] env = [(false, eval e1 env), (false, eval e2 env)] := by rfl) (he1 : starEach [e1, e2] env = (false, eval e1 env) :: starEach [e2] env := by rfl) (he2 : starEach [e2] env = [(false, eval e2 env)] := by rfl) (hgl : env.globals = mainGlobals := by rfl) (hbl : env.builtins = builtinsNs := by rfl)
    (hkk : env.scope.kind = .function := by rfl) (hll : env.kindOf (Str.ofString "zip") = some .globalImplicit := by rfl) : ItT w A g hot (eval (.Call (.Name (Str.ofString "zip") np) [e1, e2] [] pos) env) xs.length (fun i x y => xs[i]? = some x ∧ ys[i]? = some y) keep := fun s Q E g0 l H hQ => by
  refine calltypeW (rest := [e2]) W l H e0 en (arg2 c c2 (fun _ _ _ _ h => h) (fun _ _ _ _ h => h) he he2) (fun g2 vs' h2 tk2 l2 H2 r2 => ?_) he1 (by rw [he2]; rfl) hgl hbl hkk hll
  obtain ⟨a', b', rfl, rfl, rfl⟩ := r2
  have hL := (hl.up (l.tr l2)).at (Le.rf _) H2
  have hL2 := (hl2.up (l.tr l2)).at (Le.rf _) H2
  refine call_zip_2 hL hL2 fun h' hz hTI hTO hi1 hi2 hsz hk' => ?_
  refine wpAny_pyIter_zip hz ?_
  have alt : a < h2.objs.size := by obtain ⟨_, q, _⟩ := hL; exact Heap.lt_size q
  have blt : b < h2.objs.size := by obtain ⟨_, q, _⟩ := hL2; exact Heap.lt_size q
  have D : ZipApart (h2.objs.size + 4) (h2.objs.size + 2) (h2.objs.size + 3) h2.objs.size (h2.objs.size + 1) a b := zapart _ _ _ alt blt
  have Wk := WalksT.zip2 (prog := PP) (w := w) hh _ _ _ _ _ _ _ D xs.toArray ys.toArray
  have e' : min xs.toArray.size ys.toArray.size = xs.length := by simp [hn]
  rw [e'] at Wk
  obtain ⟨o1, f1, r1⟩ := id hi1
  obtain ⟨o2, f2, r2⟩ := id hi2
  have H3 : At g2 ([(h2.objs.size + 4, _), (h2.objs.size + 3, _), (h2.objs.size, o1), (h2.objs.size + 1, o2)] ++ hot) h' := H2.addNew hk' (fun p hp => by
    simp only [List.mem_cons, List.not_mem_nil, or_false] at hp
    rcases hp with rfl | rfl | rfl | rfl
    · exact ⟨hz, by simp⟩
    · exact ⟨hTO, by simp⟩
    · exact ⟨f1, Nat.le_refl _⟩
    · exact ⟨f2, by simp⟩) (by simp)
  obtain ⟨g3, l3, H4, k3⟩ := H3.rebase
  have hTIg : ∃ o, g3.get? (h2.objs.size + 2) = some o := by
    refine ⟨_, k3 _ _ hTI fun hm => ?_⟩
    rw [List.map_append] at hm
    rcases List.mem_append.mp hm with hm | hm
    · simp at hm
    · obtain ⟨p, hp, e⟩ := List.mem_map.mp hm
      have := Heap.lt_size (H2.on p hp)
      rw [e] at this
      exact Nat.not_lt_of_le (Nat.le_add_right _ 2) this
  refine hQ _ g3 _ _ (l2.tr l3) ?_
  refine ⟨_, _, _, _, _, _, _, rfl, Wk, ?_, ?_, rfl, H4, ⟨hz, hTI, ⟨_, _, hTO⟩, hi1, hi2, (by obtain ⟨o, q, r⟩ := hL; exact ⟨o, hk' _ _ q, r⟩), (by obtain ⟨o, q, r⟩ := hL2; exact ⟨o, hk' _ _ q, r⟩)⟩, ?_⟩
  · rintro i vals ⟨x, y, hx, hy, rfl⟩
    exact ⟨_, _, rfl, by simpa using hx, by simpa using hy⟩
  · rintro i h ⟨q1, q2, ⟨_, _, q3⟩, ⟨o4, q4, _⟩, ⟨o5, q5, _⟩, _⟩ b hb
    simp only [List.mem_cons, List.not_mem_nil, or_false] at hb
    rcases hb with rfl | rfl | rfl | rfl
    · exact ⟨_, q1⟩
    · exact ⟨_, q3⟩
    · exact ⟨_, q4⟩
    · exact ⟨_, q5⟩
  · intro c hc
    simp only [List.mem_cons, List.not_mem_nil, or_false] at hc ⊢
    rcases hc with rfl | rfl | rfl | rfl | rfl | rfl | rfl
    · simp
    · exact .inr (.inl hTIg)
    · simp
    · simp
    · simp
    · exact .inr (hk.symm.imp (fun ⟨o, e⟩ => ⟨o, ((l.tr l2).tr l3) _ _ e⟩) id)
    · exact .inr (hk2.symm.imp (fun ⟨o, e⟩ => ⟨o, ((l.tr l2).tr l3) _ _ e⟩) id)
end
end Mine

/-! Lg8 -/
open PySem PySem.W PyProof.Rows PySem.Spec PySem.Calls
set_option maxRecDepth 100000
set_option linter.unusedVariables false
namespace Mine

theorem sublPerm {α : Type} {l H : List α} (q : l.Sublist H) : ∃ r, H.Perm (l ++ r) := by
  induction q with
  | slnil => exact ⟨[], List.Perm.refl _⟩
  | cons a q ih => obtain ⟨r, ih⟩ := ih; exact ⟨a :: r, (ih.cons a).trans List.perm_middle.symm⟩
  | cons_cons a q ih => obtain ⟨r, ih⟩ := ih; exact ⟨r, ih.cons a⟩
/-- a contract that asks for p among the hot objects, at any place -/
theorem Cn.subl {α : Type} {w : World} {A : Around} {g : Heap} {p H : Hot} {t : Sem α} {R : Heap → α → Prop} (c : ∀ rest, Cn w A g (p ++ rest) t R) (q : p.Sublist H) : Cn w A g H t R := by
  obtain ⟨r, hr⟩ := sublPerm q
  exact (c r).perm hr.symm
theorem At.but {g h h' : Heap} {hot : Hot} {a : Addr} {o : Obj} (H : At g ((a, o) :: hot) h) (hs : Heap.SameBut a h h') : At g hot h' := by
  have hn := List.nodup_cons.mp (show ((a, o).1 :: hot.map (·.1)).Nodup from by simpa using H.nd)
  refine ⟨fun b ob eb => (hs.2 b ?_).trans (H.keep _ _ eb), fun p hp => (hs.2 p.1 ?_).trans (H.on p (.tail _ hp)), fun p hp => H.sep p (.tail _ hp), hn.2⟩
  · rintro rfl
    rw [H.sep (b, o) (.head _)] at eb; cases eb
  · intro q
    exact hn.1 (List.mem_map.mpr ⟨p, hp, q⟩)
abbrev tests (ifs : List Expr) (env : Env) : Sem Bool := forIn ifs true fun c r => if r = true then do let ok ← isTrue c env (eval c env); pure (ForInStep.yield ok) else pure (ForInStep.yield r)
theorem tests0 {w : World} {A : Around} {g : Heap} {hot : Hot} {env : Env} : Cn w A g hot (tests [] env) fun _ r => r = true := .still (fun s Q E g0 l H hQ => wpAny_tests_nil (hQ s.toks)) fun _ _ => rfl
theorem tests1 {w : World} {A : Around} {g : Heap} {hot : Hot} {env : Env} {c : Expr} {b : Bool} (h : Ts w A g hot c env b) : Cn w A g hot (tests [c] env) fun _ r => r = b := fun s Q E g0 l H hQ => wpAny_tests_one (h s Q E g0 l H hQ)

end Mine

/-! C1 -/
open PySem PySem.W PyProof.Rows PySem.Spec PySem.Calls
set_option maxRecDepth 100000
set_option linter.unusedVariables false
namespace Mine

abbrev sNumbers : Str := Str.ofString "numbers"
abbrev sRows : Str := Str.ofString "rows"
/-- a program's objects -/
structure Pg where
  pa : Addr
  da : Addr
  na : Addr
  ra : Addr
  nv : List Value
  rv : List Value
  k1 : Nat
  k2 : Nat
  ke : Nat
  ne : Nat
  re : Nat
def Pg.es (p : Pg) (w : World) : List DictEntry := [⟨PyData.keyHash w.params sNumbers, .str sNumbers p.k1, .ref p.na⟩, ⟨PyData.keyHash w.params sRows, .str sRows p.k2, .ref p.ra⟩]
/-- a program at hand: its own two objects are hot, its two lists hot or frozen -/
structure PgIn (p : Pg) (w : World) (g : Heap) (hot : Hot) : Prop where
  i : (p.pa, instObj 52 p.da) ∈ hot
  d : (p.da, dictOf (p.es w) p.ke) ∈ hot
  n : HasP g hot p.na p.nv p.ne
  r : HasP g hot p.ra p.rv p.re
theorem PgIn.to {p : Pg} {w : World} {g g' : Heap} {hot hot' : Hot} (P : PgIn p w g hot) (l : Le g g') (h : ∀ q ∈ hot, q ∈ hot') : PgIn p w g' hot' :=
  ⟨h _ P.i, h _ P.d, P.n.imp (h _) (l _ _), P.r.imp (h _) (l _ _)⟩
theorem PgIn.t {p : Pg} {w : World} {g g' : Heap} {hot : Hot} {q : Addr × Obj} (P : PgIn p w g hot) (l : Le g g') : PgIn p w g' (q :: hot) := P.to l fun _ h => .tail _ h

section
variable {w : World} {A : Around} {g : Heap} {hot : Hot} {env : Env} {pos np : Pos}
theorem getNumbers {p : Pg} (W : Wd w g) (h1 : (p.pa, instObj 52 p.da) ∈ hot) (h2 : (p.da, dictOf (p.es w) p.ke) ∈ hot) : Cn w A g hot (getAttr (.ref p.pa) sNumbers true) fun _ u => u = .ref p.na :=
  attrOwn W h1 h2 rfl rfl rfl rfl rfl rfl
theorem getRows {p : Pg} (W : Wd w g) (h1 : (p.pa, instObj 52 p.da) ∈ hot) (h2 : (p.da, dictOf (p.es w) p.ke) ∈ hot) : Cn w A g hot (getAttr (.ref p.pa) sRows true) fun _ u => u = .ref p.ra :=
  attrOwn W h1 h2 rfl rfl rfl rfl rfl rfl
end

def IntsV (vs : List Value) (ns : List Int) : Prop := vs.length = ns.length ∧ ∀ (i : Nat) v n, vs[i]? = some v → ns[i]? = some n → IsI n v
theorem IntsV.get {vs : List Value} {ns : List Int} (h : IntsV vs ns) {i : Nat} {n : Int} (e : ns[i]? = some n) : ∃ v, vs[i]? = some v ∧ IsI n v := by
  have hl : i < ns.length := (List.getElem?_eq_some_iff.mp e).1
  have : i < vs.length := by rw [h.1]; exact hl
  exact ⟨vs[i], List.getElem?_eq_getElem this, h.2 i _ n (List.getElem?_eq_getElem this) e⟩

theorem IntsV.nil : IntsV [] [] := ⟨rfl, fun i v n h => by simp at h⟩

def PlaceAt (ns : List Int) (n : Int) (k : Nat) : Prop := k ≤ ns.length ∧ (∀ (i : Nat) x, i < k → ns[i]? = some x → x < n) ∧ ∀ (i : Nat) x, k ≤ i → ns[i]? = some x → n ≤ x

/-- the search stands between lo and hi -/
structure Mid (ns : List Int) (n : Int) (lo hi : Nat) : Prop where
  le : lo ≤ hi
  lim : hi ≤ ns.length
  low : ∀ (i : Nat) x, i < lo → ns[i]? = some x → x < n
  high : ∀ (i : Nat) x, hi ≤ i → ns[i]? = some x → n ≤ x
theorem Mid.start (ns : List Int) (n : Int) : Mid ns n 0 ns.length :=
  ⟨Nat.zero_le _, Nat.le_refl _, fun i x h => absurd h (Nat.not_lt_zero _), fun i x h e => absurd (List.getElem?_eq_some_iff.mp e).1 (Nat.not_lt.mpr h)⟩
theorem Mid.right {ns : List Int} {n x : Int} {lo hi mid : Nat} (M : Mid ns n lo hi) (hs : ns.Pairwise (· < ·)) (h : mid < hi) (hx : ns[mid]? = some x) (hn : x < n) : Mid ns n (mid + 1) hi :=
  ⟨h, M.lim, fun i y hi e => by
    obtain ⟨hil, rfl⟩ := List.getElem?_eq_some_iff.mp e
    obtain ⟨hml, rfl⟩ := List.getElem?_eq_some_iff.mp hx
    rcases Nat.lt_or_eq_of_le (Nat.le_of_lt_succ hi) with q | rfl
    · exact Int.lt_trans (List.pairwise_iff_getElem.mp hs i mid hil hml q) hn
    · exact hn, M.high⟩
theorem Mid.left {ns : List Int} {n x : Int} {lo hi mid : Nat} (M : Mid ns n lo hi) (hs : ns.Pairwise (· < ·)) (h : lo ≤ mid) (h2 : mid < hi) (hx : ns[mid]? = some x) (hn : ¬ x < n) : Mid ns n lo mid :=
  ⟨h, Nat.le_trans (Nat.le_of_lt h2) M.lim, M.low, fun i y hi e => by
    obtain ⟨hil, rfl⟩ := List.getElem?_eq_some_iff.mp e
    obtain ⟨hml, rfl⟩ := List.getElem?_eq_some_iff.mp hx
    rcases Nat.lt_or_eq_of_le hi with q | rfl
    · exact Int.le_trans (Int.not_lt.mp hn) (Int.le_of_lt (List.pairwise_iff_getElem.mp hs mid i hml hil q))
    · exact Int.not_lt.mp hn⟩
theorem Mid.stop {ns : List Int} {n : Int} {lo hi : Nat} (M : Mid ns n lo hi) (h : ¬ (lo : Int) < hi) : PlaceAt ns n lo :=
  ⟨Nat.le_trans M.le M.lim, M.low, fun i x q e => M.high i x (Nat.le_trans (Nat.not_lt.mp fun z => h (Int.ofNat_lt.mpr z)) q) e⟩
theorem mid_at {lo hi : Nat} (h : (lo : Int) < hi) : ∃ mid : Nat, ((lo : Int) + hi).fdiv 2 = (mid : Int) ∧ lo ≤ mid ∧ mid < hi ∧ hi - (mid + 1) < hi - lo ∧ mid - lo < hi - lo :=
  ⟨(lo + hi) / 2, by rw [Int.fdiv_eq_ediv_of_nonneg _ (by decide)]; omega, by omega, by omega, by omega, by omega⟩
theorem mid_62 {mid hi n : Nat} (h1 : mid < hi) (h2 : hi ≤ n) (h3 : n < 100) : (mid : Int) < 2 ^ 62 := by omega
inductive PlJ (hot : Hot) (pa : Addr) (nv : Value) (ns : List Int) (n : Int) : Nat → Heap → Loc → Hot → Prop where
  | mk (g : Heap) (m : Loc) (lo hi : Nat) (t1 t2 : Nat) (hp : m "program" = some (.ref pa)) (hn : m "number" = some nv) (hlo : m "least" = some (.int lo t1)) (hhi : m "most" = some (.int hi t2)) (M : Mid ns n lo hi) : PlJ hot pa nv ns n (hi - lo) g m hot
inductive PlK (hot : Hot) (ns : List Int) (n : Int) : Heap → Loc → Hot → Prop where
  | mk (g : Heap) (m : Loc) (lo t1 : Nat) (hlo : m "least" = some (.int lo t1)) (M : PlaceAt ns n lo) : PlK hot ns n g m hot

theorem ix62 {k n : Nat} (h : k < n) (hn : n ≤ 100) : (k : Int) < 2 ^ 62 := by omega
theorem lt2 {k : Nat} (h : k < 2) : k = 0 ∨ k = 1 := by omega
theorem f5 {f : Nat} (h : (f : Int) < 5) : f < 5 := by omega
theorem f5n {f : Nat} (h : ¬ (f : Int) < 5) : ¬ f < 5 := by omega
theorem fdiv_even (i : Nat) : (2 * (i : Int)).fdiv 2 = i := by rw [Int.fdiv_eq_ediv_of_nonneg _ (by decide)]; omega

set_option maxHeartbeats 2000000 in
theorem c_place {w : World} {A : Around} {g : Heap} {hot : Hot} (p : Pg) {ns : List Int} {n : Int} {nv : Value} (hh : A.handled = none) (hd : A.depth < 900) (P : PgIn p w g hot) (W : Wd w g) (hi : IntsV p.nv ns) (hs : ns.Pairwise (· < ·)) (hz : ns.length < 100) (hn : IsI n nv) :
    Cn w A g (hot) (call (.ref 63) [.ref p.pa, nv]) fun _ v => ∃ k : Nat, IsI k v ∧ PlaceAt ns n k := by
  refine enter W rfl rfl rfl rfl rfl (rlt hd) (fun L => ?_) (by decide) (locs rfl)
  refine eAsg2s (x := "least") (y := "most") (fun _ a b => IsI 0 a ∧ IsI ns.length b) hh (fun o ho => ?_) fun gA a b lA r1 => ?_
  · refine tup2 (R1 := fun _ a => IsI 0 a) (R2 := fun _ b => IsI ns.length b) cI fun g1 l1 => ?_
    refine callbi (id := "len") (W.up l1) rfl rfl (arg1 (attrNm (nV (.head _) ho rfl) fun g2 v l2 r2 => by subst r2; exact getNumbers ((W.up l1).up l2) (.tail _ P.i) (.tail _ P.d))) fun g2 vs l2 r2 => ?_
    obtain ⟨a, rfl, rfl⟩ := r2
    exact hi.1 ▸ bLen (P.t (l1.tr l2)).n.l (by rw [hi.1]; exact Nat.lt_trans hz (by decide))
  · obtain ⟨⟨ta, rfl⟩, ⟨tb, rfl⟩⟩ := r1
    refine eWhile (PlJ hot p.pa nv ns n) (PlK hot ns n) ns.length (.mk _ _ 0 ns.length ta tb rfl rfl rfl rfl (.start ns n)) ?_ ?_
    · rintro _ g1 m1 hot1 l1 ⟨g1, m1, lo, hi', t1, t2, hp, hnm, hlo, hhi, M⟩
      refine ⟨decide ((lo : Int) < hi'), fun o ho => tCmp (nV (.head _) ho hlo) (fun g2 v l2 r2 => nV (.head _) ho hhi) fun g2 g3 u v l2 l3 ru rv => ?_, fun hb g2 l2 => ?_, fun hb g2 l2 => .mk _ _ lo t1 hlo (M.stop (of_decide_eq_false hb))⟩
      · subst ru rv
        exact (cLt ⟨_, rfl⟩ ⟨_, rfl⟩).imp fun g4 v _ r => ⟨_, r, rfl⟩
      · obtain ⟨mid, em, hm1, hm2, s1, s2⟩ := mid_at (of_decide_eq_true hb)
        refine eAsg (R1 := fun _ v => IsI (mid : Int) v) (fun o ho => ?_) fun g3 v l3 rv => ?_
        · refine em ▸ bin (bin (nV (.head _) ho hlo) (fun g2 v l2 r2 => nV (.head _) ho hhi) fun g2 g3 u v l2 l3 ru rv => by
            subst ru rv
            exact oAdd ⟨_, rfl⟩ ⟨_, rfl⟩) (fun g2 v l2 r2 => cI) fun g2 g3 u v l2 l3 ru rv => oDiv ru rv (by decide) (PyProof.noPylong_small (by decide))
        · obtain ⟨tm, rfl⟩ := rv
          obtain ⟨x, hx⟩ : ∃ x, ns[mid]? = some x := ⟨_, List.getElem?_eq_getElem (Nat.lt_of_lt_of_le hm2 M.lim)⟩
          obtain ⟨xv, hxv, hxi⟩ := hi.get hx
          have lB := ((lA.tr l1).tr l2).tr l3
          have Wn := W.up lB
          have Pn := P.to lB fun _ h => h
          refine eIf (b := decide (x < n)) (fun o ho => tCmp (subs (attrNm (nV (.head _) ho hp) fun g2 v l2 r2 => by subst r2; exact getNumbers (Wn.up l2) (.tail _ P.i) (.tail _ P.d)) (fun g2 v l2 r2 => nV (.head _) ho rfl) fun g2 g3 u v l2 l3 ru rv => by
              subst ru rv
              exact iList (Pn.t (l2.tr l3)).n.l ⟨_, rfl⟩ (Int.natCast_nonneg _) (mid_62 hm2 M.lim hz) hxv) (fun g2 v l2 r2 => nV (.head _) ho hnm) fun g2 g3 u v l2 l3 ru rv => by
              subst ru rv
              exact (cLt hxi hn).imp fun g4 v _ r => ⟨_, r, rfl⟩) (fun hb g4 l4 => ?_) fun hb g4 l4 => ?_
          · refine eAsg (R1 := fun _ v => IsI ((mid : Int) + 1) v) (fun o ho => bin (nV (.head _) ho rfl) (fun _ _ _ _ => cI) fun g2 g3 u v l2 l3 ru rv => by subst ru; exact oAdd ⟨_, rfl⟩ rv) fun g5 v l5 rv => ?_
            obtain ⟨t5, rfl⟩ := rv
            exact eNil fun g6 l6 => ⟨rfl, _, s1, .mk _ _ (mid + 1) hi' t5 t2 hp hnm rfl hhi (M.right hs hm2 hx (of_decide_eq_true hb))⟩
          · refine eAsg (R1 := fun _ v => v = .int mid tm) (fun o ho => nV (.head _) ho rfl) fun g5 v l5 rv => ?_
            subst rv
            exact eNil fun g6 l6 => ⟨rfl, _, s2, .mk _ _ lo mid t1 tm hp hnm hlo rfl (M.left hs hm1 hm2 hx (of_decide_eq_false hb))⟩
    · rintro g1 m1 hot1 l1 ⟨lo, t1, hlo, hpl⟩
      exact eRet (fun o ho => nV (.head _) ho hlo) fun g2 v l2 r => ⟨[], rfl, lo, ⟨t1, r⟩, hpl⟩
end Mine

/-! Lg9 -/
open PySem PySem.W PyProof.Rows PySem.Spec PySem.Calls
set_option maxRecDepth 100000
set_option linter.unusedVariables false
namespace Mine

theorem cells_addrs {cm : Loc} {cs : List (Str × Addr)} {cells : Hot} (x : CellsAre cm cs cells) : cells.map (·.1) = cs.map (·.2) := by
  induction x with
  | nil => rfl
  | cons _ _ ih => simp [ih]
/-- a call that may turn hot objects -/
def Cc (w : World) (A : Around) (g : Heap) (hot : Hot) (t : Sem Value) (R : Heap → Hot → Value → Prop) : Prop :=
  ∀ (s : Shared) (Q : Value → Shared → Prop) (E : Value → Shared → Prop) (g0 : Heap), Le g g0 → At g0 hot s.heap →
    (∀ v g1 hot1 h1 tk, Le g0 g1 → At g1 hot1 h1 → R g1 hot1 v → Q v { s with heap := h1, toks := tk }) → wpAny (MM w) A t Q E s
theorem Cn.cc {w : World} {A : Around} {g : Heap} {hot : Hot} {t : Sem Value} {R : Heap → Value → Prop} (c : Cn w A g hot t R) : Cc w A g hot t fun g1 hot1 v => hot1 = hot ∧ R g1 v := fun s Q E g0 l H hQ =>
  c s Q E g0 l H fun v g1 h1 tk l1 H1 r1 => hQ v g1 hot h1 tk l1 H1 ⟨rfl, r1⟩
theorem Em.imp {α : Type} {w : World} {A : Around} {L : Addr} {g : Heap} {m : Loc} {hot : Hot} {t : Sem α} {R R' : α → Heap → Loc → Hot → Prop} (c : Em w A L g m hot t R) (h : ∀ v g1 m1 hot1, Le g g1 → R v g1 m1 hot1 → R' v g1 m1 hot1) : Em w A L g m hot t R' := fun o hn s Q E g0 l H hQ =>
  c o hn s Q E g0 l H fun v g1 m1 hot1 o1 h1 tk l1 hn1 H1 r1 => hQ v g1 m1 hot1 o1 h1 tk l1 hn1 H1 (h v g1 m1 hot1 (l.tr l1) r1)
section
variable {w : World} {A : Around} {g : Heap} {hot : Hot} {f : Addr} {fo : Obj} {fd : FuncData} {body : List Stmt} {binds : List (Str × Value)} {vs : List Value} {R : Heap → Value → Prop}
theorem enterCc {R : Heap → Hot → Value → Prop} (W : Wd w g) (ho : (KK w.params).lookup f = some fo) (hd : fo.data = .func fd) (hb : fd.body = .stmts body) (hcd : codeIn (KK w.params) fd.code fd.qualname = true) (hbind : bindArgs fd ⟨vs, []⟩ = pure binds)
    (hroom : A.depth < recursionLimit)
    (k : ∀ L cells, CellsAre (bindC (callEnvC fd L f).kindOf binds fun _ => none) (cellsFrom (L + 1) fd.scope.names []) cells → Em w (A.deeper (callEnvC fd L f)) (callEnvC fd L f).locals g (bindL (callEnvC fd L f).kindOf binds fun _ => none) (cells ++ hot) (execs body (callEnvC fd L f)) fun fl g1 m1 hot1 => ∃ ex hot2, hot1 = ex ++ hot2 ∧ R g1 hot2 (match fl with | .ret v => v | _ => .none))
    (hkind : (binds.all fun y => fd.scope.names.lookup y.1 == some .local || fd.scope.names.lookup y.1 == some .cell) = true) (hnd : ((cellsFrom 0 fd.scope.names []).map (·.1)).Nodup) (hclo : fd.closure = [])
    (hco : fd.scope.isCoroutine = false := by rfl) (hgen : fd.scope.isGenerator = false := by rfl) (hk : fd.scope.kind = .function := by rfl) : Cc w A g hot (call (.ref f) vs) R := fun s Q E g0 l H hQ => by
  refine wpAny_call (codeAny_call_cells hroom ((l.tr H.keep) _ _ (W.X _ _ ho)) hd ((limit_ns w W).keeps (l.tr H.keep)) (codeRec_of (fun a o e => (l.tr H.keep) _ _ (W.X a o e)) hcd) hb hbind hclo (kindsX hkind _) (fun s1 x => ?_) hco hgen hk)
  obtain ⟨h0, tk0, rfl⟩ := x.toInCall.same
  obtain ⟨o, ho', hn⟩ := ObjNs.of x.toInCall.ns
  have H' : At g0 hot h0 := H.grow x.toInCall.keep
  obtain ⟨cells, NC, Y⟩ := Cl.news (h₀ := s.heap) (Nat.le_refl _) fun n c hm => ⟨x.cell n c (lookup_of_mem_nodup (cellsFrom_names fd.scope.names 0 (s.heap.objs.size + 1) [] [] rfl ▸ hnd) hm), x.above n c hm⟩
  have nlt : ∀ b, s.heap.objs.size ≤ b → g0.get? b = none := fun b hb => by
    cases q : g0.get? b with
    | none => rfl
    | some o' => exact absurd (Heap.lt_size (H.keep _ _ q)) (Nat.not_lt.mpr hb)
  have labove : ∀ p ∈ cells, s.heap.objs.size < p.1 := fun p hp => by
    have : p.1 ∈ cells.map (·.1) := List.mem_map_of_mem hp
    rw [cells_addrs Y] at this
    obtain ⟨⟨n, c⟩, hc, e⟩ := List.mem_map.mp this
    rw [← e]
    exact x.above n c hc
  have cnd : (cells.map (·.1)).Nodup := by
    rw [cells_addrs Y]
    exact (List.pairwise_map.mpr x.apart)
  have H0 : At g0 ((s.heap.objs.size, o) :: (cells ++ hot)) h0 := by
    refine ⟨H'.keep, fun p hp => ?_, fun p hp => ?_, ?_⟩
    · rcases List.mem_cons.mp hp with rfl | hp
      · exact ho'
      · rcases List.mem_append.mp hp with hp | hp
        · exact (NC p hp).1
        · exact H'.on p hp
    · rcases List.mem_cons.mp hp with rfl | hp
      · exact nlt _ (Nat.le_refl _)
      · rcases List.mem_append.mp hp with hp | hp
        · exact nlt _ (Nat.le_of_lt (labove p hp))
        · exact H'.sep p hp
    · have lt : ∀ b ∈ hot.map (·.1), b < s.heap.objs.size := fun b hb => by
        obtain ⟨p, hp, rfl⟩ := List.mem_map.mp hb
        exact Heap.lt_size (H.on p hp)
      rw [List.map_cons, List.map_append, List.nodup_cons, List.nodup_append]
      refine ⟨fun hm => ?_, cnd, H.nd, fun a ha b hb e => ?_⟩
      · rcases List.mem_append.mp hm with hm | hm
        · obtain ⟨p, hp, e⟩ := List.mem_map.mp hm
          have := labove p hp
          rw [e] at this
          exact Nat.lt_irrefl _ this
        · exact Nat.lt_irrefl _ (lt _ hm)
      · obtain ⟨p, hp, rfl⟩ := List.mem_map.mp ha
        subst e
        exact Nat.lt_irrefl _ (Nat.lt_trans (labove p hp) (lt _ hb))
  refine k _ cells Y o hn _ _ _ g0 l H0 fun fl g1 m1 hot1 o1 h1 tk l1 hn1 H1 r1 => ?_
  obtain ⟨ex, hot2, rfl, r1⟩ := r1
  refine hQ _ g1 hot2 h1 tk l1 ?_ r1
  exact H1.drop.sub (List.sublist_append_right _ _)
theorem enterC (W : Wd w g) (ho : (KK w.params).lookup f = some fo) (hd : fo.data = .func fd) (hb : fd.body = .stmts body) (hcd : codeIn (KK w.params) fd.code fd.qualname = true) (hbind : bindArgs fd ⟨vs, []⟩ = pure binds)
    (hroom : A.depth < recursionLimit)
    (k : ∀ L cells, CellsAre (bindC (callEnvC fd L f).kindOf binds fun _ => none) (cellsFrom (L + 1) fd.scope.names []) cells → Em w (A.deeper (callEnvC fd L f)) (callEnvC fd L f).locals g (bindL (callEnvC fd L f).kindOf binds fun _ => none) (cells ++ hot) (execs body (callEnvC fd L f)) fun fl g1 m1 hot1 => ∃ ex, hot1 = ex ++ hot ∧ R g1 (match fl with | .ret v => v | _ => .none))
    (hkind : (binds.all fun y => fd.scope.names.lookup y.1 == some .local || fd.scope.names.lookup y.1 == some .cell) = true) (hnd : ((cellsFrom 0 fd.scope.names []).map (·.1)).Nodup) (hclo : fd.closure = [])
    (hco : fd.scope.isCoroutine = false := by rfl) (hgen : fd.scope.isGenerator = false := by rfl) (hk : fd.scope.kind = .function := by rfl) : Cn w A g hot (call (.ref f) vs) R := fun s Q E g0 l H hQ =>
  enterCc (R := fun g1 hot2 v => hot2 = hot ∧ R g1 v) W ho hd hb hcd hbind hroom (fun L cells hc => (k L cells hc).imp fun fl g1 m1 hot1 _ ⟨ex, e, r⟩ => ⟨ex, hot, e, rfl, r⟩) hkind hnd hclo hco hgen hk s Q E g0 l H fun v g1 hot1 h1 tk l1 H1 ⟨e, r⟩ => hQ v g1 h1 tk l1 (e ▸ H1) r
end

/-! equality of data -/
/-- what a value reads as, wherever the hot objects stand -/
def RdH (g : Heap) (hot : Hot) (v : Value) (d : PyData) : Prop := ∀ g0 h, Le g g0 → At g0 hot h → Rd h v d
theorem Rd.h {g : Heap} {hot : Hot} {v : Value} {d : PyData} (r : Rd g v d) : RdH g hot v d := fun g0 h l H => r.mono (l.tr H.keep)
theorem IntsV.rdAll {vs : List Value} {ns : List Int} (hi : IntsV vs ns) (g : Heap) : RdAll g vs (ns.map .int) := by
  induction ns generalizing vs with
  | nil =>
    have : vs = [] := List.length_eq_zero_iff.mp (by simpa using hi.1)
    subst this
    exact RdAll.nil
  | cons n ns ih =>
    cases vs with
    | nil => have := hi.1; simp at this
    | cons v vs =>
      exact RdAll.cons ((hi.2 0 v n rfl rfl).rd g) (ih ⟨by simpa using hi.1, fun i u k e1 e2 => hi.2 (i + 1) u k (by simpa using e1) (by simpa using e2)⟩)
theorem RdAll.ints {g : Heap} {vs : List Value} {ns : List Int} (r : RdAll g vs (ns.map .int)) : IntsV vs ns := by
  refine ⟨by simpa using r.length, fun i v n e1 e2 => ?_⟩
  obtain ⟨u, hu, ru⟩ := r.get (i := i) (d := .int n) (by simp [e2])
  rw [e1] at hu; cases hu
  exact ru.int
theorem RdH.ofHot {g : Heap} {hot : Hot} {a : Addr} {vs : List Value} {n : Nat} {ds : List PyData} (e : (a, listO vs n) ∈ hot) (r : RdAll g vs ds) : RdH g hot (.ref a) (.list ds) := fun g0 h l H =>
  Rd.ofList ⟨_, H.on _ e, rfl, n, rfl⟩ (r.mono (l.tr H.keep))

section
variable {w : World} {A : Around} {g : Heap} {hot : Hot} {u v : Value} {a b : PyData}
theorem cEqD (ra : RdH g hot u a) (rb : RdH g hot v b) (ha : SeqAt.shaped a = true) (hb : SeqAt.shaped b = true) (hu : A.units + 64 < cLine) : Cn w A g hot (compareOp .Eq u v) fun _ r => r = .bool (PyData.eqv a b) := fun s Q E g0 l H hQ => by
  obtain ⟨as, x⟩ := ra g0 _ l H
  obtain ⟨bs, y⟩ := rb g0 _ l H
  exact PyProof.Rows.eq_dataH x y ha hb hu (hQ _ g0 s.heap s.toks (Le.rf _) H rfl)
theorem cNeD (ra : RdH g hot u a) (rb : RdH g hot v b) (ha : SeqAt.shaped a = true) (hb : SeqAt.shaped b = true) (hu : A.units + 64 < cLine) : Cn w A g hot (compareOp .NotEq u v) fun _ r => r = .bool (!PyData.eqv a b) := fun s Q E g0 l H hQ => by
  obtain ⟨as, x⟩ := ra g0 _ l H
  obtain ⟨bs, y⟩ := rb g0 _ l H
  exact PyProof.Rows.ne_dataH x y ha hb hu (hQ _ g0 s.heap s.toks (Le.rf _) H rfl)
theorem cInT {xs : List PyData} {d : PyData} (rc : RdH g hot v (.tuple xs)) (rx : RdH g hot u d) (h1 : PyData.canLayAll0 xs = true) (h2 : d.canLay0 = true) (h3 : PyData.depthAll xs ≤ 60) (hu : A.units + 64 < cLine) : Cn w A g hot (compareOp .In u v) fun _ r => r = .bool (xs.any fun y => PyData.eqv y d) := fun s Q E g0 l H hQ => by
  obtain ⟨as, x⟩ := rc g0 _ l H
  obtain ⟨bs, y⟩ := rx g0 _ l H
  refine SeqAt.in_tuple_reads x y h1 h2 ?_ (hQ _ g0 s.heap s.toks (Le.rf _) H rfl)
  have : min (PyData.depthAll xs) d.depth ≤ PyData.depthAll xs := Nat.min_le_left _ _
  omega
theorem cNotInT {xs : List PyData} {d : PyData} (rc : RdH g hot v (.tuple xs)) (rx : RdH g hot u d) (h1 : PyData.canLayAll0 xs = true) (h2 : d.canLay0 = true) (h3 : PyData.depthAll xs ≤ 60) (hu : A.units + 64 < cLine) : Cn w A g hot (compareOp .NotIn u v) fun _ r => r = .bool (!xs.any fun y => PyData.eqv y d) := fun s Q E g0 l H hQ => by
  obtain ⟨as, x⟩ := rc g0 _ l H
  obtain ⟨bs, y⟩ := rx g0 _ l H
  refine SeqAt.notIn_tuple_reads x y h1 h2 ?_ (hQ _ g0 s.heap s.toks (Le.rf _) H rfl)
  have : min (PyData.depthAll xs) d.depth ≤ PyData.depthAll xs := Nat.min_le_left _ _
  omega
variable {env : Env} {pos : Pos}
theorem neg {e : Expr} {i : Int} (c : Cn w A g hot (eval e env) fun _ v => IsI i v) : Cn w A g hot (eval (.UnaryOp .USub e pos) env) fun _ v => IsI (-i) v := fun s Q E g0 l H hQ =>
  wpAny_UnaryOp (c s _ E g0 l H fun v g1 h1 tk l1 H1 r1 => by
    obtain ⟨t, rfl⟩ := r1
    exact neg_int (hQ _ g1 h1 _ l1 H1 ⟨_, rfl⟩))
def pickL (vs : List Value) (lo hi : Option Int) : List Value := (slicePick vs.toArray lo hi none).toList
theorem slc {value : Expr} {lower upper : Option Expr} {p : Pos} {a : Addr} {vs : List Value} {lo hi : Option Int} (c : Cn w A g hot (eval value env) fun _ v => v = .ref a) (hl : HasL g hot a vs) (hz : vs.length ≤ 4096)
    (cl : ∀ g1, Le g g1 → Cn w A g1 hot (evalPart lower env) fun _ v => IsPart v lo) (cu : ∀ g1, Le g g1 → Cn w A g1 hot (evalPart upper env) fun _ v => IsPart v hi)
    (ht : ∀ o r, letTemporaryGo value o r = pure () := by intro _ _; rfl) :
    Cn w A g hot (eval (.Subscript value (.Slice lower upper none p) pos) env) fun g2 v => ∃ D, v = .ref D ∧ g2.get? D = some (listO (pickL vs lo hi) 0) := fun s Q E g0 l H hQ =>
  wpAny_Subscript_list_slice (c s _ E g0 l H fun v g1 h1 tk l1 H1 r1 => by
    subst r1
    refine cl g1 (l.tr l1) _ _ E g1 (Le.rf _) H1 fun vl g2 h2 tk2 l2 H2 r2 => ?_
    refine cu g2 ((l.tr l1).tr l2) _ _ E g2 (Le.rf _) H2 fun vu g3 h3 tk3 l3 H3 r3 => ?_
    refine ⟨a, vs.toArray, lo, hi, rfl, hl.at (((l.tr l1).tr l2).tr l3) H3, by rw [List.size_toArray]; exact Nat.le_trans hz (by decide), r2, r3, ?_⟩
    have H4 := H3.grow (Le.push h3 { cls := .type "slice", data := .fields #[vl, vu, .none] })
    obtain ⟨g5, l5, e5, H5⟩ := H4.fresh (listO (pickL vs lo hi) 0)
    have e6 : (h3.push { cls := .type "slice", data := .fields #[vl, vu, .none] }).objs.size = h3.objs.size + 1 := Heap.size_push ..
    rw [e6] at e5
    have e7 : (listO (pickL vs lo hi) 0 : Obj) = { cls := .type "list", data := .seq (slicePick vs.toArray lo hi none) } := by unfold pickL; simp
    rw [e7] at H5
    exact hQ _ g5 _ tk3 (((l1.tr l2).tr l3).tr l5) H5 ⟨_, rfl, e5⟩) ht
theorem partSome {e : Expr} {i : Int} (c : Cn w A g hot (eval e env) fun _ v => IsI i v) : Cn w A g hot (evalPart (some e) env) fun _ v => IsPart v (some i) := fun s Q E g0 l H hQ =>
  c s _ E g0 l H fun v g1 h1 tk l1 H1 r1 => by
    obtain ⟨t, rfl⟩ := r1
    exact hQ _ g1 h1 tk l1 H1 (.int i t)
theorem partNone : Cn w A g hot (evalPart none env) fun _ v => IsPart v none := .still (fun s Q E g0 l H hQ => wpAny_evalPart_none (hQ s.toks)) fun _ _ => .none
end
theorem filterMap_range {α : Type} (l : List α) : ∀ n, (List.range n).filterMap (fun i => l[i]?) = l.take n
  | 0 => rfl
  | n + 1 => by
    rw [List.range_succ, List.filterMap_append, filterMap_range l n, List.take_add_one]
    cases h : l[n]? <;> simp [h]
theorem pick_take (vs : List Value) (b : Nat) (hb : b ≤ vs.length) : pickL vs none (some b) = vs.take b := by
  unfold pickL slicePick sliceBounds
  have h1 : ¬ (b : Int) < 0 := by omega
  simp only [Option.getD_none, List.size_toArray, h1, if_false]
  have e1 : max 0 (min (b : Int) (vs.length : Int)) = (b : Int) := by omega
  have e2 : (if (1 : Int) > 0 then max 0 (min (b : Int) (vs.length : Int)) else max (-1) (min (b : Int) ((vs.length : Int) - 1))) = (b : Int) := by rw [if_pos (by decide), e1]
  have e3 : (if (1 : Int) > 0 then (0 : Int) else (vs.length : Int) - 1) = 0 := by rw [if_pos (by decide)]
  rw [e2, e3]
  have := sliceRange_one 0 b
  simp only [Int.natCast_zero] at this
  rw [this]
  simp [filterMap_range]
theorem pick_last (vs : List Value) : pickL vs (some (-1)) none = vs.drop (vs.length - 1) := by
  unfold pickL slicePick sliceBounds
  have h1 : (-1 : Int) < 0 := by decide
  simp only [Option.getD_none, List.size_toArray, h1, if_true]
  have e2 : (if (1 : Int) > 0 then max 0 (min (-1 + (vs.length : Int)) (vs.length : Int)) else max (-1) (min (-1 + (vs.length : Int)) ((vs.length : Int) - 1))) = ((vs.length - 1 : Nat) : Int) := by rw [if_pos (by decide)]; omega
  have e3 : (if (1 : Int) > 0 then (vs.length : Int) else -1) = vs.length := by rw [if_pos (by decide)]
  rw [e2, e3]
  have := sliceRange_one (vs.length - 1) vs.length
  rw [this]
  cases vs with
  | nil => rfl
  | cons a r =>
    simp only [List.length_cons, Nat.add_sub_cancel]
    have e : r.length + 1 - r.length = 1 := by omega
    rw [e]
    simp [List.range_succ]
    rw [List.drop_eq_getElem_cons (by simp), List.drop_eq_nil_of_le (by simp)]
end Mine

/-! C2 -/
open PySem PySem.W PyProof.Rows PySem.Spec PySem.Calls
set_option maxRecDepth 100000
set_option linter.unusedVariables false
namespace Mine

theorem deeper_handled {A : Around} {env : Env} : (A.deeper env).handled = A.handled := rfl
theorem deeper_depth {A : Around} {env : Env} : (A.deeper env).depth = A.depth + 1 := rfl

/-- from a contract over any further hot objects to the frame's own state -/
theorem Cn.under {w : World} {A : Around} {g : Heap} {L : Addr} {o : Obj} {p r : Hot} {α : Type} {t : Sem α} {R : Heap → α → Prop} (c : ∀ rest, Cn w A g (p ++ rest) t R) : Cn w A g ((L, o) :: (p ++ r)) t R :=
  (c ((L, o) :: r)).perm List.perm_middle

set_option maxHeartbeats 2000000 in
theorem c_has {w : World} {A : Around} {g : Heap} {hot : Hot} (p : Pg) {ns : List Int} {n : Int} {nv : Value} (hh : A.handled = none) (hd : A.depth < 890) (P : PgIn p w g hot) (W : Wd w g) (hi : IntsV p.nv ns) (hs : ns.Pairwise (· < ·)) (hz : ns.length < 100) (hn : IsI n nv) :
    Cn w A g (hot) (call (.ref 70) [.ref p.pa, nv]) fun _ v => v = .bool (decide (n ∈ ns)) := by
  refine enter W rfl rfl rfl rfl rfl (rlt hd) (fun L => ?_) (by decide) (locs rfl)
  refine eAsg (R1 := fun _ v => ∃ k : Nat, IsI k v ∧ PlaceAt ns n k) (fun o ho => ?_) fun gA v lA rv => ?_
  · refine calldef (f := 63) W rfl rfl rfl (arg2 (nV (.head _) ho rfl) fun _ _ => nV (.head _) ho rfl) fun g1 vs l1 r => ?_
    obtain ⟨a, b, rfl, rfl, rfl⟩ := r
    exact c_place p hh (show A.depth + 1 < 900 from dlt hd (by decide)) (P.t l1) (W.up l1) hi hs hz hn
  · obtain ⟨k, ⟨t, rfl⟩, h1, h2, h3⟩ := rv
    have Wn := W.up lA
    refine eRet (R1 := fun _ v => v = .bool (decide (n ∈ ns))) (fun o ho => vAnd (b := decide ((k : Int) < ns.length)) (cmp (nV (.head _) ho rfl) (fun g1 _ l1 _ => callbi (id := "len") (Wn.up l1) rfl rfl (arg1 (attrNm (nV (.head _) ho rfl) fun g2 v l2 r2 => by subst r2; exact getNumbers ((Wn.up l1).up l2) (.tail _ P.i) (.tail _ P.d))) fun g2 vs l2 r2 => by
        obtain ⟨a, rfl, rfl⟩ := r2
        exact (hi.1 ▸ bLen (P.t ((lA.tr l1).tr l2)).n.l (by rw [hi.1]; omega) : Cn w _ g2 _ _ fun _ r => IsI ns.length r)) fun g2 g3 u v l2 l3 ru rv => by
        subst ru
        exact cLt ⟨_, rfl⟩ rv) (fun hb g1 l1 => ?_) fun hb g1 l1 => ?_) fun g1 v l1 r => ⟨[], rfl, r⟩
    · have hb := of_decide_eq_false hb
      congr 1
      symm
      refine decide_eq_false fun hm => ?_
      obtain ⟨i, hi', e⟩ := List.getElem_of_mem hm
      have := h2 i n (by omega) (by rw [List.getElem?_eq_getElem hi', e])
      omega
    · have hb := of_decide_eq_true hb
      obtain ⟨x, hx⟩ : ∃ x, ns[k]? = some x := ⟨ns[k]'(by omega), List.getElem?_eq_getElem (by omega)⟩
      obtain ⟨xv, hxv, hxi⟩ := hi.get hx
      refine cmp (subs (attrNm (nV (.head _) ho rfl) fun g2 v l2 r2 => by subst r2; exact getNumbers ((Wn.up l1).up l2) (.tail _ P.i) (.tail _ P.d)) (fun g2 v l2 r2 => nV (.head _) ho rfl) fun g2 g3 u v l2 l3 ru rv => by
              subst ru rv
              exact iList (P.t (((lA.tr l1).tr l2).tr l3)).n.l ⟨_, rfl⟩ (by omega) (by omega) hxv) (fun g2 v l2 r2 => nV (.head _) ho rfl) fun g2 g3 u v l2 l3 ru rv => by
              subst ru rv
              refine (cEq hxi hn).imp fun g4 v _ r => ?_
              rw [r]
              congr 1
              have e1 : (x == n) = decide (x = n) := rfl
              rw [e1]
              refine decide_eq_decide.mpr ⟨fun q => q ▸ List.mem_of_getElem? hx, fun hm => ?_⟩
              obtain ⟨i, hi', e⟩ := List.getElem_of_mem hm
              have e2 : ns[i]? = some n := by rw [List.getElem?_eq_getElem hi', e]
              have hki : ¬ i < k := fun q => by have := h2 i n q e2; omega
              have h4 := h3 k x (Nat.le_refl _) hx
              have h1 := List.pairwise_iff_getElem.mp hs
              obtain ⟨hkl, ek⟩ := List.getElem?_eq_some_iff.mp hx
              by_cases hik : i = k
              · subst hik; rw [← e, ek]
              · have := h1 k i hkl hi' (by omega)
                rw [e, ek] at this
                omega
end Mine

/-! C3 -/
open PySem PySem.W PyProof.Rows PySem.Spec PySem.Calls
set_option maxRecDepth 100000
set_option linter.unusedVariables false
namespace Mine

inductive Tk where
  | s (k x : Str)
  | n (i : Int)
def Tk.d : Tk → PyData
  | .s k x => .tuple [.str k, .str x]
  | .n i => .tuple [.str "number", .int i]
def Tk.kind : Tk → Str
  | .s k _ => k
  | .n _ => "number"
def Tk.snd : Tk → PyData
  | .s _ x => .str x
  | .n i => .int i
def Tk.ok : Tk → Bool
  | .s k x => PyData.strOk k && PyData.strOk x && k != ("number" : Str)
  | .n _ => true
theorem Tk.d_eq (t : Tk) : t.d = .tuple [.str t.kind, t.snd] := by cases t <;> rfl
def Tk.is (t : Tk) (k x : Str) : Bool := match t with
  | .s k' x' => k' == k && x' == x
  | .n _ => false
def Tk.inW (t : Tk) (ws : List Str) : Bool := match t with
  | .s k x => k == ("word" : Str) && ws.contains x
  | .n _ => false
def Tk.isNum : Tk → Bool
  | .n _ => true
  | .s .. => false

section
variable {w : World} {A : Around} {g : Heap} {hot : Hot} {env : Env} {pos : Pos}
theorem dStr {x : Str} {k : Nat} : CD w A g hot (eval (.Constant (.str x) k pos) env) (.str x) := cS.imp fun _ _ _ ⟨t, e⟩ => e ▸ Rd.ofStr
theorem dInt {i : Int} {k : Nat} : CD w A g hot (eval (.Constant (.int i) k pos) env) (.int i) := cI.imp fun _ _ _ h => h.rd _
theorem dTup2 {e e2 : Expr} {k : Nat} {d d2 : PyData} (c : CD w A g hot (eval e env) d) (c2 : ∀ g1, Le g g1 → CD w A g1 hot (eval e2 env) d2)
    (he : starEach [e, e2] env = [(false, eval e env), (false, eval e2 env)] := by rfl) (he2 : starEach [e2] env = [(false, eval e2 env)] := by rfl) :
    CD w A g hot (eval (.Tuple [e, e2] k pos) env) (.tuple [d, d2]) :=
  (tup2 c c2 (fun _ _ _ l h => Rd.mono h l) (fun _ _ _ l h => Rd.mono h l) he he2).imp fun g1 v l ⟨t, a, b, n, e, h, r1, r2⟩ => e ▸ Rd.ofTup (HasT.of h) (.cons r1 (.cons r2 .nil))
/-- an item of a list that reads as ds, of a tuple -/
theorem iListD {value slice : Expr} {a : Addr} {vs : List Value} {ds : List PyData} {d : PyData} {k : Nat} {i : Value} (e : HasL g hot a vs) (r : RdAll g vs ds) (hi : IsI k i) (hz : ds.length < 10000) (hx : ds[k]? = some d)
    (hs : ∀ u, subscripted slice false (.ref a) (.int k u) = operate [.ref a, .int k u] (getItem (.ref a) (.int k u)) := by intro _; with_unfolding_all rfl) : CD w A g hot (subscriptTail value slice (.ref a) i) d := by
  obtain ⟨v, hv, rv⟩ := r.get hx
  have hk : k < ds.length := (List.getElem?_eq_some_iff.mp hx).1
  exact (iList e hi (by omega) (by omega) (by simpa using hv) hs).imp fun g1 u l q => q ▸ rv.mono l
theorem iTupD {value slice : Expr} {v : Value} {ds : List PyData} {d : PyData} {k : Nat} {i : Value} (r : Rd g v (.tuple ds)) (hi : IsI k i) (hz : ds.length < 10000) (hx : ds[k]? = some d)
    (hs : ∀ a u, subscripted slice false (.ref a) (.int k u) = operate [.ref a, .int k u] (getItem (.ref a) (.int k u)) := by intro _ _; with_unfolding_all rfl) : CD w A g hot (subscriptTail value slice v i) d := by
  obtain ⟨a, vs, rfl, ht, ra⟩ := r.tupInv
  obtain ⟨v, hv, rv⟩ := ra.get hx
  have hk : k < ds.length := (List.getElem?_eq_some_iff.mp hx).1
  exact (iTup ht hi (by omega) (by omega) (by simpa using hv) (hs a)).imp fun g1 u l q => q ▸ rv.mono l
end

/-- row[at + 1] -/
theorem rowAt1 {w : World} {A : Around} {g : Heap} {hot : Hot} {env : Env} {o : Obj} {m : Loc} {ra : Addr} {rv : List Value} {ds : List PyData} {d : PyData} {k kk : Nat} {kv : Value} {p1 p2 p3 p4 p5 : Pos} (hm : (env.locals, o) ∈ hot) (ho : ObjNs o m) (h1 : m "row" = some (.ref ra)) (h2 : m "at" = some kv) (hn : IsI k kv)
    (hl : HasL g hot ra rv) (hr : RdAll g rv ds) (hz : ds.length < 1000) (hd : ds[k + 1]? = some d) (hk : env.scope.kind = .function := by rfl) (hl1 : env.kindOf "row" = some .local := by rfl) (hl2 : env.kindOf "at" = some .local := by rfl) :
    CD w A g hot (eval (.Subscript (.Name "row" p1) (.BinOp (.Name "at" p2) .Add (.Constant (.int 1) kk p3) p4) p5) env) d :=
  subs (R2 := fun _ v => IsI ((k + 1 : Nat) : Int) v) (nV hm ho h1 hk hl1 (by decide)) (fun g2 _ l2 _ => bin (nV hm ho h2 hk hl2 (by decide)) (fun _ _ _ _ => cI) fun g2 g3 u v l2 l3 ru rv => by subst ru; exact oAdd hn rv) fun g2 g3 u v l2 l3 ru rv => by
    subst ru
    exact iListD (hl.up (l2.tr l3)) (hr.mono (l2.tr l3)) rv (by omega) hd

def isWhole (ts : List Tk) (at' : Nat) : Bool := match ts[at' + 1]? with
  | none => true
  | some t => t.is "sign" "," || t.is "sign" ":" || t.inW ["ELSE", "REM"]

theorem eqv_tok (t : Tk) (k x : Str) (ht : t.ok = true) : PyData.eqv (.tuple [.str k, .str x]) t.d = t.is k x := by
  cases t with
  | s k' x' =>
    simp only [Tk.d, PyData.eqv, PyData.eqvAll, Tk.is, Bool.and_true]
    rw [show (k == k') = (k' == k) from by simp [Bool.beq_comm], show (x == x') = (x' == x) from by simp [Bool.beq_comm]]
  | n i => simp [Tk.d, PyData.eqv, PyData.eqvAll, Tk.is]
theorem eqv_tok' (t : Tk) (k x : Str) (ht : t.ok = true) : PyData.eqv t.d (.tuple [.str k, .str x]) = t.is k x := by
  cases t with
  | s k' x' => simp [Tk.d, PyData.eqv, PyData.eqvAll, Tk.is]
  | n i => simp [Tk.d, PyData.eqv, PyData.eqvAll, Tk.is]
theorem tok_lay (t : Tk) (ht : t.ok = true) : t.d.canLay0 = true := by
  cases t with
  | s k x =>
    simp only [Tk.ok, Bool.and_eq_true] at ht
    simp [Tk.d, PyData.canLay0, PyData.canLayAll0, ht.1.1, ht.1.2]
  | n i =>
    simp only [Tk.d, PyData.canLay0, PyData.canLayAll0, Bool.and_true]
    decide +kernel
theorem snd_lay (t : Tk) (ht : t.ok = true) : t.snd.canLay0 = true := by
  cases t with
  | s k x => simp only [Tk.ok, Bool.and_eq_true] at ht; simpa [Tk.snd, PyData.canLay0] using ht.1.2
  | n i => rfl
theorem kind_lay (t : Tk) (ht : t.ok = true) : PyData.strOk t.kind = true := by
  cases t with
  | s k x => simp only [Tk.ok, Bool.and_eq_true] at ht; exact ht.1.1
  | n i => exact (by decide +kernel : PyData.strOk ("number" : Str) = true)

set_option maxHeartbeats 2000000 in
theorem c_whole {w : World} {A : Around} {g : Heap} {hot : Hot} {ra : Addr} {rv : List Value} {ts : List Tk} {k : Nat} {kv : Value} (hd : A.depth < 890) (hu : A.units + 200 < cLine) (W : Wd w g) (hl : HasL g hot ra rv) (hr : RdAll g rv (ts.map Tk.d)) (hok : ∀ t ∈ ts, t.ok = true)
    (hz : ts.length < 100) (hk : k < ts.length) (hn : IsI k kv) : Cn w A g hot (call (.ref 89) [.ref ra, kv]) fun _ v => v = .bool (isWhole ts k) := by
  refine enter W rfl rfl rfl rfl rfl (rlt hd) (fun L => ?_) (by decide) (locs rfl)
  have hln : rv.length = ts.length := by simpa using hr.length
  unfold isWhole
  cases hq : ts[k + 1]? with
  | none =>
    have hk1 : k + 1 = ts.length := by have := List.getElem?_eq_none_iff.mp hq; omega
    have hb1 : ((k : Int) + 1 == (ts.length : Int)) = true := by rw [← hk1]; simp
    refine eIf (b := ((k : Int) + 1 == (ts.length : Int)) || false) (fun o ho => tBool (tOr (tCmp (bin (nV (.head _) ho rfl) (fun _ _ _ _ => cI) fun g2 g3 u v l2 l3 ru rv => by subst ru; exact oAdd hn rv)
      (fun g1 _ l1 _ => callbi (id := "len") (W.up l1) rfl rfl (arg1 (nV (.head _) ho rfl)) fun g2 vs l2 r2 => by
        obtain ⟨a, rfl, rfl⟩ := r2
        exact bLen (vs := rv) ((hl.up (l1.tr l2)).imp (fun ⟨n, e⟩ => ⟨n, .tail _ e⟩) id) (by omega))
      fun g2 g3 u v l2 l3 ru rv => (cEq ru rv).imp fun g4 v _ r => ⟨_, by rw [r, hln], rfl⟩) fun hb => ?_)) (fun hb g1 l1 => ?_) fun hb => ?_
    · rw [hb1] at hb; cases hb
    · exact eRet (fun o ho => cB) fun g2 v l2 r => ⟨[], rfl, r⟩
    · rw [hb1] at hb; cases hb
  | some t =>
    have hk1 : k + 1 < ts.length := (List.getElem?_eq_some_iff.mp hq).1
    have hb1 : ((k : Int) + 1 == (ts.length : Int)) = false := by
      rw [beq_eq_false_iff_ne]; omega
    have htm : t ∈ ts := List.mem_of_getElem? hq
    have hto := hok t htm
    have hd1 : (ts.map Tk.d)[k + 1]? = some t.d := by simp [hq]
    refine eIf (b := ((k : Int) + 1 == (ts.length : Int)) || ((t.is "sign" "," || t.is "sign" ":") || false)) (fun o ho => tBool (tOr (tCmp (bin (nV (.head _) ho rfl) (fun _ _ _ _ => cI) fun g2 g3 u v l2 l3 ru rv => by subst ru; exact oAdd hn rv)
      (fun g1 _ l1 _ => callbi (id := "len") (W.up l1) rfl rfl (arg1 (nV (.head _) ho rfl)) fun g2 vs l2 r2 => by
        obtain ⟨a, rfl, rfl⟩ := r2
        exact bLen (vs := rv) ((hl.up (l1.tr l2)).imp (fun ⟨n, e⟩ => ⟨n, .tail _ e⟩) id) (by omega))
      fun g2 g3 u v l2 l3 ru rv => (cEq ru rv).imp fun g4 v _ r => ⟨_, by rw [r, hln], rfl⟩) fun hb g1 l1 => tOr (tCmp (R1 := fun g v => Rd g v t.d) (R2 := fun g v => Rd g v (.tuple [.tuple [.str "sign", .str ","], .tuple [.str "sign", .str ":"]])) (subs (R2 := fun _ v => IsI ((k + 1 : Nat) : Int) v) (nV (.head _) ho rfl) (fun g2 _ l2 _ => bin (nV (.head _) ho rfl) (fun _ _ _ _ => cI) fun g2 g3 u v l2 l3 ru rv => by subst ru; exact oAdd hn rv) fun g2 g3 u v l2 l3 ru rv => by
          subst ru
          exact iListD (((hl.up ((l1.tr l2).tr l3))).imp (fun ⟨n, e⟩ => ⟨n, .tail _ e⟩) id) (hr.mono ((l1.tr l2).tr l3)) rv (by simp; omega) hd1)
        (fun g2 _ l2 _ => dTup2 (dTup2 dStr fun _ _ => dStr) fun _ _ => dTup2 dStr fun _ _ => dStr) fun g2 g3 u v l2 l3 ru rv => (cInT rv.h (ru.mono l3).h (by decide +kernel) (tok_lay t hto) (by decide +kernel) (show A.units + 3 + 64 < cLine from ult hu (by decide))).imp fun g4 r _ e => ⟨_, e, by
          simp only [List.any_cons, List.any_nil, Bool.or_false, eqv_tok t _ _ hto]⟩) fun _ _ _ => tOr0)) (fun hb g1 l1 => ?_) fun hb g1 l1 => ?_
    · refine eRet (fun o ho => cB) fun g2 v l2 r => ⟨[], rfl, ?_⟩
      rw [hb1, Bool.false_or, Bool.or_false] at hb
      dsimp only
      rw [r, hb]; rfl
    · rw [hb1, Bool.false_or, Bool.or_false] at hb
      dsimp only
      rw [hb, Bool.false_or]
      have hte := t.d_eq
      refine eRet (R1 := fun _ v => v = .bool (t.inW ["ELSE", "REM"])) (fun o ho => vAnd (b := t.kind == ("word" : Str)) (cmp (R1 := fun g v => Rd g v (.str t.kind)) (subs (rowAt1 (.head _) ho rfl rfl hn ((hl.up l1).imp (fun ⟨n, e⟩ => ⟨n, .tail _ e⟩) id) (hr.mono l1) (by simp; omega) hd1) (fun _ _ _ _ => cI) fun g2 g3 u v l2 l3 ru rv => iTupD (k := 0) (hte ▸ ru.mono l3) rv (by simp) rfl) (fun _ _ _ _ => dStr) fun g2 g3 u v l2 l3 ru rv => (cEqD (ru.mono l3).h rv.h (by simp [SeqAt.shaped, PyData.canLay0, PyData.depth, kind_lay t hto]) (by decide +kernel) (show A.units + 3 + 64 < cLine from ult hu (by decide))).imp fun g4 r _ e => by rw [e]; simp [PyData.eqv])
        (fun hb g2 l2 => ?_) fun hb g2 l2 => ?_) fun g2 v l2 r => ⟨[], rfl, r⟩
      · cases t with
        | s k x => simp only [Tk.kind] at hb; simp [Tk.inW, hb]
        | n i => rfl
      · refine cmp (R1 := fun g v => Rd g v t.snd) (subs (rowAt1 (.head _) ho rfl rfl hn ((hl.up (l1.tr l2)).imp (fun ⟨n, e⟩ => ⟨n, .tail _ e⟩) id) (hr.mono (l1.tr l2)) (by simp; omega) hd1) (fun _ _ _ _ => cI) fun g2 g3 u v l2 l3 ru rv => iTupD (k := 1) (hte ▸ ru.mono l3) rv (by simp) rfl) (fun _ _ _ _ => dTup2 dStr fun _ _ => dStr) fun g2 g3 u v l2 l3 ru rv => (cInT rv.h (ru.mono l3).h (by decide +kernel) (snd_lay t hto) (by decide +kernel) (show A.units + 3 + 64 < cLine from ult hu (by decide))).imp fun g4 r _ e => by
          rw [e]
          cases t with
          | s k x =>
            simp only [Tk.kind] at hb
            simp [Tk.snd, Tk.inW, hb, PyData.eqv, Bool.beq_comm]; rfl
          | n i => simp only [Tk.kind] at hb; exact absurd hb (by decide +kernel)
end Mine

/-! Lg10 -/
open PySem PySem.W PyProof.Rows PySem.Spec PySem.Calls
set_option maxRecDepth 100000
set_option linter.unusedVariables false
namespace Mine

section
variable {w : World} {A : Around} {g : Heap} {m : Loc} {hot : Hot} {env : Env} {pos : Pos} {R : Flow → Heap → Loc → Hot → Prop} {rest : List Stmt}
/-- an if whose two ways meet behind it -/
theorem eIfJ {test : Expr} {body orelse : List Stmt} {b : Bool} (J : Heap → Loc → Hot → Prop) (c : ∀ o, ObjNs o m → Ts w A g ((env.locals, o) :: hot) test env b)
    (kt : b = true → ∀ g1, Le g g1 → Em w A env.locals g1 m hot (execs body env) fun fl g2 m2 hot2 => fl = .next ∧ J g2 m2 hot2)
    (kf : b = false → ∀ g1, Le g g1 → Em w A env.locals g1 m hot (execs orelse env) fun fl g2 m2 hot2 => fl = .next ∧ J g2 m2 hot2)
    (k : ∀ g1 m1 hot1, Le g g1 → J g1 m1 hot1 → Em w A env.locals g1 m1 hot1 (execs rest env) R) : Em w A env.locals g m hot (execs (.If test body orelse pos :: rest) env) R := fun o hn s Q E g0 l H hQ => by
  refine wpAny_execs_cons (wpAny_If (c o hn s _ E g0 l H fun u g1 h1 tk l1 H1 r1 => ?_))
  subst r1
  have fin : ∀ (v : Flow) (g2 : Heap) (m1 : Loc) (hot1 : Hot) (o1 : Obj) (h2 : Heap) (tk2 : Nat), Le g1 g2 → ObjNs o1 m1 → At g2 ((env.locals, o1) :: hot1) h2 → (v = .next ∧ J g2 m1 hot1) →
      (match v with | .next => wpAny (MM w) A (execs rest env) Q E { s with heap := h2, toks := tk2 } | f => Q f { s with heap := h2, toks := tk2 }) := by
    rintro v g2 m1 hot1 o1 h2 tk2 l2 hn2 H2 ⟨rfl, hJ⟩
    exact k g2 m1 hot1 ((l.tr l1).tr l2) hJ o1 hn2 _ Q E g2 (Le.rf _) H2 fun f g4 m4 hot4 o4 h4 tk4 l4 hn4 H4 r4 => hQ f g4 m4 hot4 o4 h4 tk4 ((l1.tr l2).tr l4) hn4 H4 r4
  cases u with
  | true => rw [if_pos rfl]; exact kt rfl g1 (l.tr l1) o hn _ _ E g1 (Le.rf _) H1 fin
  | false => rw [if_neg (by decide)]; exact kf rfl g1 (l.tr l1) o hn _ _ E g1 (Le.rf _) H1 fin
end

/-- a source that a clause draws from: each draw ends with the target bound -/
structure Dr (w : World) (A : Around) (gB : Heap) (tgt : Expr) (env : Env) (I : Addr) (fp wr : List Addr) (n : Nat) (St : Nat → Heap → Prop) (B : Nat → Loc → Prop) : Prop where
  draw : ∀ i (s : Shared) (E : Value → Shared → Prop) (Q : Shared → Prop) (g : Heap) (hot keep its : Hot) (oC : Obj) (m : Loc), i < n → Le gB g → St i s.heap → ObjNs oC m → At g ((env.locals, oC) :: (its ++ hot)) s.heap → its.map (·.1) = wr →
    (∀ b ∈ fp, b ∈ wr ∨ (∃ o, g.get? b = some o) ∨ ∃ o, (b, o) ∈ keep) → (∀ p ∈ keep, p ∈ hot) →
    (∀ m' oC' its' h' tk, B i m' → ObjNs oC' m' → At g ((env.locals, oC') :: (its' ++ hot)) h' → its'.map (·.1) = wr → St (i + 1) h' → Q { s with heap := h', toks := tk }) →
    wpAny (MM w) A (pyNext (.ref I)) (fun r s1 => match r with
      | none => False
      | some v => wpAny (MM w) A (letOwnedTupleGo tgt (.ref I) v) (fun _ s2 => wpAny (MM w) A (assign tgt env v) (fun _ s3 => Q s3) E s2) E s1) E s
abbrev plainB (env : Env) : Prop := (env.scope.kind == .class || (env.scope.kind == .module && env.locals != env.globals)) = false
theorem Dr.name {w : World} {A : Around} {gB : Heap} {env : Env} {x : Str} {px : Pos} {I : Addr} {fp wr : List Addr} {n : Nat} {P : Nat → Value → Prop} {St : Nat → Heap → Prop} (W : Walks PP w A I fp wr n P St) (lv : ∀ i h, St i h → ∀ b ∈ wr, ∃ o, h.get? b = some o)
    (hx : env.kindOf x = some .local) (hp : plainB env) : Dr w A gB (.Name x px) env I fp wr n St fun i m => ∃ v, P i v ∧ m x = some v where
  draw := fun i s E Q g hot keep its oC m hi lB st hn H ei hfp hk hQ => W.item i _ _ _ hi st fun v h' tk hP st' hk' => by
    obtain ⟨its3, ei3, H3⟩ := H.reown ei hk' (lv _ _ st')
    refine wpAny_of_eq (a := ()) rfl ?_
    exact PySem.wpAny_assign_Name (store hn H3 (fun o' h2 tk2 hn2 H2 => hQ _ o' its3 h2 tk2 ⟨v, hP, if_pos rfl⟩ hn2 H2 ei3 (stKeep W.frame ei3 H3 H2 (Le.rf _) hfp hk hk st')) hx hp)
theorem Dr.pair {w : World} {A : Around} {gB : Heap} {env : Env} {x y : Str} {px py tp : Pos} {kk : Nat} {I : Addr} {fp wr : List Addr} {n : Nat} {Pt : Nat → Array Value → Prop} {P : Nat → Value → Value → Prop} {St : Nat → Heap → Prop} {Mid : Nat → Addr → Heap → Prop} (hh : A.handled = none) (W : WalksT PP w A I fp wr n Pt St Mid)
    (hPt : ∀ i vals, Pt i vals → ∃ a b, vals = #[a, b] ∧ P i a b) (lv : ∀ i h, St i h → ∀ b ∈ wr, ∃ o, h.get? b = some o)
    (hx : env.kindOf x = some .local) (hy : env.kindOf y = some .local) (hxy : x ≠ y) (hp : plainB env) : Dr w A gB (.Tuple [.Name x px, .Name y py] kk tp) env I fp wr n St fun i m => ∃ a b, P i a b ∧ m x = some a ∧ m y = some b where
  draw := fun i s E Q g hot keep its oC m hi lB st hn H ei hfp hk hQ => W.item i _ _ _ hi st fun T vals h3 tk hP hT hIT hM hk3 => by
    refine W.go _ _ _ i T _ _ _ hM fun h4 hst4 hk4 => ?_
    have hTw := W.apart i T h3 hM
    obtain ⟨a, b, rfl, hP'⟩ := hPt i vals hP
    have hIT4 : h4.IsTuple T #[a, b] := by obtain ⟨oT, eT, rT⟩ := hIT; exact ⟨oT, hk4 _ _ hTw eT, rT⟩
    obtain ⟨its3, ei3, H3⟩ := H.reown ei (fun b o hb e => hk4 b o hb (hk3 b o hb e)) (lv _ _ hst4)
    refine wpAny_assign_Tuple (items := #[a, b]) hh hIT4 rfl rfl fun h5 he5 => ?_
    have H5 := H3.extBut he5
    have hst5 : St (i + 1) h5 := stKeep W.frame ei3 H3 H5 (Le.rf _) hfp hk hk hst4
    show wpAny _ _ (assignInOrder [assign (.Name x px) env, assign (.Name y py) env] [a, b]) _ _ _
    refine wpAny_assignInOrder_more (PySem.wpAny_assign_Name (store hn H5 (fun o6 h6 tk6 hn6 H6 => ?_) hx hp))
    refine wpAny_assignInOrder_more (PySem.wpAny_assign_Name (store hn6 H6 (fun o7 h7 tk7 hn7 H7 => ?_) hy hp))
    exact wpAny_pure (hQ _ o7 its3 h7 _ ⟨a, b, hP', (if_neg hxy).trans (if_pos rfl), if_pos rfl⟩ hn7 H7 ei3 (stKeep W.frame ei3 H5 H7 (Le.rf _) hfp hk hk hst5))
/-- pairs out of a list of frozen pairs -/
theorem Dr.pairL {w : World} {A : Around} {gB : Heap} {env : Env} {x y : Str} {px py tp : Pos} {kk : Nat} {I ax : Addr} {vs : List Value} {P : Nat → Value → Value → Prop} (hh : A.handled = none) (hne : ax ≠ I)
    (hT : ∀ i v, vs[i]? = some v → ∃ T a b, v = .ref T ∧ HasT gB T [a, b] ∧ P i a b)
    (hx : env.kindOf x = some .local) (hy : env.kindOf y = some .local) (hxy : x ≠ y) (hp : plainB env) : Dr w A gB (.Tuple [.Name x px, .Name y py] kk tp) env I [I, ax] [I] vs.toArray.size (fun i h => h.IsListIter I ax i ∧ h.IsList ax vs.toArray) fun i m => ∃ a b, P i a b ∧ m x = some a ∧ m y = some b where
  draw := fun i s E Q g hot keep its oC m hi lB st hn H ei hfp hk hQ => (Walks.list (prog := PP) (w := w) hh I ax hne vs.toArray).item i _ _ _ hi st fun v h4 tk hP hst4 hk4 => by
    obtain ⟨T, a, b, rfl, eT, hP'⟩ := hT i v (by simpa using hP)
    refine wpAny_letOwnedTupleGo_listiter hst4.1 ?_
    obtain ⟨its3, ei3, H3⟩ := H.reown ei (fun b o hb e => hk4 b o hb e) (by
      intro b hb; rw [List.mem_singleton.mp hb]
      obtain ⟨o, e, _⟩ := hst4.1; exact ⟨o, e⟩)
    have hIT4 : h4.IsTuple T #[a, b] := eT.at lB H3
    refine wpAny_assign_Tuple (items := #[a, b]) hh hIT4 rfl rfl fun h5 he5 => ?_
    have H5 := H3.extBut he5
    have hst5 := stKeep (Walks.list (prog := PP) (w := w) hh I ax hne vs.toArray).frame ei3 H3 H5 (Le.rf _) hfp hk hk hst4
    show wpAny _ _ (assignInOrder [assign (.Name x px) env, assign (.Name y py) env] [a, b]) _ _ _
    refine wpAny_assignInOrder_more (PySem.wpAny_assign_Name (store hn H5 (fun o6 h6 tk6 hn6 H6 => ?_) hx hp))
    refine wpAny_assignInOrder_more (PySem.wpAny_assign_Name (store hn6 H6 (fun o7 h7 tk7 hn7 H7 => ?_) hy hp))
    exact wpAny_pure (hQ _ o7 its3 h7 _ ⟨a, b, hP', (if_neg hxy).trans (if_pos rfl), if_pos rfl⟩ hn7 H7 ei3 (stKeep (Walks.list (prog := PP) (w := w) hh I ax hne vs.toArray).frame ei3 H5 H7 (Le.rf _) hfp hk hk hst5))

structure SrcAt (w : World) (A : Around) (g : Heap) (hot : Hot) (h : Heap) (it : Value) (tgt : Expr) (n : Nat) (B : Nat → Loc → Prop) (keep : Hot) (K : Env → Prop) : Prop where
  ex : ∃ I fp wr St its, it = .ref I ∧ (∀ env, K env → Dr w A g tgt env I fp wr n St B) ∧ (∀ i h, St i h → ∀ b ∈ wr, ∃ o, h.get? b = some o) ∧ (∀ i h h', St i h → (∀ b ∈ fp, ∀ o, h.get? b = some o → h'.get? b = some o) → St i h') ∧
    (∀ (s : Shared) (Q : Option Value → Shared → Prop) (E : Value → Shared → Prop), St n s.heap → (∀ h' tk, (∀ b o, b ∉ wr → s.heap.get? b = some o → h'.get? b = some o) → Q none { s with heap := h', toks := tk }) → wpAny (MM w) A (pyNext (.ref I)) Q E s) ∧
    (∀ i (s : Shared) (Q : Value → Shared → Prop) (E : Value → Shared → Prop), St i s.heap → Q (.ref I) s → wpAny (MM w) A (pyIter (.ref I)) Q E s) ∧
    its.map (·.1) = wr ∧ At g (its ++ hot) h ∧ St 0 h ∧ ∀ b ∈ fp, b ∈ wr ∨ (∃ o, g.get? b = some o) ∨ ∃ o, (b, o) ∈ keep
def Src (w : World) (A : Around) (g : Heap) (hot : Hot) (t : Sem Value) (tgt : Expr) (n : Nat) (B : Nat → Loc → Prop) (keep : Hot) (K : Env → Prop) : Prop :=
  ∀ (s : Shared) (Q : Value → Shared → Prop) (E : Value → Shared → Prop) (g0 : Heap), Le g g0 → At g0 hot s.heap → (∀ it g1 h1 tk, Le g0 g1 → SrcAt w A g1 hot h1 it tgt n B keep K → Q it { s with heap := h1, toks := tk }) →
    wpAny (MM w) A t (fun x s1 => wpAny (MM w) A (pyIter x) Q E s1) E s
section
variable {w : World} {A : Around} {g : Heap} {hot : Hot} {t : Sem Value}
theorem Src.name {x : Str} {px : Pos} {n : Nat} {P : Nat → Value → Prop} {keep : Hot} (it : It w A g hot t n P keep) : Src w A g hot t (.Name x px) n (fun i m => ∃ v, P i v ∧ m x = some v) keep fun env => env.kindOf x = some .local ∧ plainB env := fun s Q E g0 l H hQ =>
  it s Q E g0 l H fun v g1 h1 tk l1 r => hQ v g1 h1 tk l1 (by
    obtain ⟨I, fp, wr, St, its, rfl, W, lv, ei, H1, hst, hfp⟩ := r.ex
    exact ⟨I, fp, wr, St, its, rfl, fun env hK => Dr.name W lv hK.1 hK.2, lv, W.frame, W.done, W.self, ei, H1, hst, hfp⟩)
theorem Src.pair {x y : Str} {px py tp : Pos} {kk n : Nat} {P : Nat → Value → Value → Prop} {keep : Hot} (hh : A.handled = none) (it : ItT w A g hot t n P keep) (hxy : x ≠ y) :
    Src w A g hot t (.Tuple [.Name x px, .Name y py] kk tp) n (fun i m => ∃ a b, P i a b ∧ m x = some a ∧ m y = some b) keep fun env => env.kindOf x = some .local ∧ env.kindOf y = some .local ∧ plainB env := fun s Q E g0 l H hQ =>
  it s Q E g0 l H fun v g1 h1 tk l1 r => hQ v g1 h1 tk l1 (by
    obtain ⟨I, fp, wr, Pt, St, Mid, its, rfl, W, hPt, lv, ei, H1, hst, hfp⟩ := r.ex
    exact ⟨I, fp, wr, St, its, rfl, fun env hK => Dr.pair hh W hPt lv hK.1 hK.2.1 hxy hK.2.2, lv, W.frame, W.done, W.self, ei, H1, hst, hfp⟩)
theorem Src.pairL {x y : Str} {px py tp : Pos} {kk n : Nat} {P : Nat → Value → Value → Prop} (hh : A.handled = none) (hxy : x ≠ y)
    (c : Cn w A g hot t fun g1 v => ∃ a vs k, v = .ref a ∧ g1.get? a = some (listO vs k) ∧ vs.length = n ∧ ∀ i v, vs[i]? = some v → ∃ T a b, v = .ref T ∧ HasT g1 T [a, b] ∧ P i a b) :
    Src w A g hot t (.Tuple [.Name x px, .Name y py] kk tp) n (fun i m => ∃ a b, P i a b ∧ m x = some a ∧ m y = some b) [] fun env => env.kindOf x = some .local ∧ env.kindOf y = some .local ∧ plainB env := fun s Q E g0 l H hQ => by
  refine c s _ E g0 l H fun v g1 h1 tk l1 H1 r1 => ?_
  obtain ⟨a, vs, kl, rfl, ea, hn, hT⟩ := r1
  have hL : h1.IsList a vs.toArray := (HasL.of (hot := []) ea).at (Le.rf _) (H1.sub (List.nil_sublist _))
  refine wpAny_pyIter_list hL ?_
  have hne : a ≠ h1.objs.size := by obtain ⟨o, e, _⟩ := hL; exact Nat.ne_of_lt (Heap.lt_size e)
  have W := Walks.list (prog := PP) (w := w) hh h1.objs.size a hne vs.toArray
  have e : vs.toArray.size = n := by rw [List.size_toArray, hn]
  refine hQ _ g1 _ tk l1 ⟨h1.objs.size, [h1.objs.size, a], [h1.objs.size], _, [(h1.objs.size, _)], rfl, fun env hK => e ▸ Dr.pairL hh hne hT hK.1 hK.2.1 hxy hK.2.2, ?_, W.frame, e ▸ W.done, W.self, rfl, H1.push _, ⟨⟨_, Heap.get?_push_size _ rfl, rfl, rfl⟩, hL.push _⟩, ?_⟩
  · rintro i h ⟨⟨o, e, _⟩, _⟩ b hb
    rw [List.mem_singleton.mp hb]; exact ⟨o, e⟩
  · intro b hb
    rcases List.mem_cons.mp hb with rfl | hb
    · exact .inl (.head _)
    · rw [List.mem_singleton.mp hb]
      exact .inr (.inl ⟨_, ea⟩)
theorem Walks.imp {A : Around} {I : Addr} {fp wr : List Addr} {n : Nat} {P P' : Nat → Value → Prop} {St : Nat → Heap → Prop} (W : Walks PP w A I fp wr n P St) (h : ∀ i v, i < n → P i v → P' i v) : Walks PP w A I fp wr n P' St :=
  { W with item := fun i s Q E hi st hQ => W.item i s Q E hi st fun v h' tk p => hQ v h' tk (h i v hi p) }
/-- over a frozen list that is only computed -/
theorem itL {n : Nat} {P : Nat → Value → Prop} (hh : A.handled = none)
    (c : Cn w A g hot t fun g1 v => ∃ a vs k, v = .ref a ∧ g1.get? a = some (listO vs k) ∧ vs.length = n ∧ ∀ i v, vs[i]? = some v → P i v) : It w A g hot t n P [] := fun s Q E g0 l H hQ => by
  refine c s _ E g0 l H fun v g1 h1 tk l1 H1 r1 => ?_
  obtain ⟨a, vs, kl, rfl, ea, hn, hP⟩ := r1
  have hL : h1.IsList a vs.toArray := (HasL.of (hot := []) ea).at (Le.rf _) (H1.sub (List.nil_sublist _))
  refine wpAny_pyIter_list hL ?_
  have hne : a ≠ h1.objs.size := by obtain ⟨o, e, _⟩ := hL; exact Nat.ne_of_lt (Heap.lt_size e)
  have W := Walks.list (prog := PP) (w := w) hh h1.objs.size a hne vs.toArray
  have e : vs.toArray.size = n := by rw [List.size_toArray, hn]
  rw [e] at W
  refine hQ _ g1 _ tk l1 ⟨⟨h1.objs.size, _, _, _, [(h1.objs.size, _)], rfl, Walks.imp W fun i v _ h => hP i v (by simpa using h), ?_, rfl, H1.push _, ⟨⟨_, Heap.get?_push_size _ rfl, rfl, rfl⟩, hL.push _⟩, ?_⟩⟩
  · rintro i h ⟨⟨o, e, _⟩, _⟩ b hb
    rw [List.mem_singleton.mp hb]; exact ⟨o, e⟩
  · intro b hb
    rcases List.mem_cons.mp hb with rfl | hb
    · exact .inl (.head _)
    · rw [List.mem_singleton.mp hb]
      exact .inr (.inl ⟨_, ea⟩)
end

theorem loopG {w : World} {A : Around} {tgt elt iter : Expr} {ifs : List Expr} {scope : Scope} {pos : Pos} {it acc : Value} {env : Env} {s : Shared} {R : Result → Shared → Prop} (I : Nat → Shared → Prop)
    (turn : ∀ n s, I n s → wpAny (MM w) A (pyNext it) (fun r s1 => match r with
      | none => R (.ok .next) s1
      | some v => wpAny (MM w) A (letOwnedTupleGo tgt it v) (fun _ s2 => wpAny (MM w) A (assign tgt env v) (fun _ s3 => wpAny (MM w) A (tests ifs env) (fun ok s4 =>
          if ok = true then wpAny (MM w) A (eval elt env) (fun x s5 => wpAny (MM w) A (call (.builtin "list.append") [acc, x]) (fun _ s6 => ∃ m, m < n ∧ I m s6) (notedBy (MM w) A env fun e s' => R (.error e) s') s5) (notedBy (MM w) A env fun e s' => R (.error e) s') s4
          else ∃ m, m < n ∧ I m s4) (notedBy (MM w) A env fun e s' => R (.error e) s') s3) (notedBy (MM w) A env fun e s' => R (.error e) s') s2) (notedBy (MM w) A env fun e s' => R (.error e) s') s1) (notedBy (MM w) A env fun e s' => R (.error e) s') s)
    (n : Nat) (h : I n s) : codeAny (MM w) A (.compLoop (.ListComp elt [⟨tgt, iter, ifs, 0⟩] scope pos) 0 it acc env) R s := by
  refine codeAny_loop rfl I (fun n s hI => ?_) n h
  show wpAny _ A ((compTurn (.ListComp elt [⟨tgt, iter, ifs, 0⟩] scope pos) 0 it acc env).onRaise (fun x => do noteFrame x env; theTreesLotGoes x)) _ _ s
  refine wpAny_noted ?_
  rw [compTurn_list]
  refine wpAny_bind (wpAny_standAt (wpAny_bind (wpAny_mono (turn n s hI) (fun r s1 h1 => ?_) fun _ _ h' => h')))
  cases r with
  | none => exact wpAny_pure h1
  | some v =>
    refine wpAny_bind (wpAny_mono h1 (fun _ s2 h2 => ?_) fun _ _ h' => h')
    refine wpAny_bind (wpAny_mono h2 (fun _ s3 h3 => ?_) fun _ _ h' => h')
    refine wpAny_bind (wpAny_mono h3 (fun ok s4 h4 => ?_) fun _ _ h' => h')
    cases ok with
    | false => exact wpAny_pure ⟨rfl, h4⟩
    | true => exact wpAny_bind (wpAny_bind (wpAny_mono h4 (fun x s5 h5 => wpAny_bind (wpAny_mono h5 (fun _ s6 h6 => wpAny_pure (wpAny_pure ⟨rfl, h6⟩)) fun _ _ h' => h')) fun _ _ h' => h'))

/-- the comprehension's state between two turns -/
inductive CompI (hot : Hot) (wr : List Addr) (St : Nat → Heap → Prop) (Acc : Nat → Heap → List Value → Prop) (g1 : Heap) (C D : Addr) (n : Nat) (s : Shared) : Nat → Shared → Prop where
  | mk (i : Nat) (g2 : Heap) (m2 : Loc) (oC : Obj) (ys : List Value) (nD : Nat) (its2 : Hot) (h2 : Heap) (tk2 : Nat) (l : Le g1 g2) (hn : ObjNs oC m2) (ei : its2.map (·.1) = wr) (H : At g2 ((C, oC) :: (its2 ++ (D, listO ys nD) :: hot)) h2) (st : St i h2) (ac : Acc i g2 ys) (hyl : ys.length ≤ i) (hi : i ≤ n) :
      CompI hot wr St Acc g1 C D n s (n + 1 - i) { s with heap := h2, toks := tk2 }

section
variable {w : World} {A : Around} {g : Heap} {hot : Hot} {env : Env} {pos : Pos}
theorem compCore {pos2 : Pos} {elt iter tgt : Expr} {ifs : List Expr} {scope : Scope} {cl : List (Str × Addr)} {n : Nat} {B : Nat → Loc → Prop} {keep : Hot} {K : Env → Prop} (use : Option (Value → Sem Unit)) {s : Shared} {Q : Value → Shared → Prop} {E : Value → Shared → Prop} {g0 : Heap}
    (l : Le g g0) (H : At g0 hot s.heap) (it : Src w A g hot (eval iter env) tgt n B keep K) (hkeep : ∀ p ∈ keep, p ∈ hot) (hK : ∀ C, K (compEnvC scope cl C env))
    (Acc : Nat → Heap → List Value → Prop) (b : Nat → Bool) (hz : n ≤ 4000) (acc0 : ∀ g1, Le g g1 → Acc 0 g1 []) (amono : ∀ i g1 g2 ys, Le g1 g2 → Acc i g1 ys → Acc i g2 ys)
    (test : ∀ i C oC m ext g1, Le g g1 → i < n → B i m → ObjNs oC m → Cn w A g1 ((C, oC) :: (ext ++ hot)) (tests ifs (compEnvC scope cl C env)) fun _ r => r = b i)
    (el : ∀ i C oC m ext g1 ys, Le g g1 → i < n → B i m → b i = true → ObjNs oC m → Acc i g1 ys → Cn w A g1 ((C, oC) :: (ext ++ hot)) (eval elt (compEnvC scope cl C env)) fun g2 y => Acc (i + 1) g2 (ys ++ [y]))
    (sk : ∀ i g1 ys, b i = false → Acc i g1 ys → Acc (i + 1) g1 ys)
    (fin : ∀ g2 D ys nD C oC m2 h' tk, Le g0 g2 → ObjNs oC m2 → At g2 ((C, oC) :: (D, listO ys nD) :: hot) h' → Acc n g2 ys → compPost (MM w) A E use Q (.ref D) C (.ok .next) { s with heap := h', toks := tk })
    (hclos : closureFor scope env = pure cl) (hcell : ∀ y ∈ scope.names, y.2 ≠ .cell) (hkind : scope.kind = .function)
    (hnames : ∀ y ∈ scope.names, y.2 = .local → scope.names.lookup y.1 = some .local) (hs : ∀ x, foldedSetIterable iter env x = pure x) :
    wpAny (MM w) A (comprehension (.ListComp elt [⟨tgt, iter, ifs, 0⟩] scope pos) scope env pos2 (newList []) false (eval iter env) use) Q E s := by
  refine wpAny_comprehension_free (use := use) rfl hs hclos hkind hnames (it s _ E g0 l H fun itv g1 h1 tk l1 hI => ?_)
  obtain ⟨I, fp, wr, St, its, rfl, W, lv, frame, done, self, ei, H1, hst, hfp⟩ := hI.ex
  refine wpAny_newObj_type (wpAny_newFunctionEnv hcell (by intro y hy; simp at hy) (fun h₁ hns₁ hsb₁ => ?_) hkind)
  dsimp only at hns₁ hsb₁ ⊢
  generalize hD : h1.objs.size = D at hns₁ hsb₁ ⊢
  have HD : At g1 (its ++ (D, listO [] 0) :: hot) (h1.push (listO [] 0)) := hD ▸ (H1.push (listO [] 0)).perm List.perm_middle.symm
  generalize hH2 : h1.push { cls := .type "list", dict := none, data := .seq ([] : List Value).toArray } = H2 at hns₁ hsb₁ ⊢
  have HD2 : At g1 (its ++ (D, listO [] 0) :: hot) H2 := hH2 ▸ HD
  have HC := HD2.push { cls := .type "dict", data := .dict #[] }
  obtain ⟨oC, eC, hnC⟩ := ObjNs.of hns₁
  have HC2 : At g1 ((H2.objs.size, oC) :: (its ++ (D, listO [] 0) :: hot)) h₁ := HC.set hsb₁ eC
  generalize hC : H2.objs.size = C at *
  have old : Le h1 h₁ := fun b o e => by
    have e2 : H2.get? b = some o := hH2 ▸ Heap.get?_push_of_some _ e
    exact (hsb₁.2 b (by rw [← hC]; exact Nat.ne_of_lt (Heap.lt_size e2))).trans (Heap.get?_push_of_some _ e2)
  have hst₁ : St 0 h₁ := frame _ _ _ hst fun b _ o e => old b o e
  have D0 := W _ (hK C)
  have loop : ∀ s₃ : Shared, s₃ = { s with heap := h₁, toks := tk + ([] : List (Str × Value)).length } →
      codeAny (MM w) A (.compLoop (.ListComp elt [⟨tgt, iter, ifs, 0⟩] scope pos) 0 (.ref I) (.ref D) (compEnvC scope cl C env)) (compPost (MM w) A E use Q (.ref D) C) s₃ := by
    rintro s₃ rfl
    refine loopG (CompI hot wr St Acc g1 C D n s) ?_ (n + 1)
      (.mk 0 g1 _ oC [] 0 its h₁ _ (Le.rf _) hnC ei HC2 hst₁ (acc0 g1 (l.tr l1)) (Nat.le_refl _) (Nat.zero_le _))
    rintro k' s' ⟨i, g2, m2, oC2, ys, nD, its2, h2, tk2, l2, hn2, ei2, H2', hst2, hA, hyl, hi⟩
    have hfp2 : ∀ b ∈ fp, b ∈ wr ∨ (∃ o, g2.get? b = some o) ∨ ∃ o, (b, o) ∈ keep := fun b hb => (hfp b hb).imp id fun x => x.imp (fun ⟨o, e⟩ => ⟨o, l2 _ _ e⟩) id
    by_cases hlt : i < n
    · refine wpAny_mono (D0.draw i _ (notedBy (MM w) A (compEnvC scope cl C env) fun e s' => compPost (MM w) A E use Q (.ref D) C (.error e) s') (fun s3 => wpAny (MM w) A (tests ifs (compEnvC scope cl C env)) (fun ok s4 =>
          if ok = true then wpAny (MM w) A (eval elt (compEnvC scope cl C env)) (fun x s5 => wpAny (MM w) A (call (.builtin "list.append") [.ref D, x]) (fun _ s6 => ∃ mm, mm < n + 1 - i ∧ CompI hot wr St Acc g1 C D n s mm s6) (notedBy (MM w) A (compEnvC scope cl C env) fun e s' => compPost (MM w) A E use Q (.ref D) C (.error e) s') s5) (notedBy (MM w) A (compEnvC scope cl C env) fun e s' => compPost (MM w) A E use Q (.ref D) C (.error e) s') s4
          else ∃ mm, mm < n + 1 - i ∧ CompI hot wr St Acc g1 C D n s mm s4) (notedBy (MM w) A (compEnvC scope cl C env) fun e s' => compPost (MM w) A E use Q (.ref D) C (.error e) s') s3) g2 ((D, listO ys nD) :: hot) keep its2 oC2 m2 hlt l2 hst2 hn2 H2' ei2 hfp2 (fun p hp => .tail _ (hkeep p hp)) fun m3 oC3 its3 h3 tk3 hB hn3 H3 ei3 hst3 => ?_) (fun r s1 hr => ?_) fun _ _ e => e
      · have H3 : At g2 ((C, oC3) :: (its3 ++ (D, listO ys nD) :: hot)) h3 := H3
        have H3' : At g2 ((C, oC3) :: ((its3 ++ [(D, listO ys nD)]) ++ hot)) h3 := by simpa using H3
        have gl := (l.tr l1).tr l2
        refine test i C oC3 m3 _ g2 gl hlt hB hn3 _ _ _ g2 (Le.rf _) H3' fun ok g5 h5 tk5 l5 H5 r5 => ?_
        subst r5
        cases hb : b i with
        | false =>
          rw [if_neg (by decide)]
          have H5' : At g5 ((C, oC3) :: (its3 ++ (D, listO ys nD) :: hot)) h5 := by simpa using H5
          exact ⟨_, down hlt, .mk (i + 1) g5 _ oC3 ys nD its3 h5 tk5 (l2.tr l5) hn3 ei3 H5' (stKeep frame ei3 H3 H5' l5 hfp2 (fun p hp => .tail _ (hkeep p hp)) (fun p hp => .tail _ (hkeep p hp)) hst3) (sk _ _ _ hb (amono _ _ _ _ l5 hA)) (Nat.le_succ_of_le hyl) hlt⟩
        | true =>
          rw [if_pos rfl]
          refine el i C oC3 m3 _ g5 ys (gl.tr l5) hlt hB hb hn3 (amono _ _ _ _ l5 hA) _ _ _ g5 (Le.rf _) H5 fun y g6 h6 tk6 l6 H6 r6 => ?_
          have H6' : At g6 ((C, oC3) :: (its3 ++ (D, listO ys nD) :: hot)) h6 := by simpa using H6
          refine wpAny_list_append_plain ⟨nD, H6'.on _ (.tail _ (List.mem_append_right _ (.head _)))⟩ (fun h' hpl hsb => ?_) (by rw [List.size_toArray]; exact Nat.le_trans (Nat.le_trans hyl hi) (Nat.le_trans hz (by decide)))
          obtain ⟨n', e'⟩ := hpl
          have e2 : ys.toArray.push y = (ys ++ [y]).toArray := by simp
          rw [e2] at e'
          have H7 : At g6 ((C, oC3) :: (its3 ++ (D, listO (ys ++ [y]) n') :: hot)) h' := At.setAt (l1 := (C, oC3) :: its3) H6' hsb e'
          exact ⟨_, down hlt, .mk (i + 1) g6 _ oC3 (ys ++ [y]) n' its3 h' tk6 ((l2.tr l5).tr l6) hn3 ei3 H7 (stKeep frame ei3 H3 H7 (l5.tr l6) hfp2 (fun p hp => .tail _ (hkeep p hp)) (fun p hp => .tail _ (hkeep p hp)) hst3) r6 (by rw [List.length_append]; exact Nat.succ_le_succ hyl) hlt⟩
      · cases r with
        | none => exact hr.elim
        | some v => exact hr
    · have hin : i = n := Nat.le_antisymm hi (Nat.not_lt.mp hlt)
      subst hin
      refine done _ _ _ hst2 fun h3 tk3 hk3 => ?_
      have nd := H2'.nd
      rw [List.map_cons, List.map_append, ei2] at nd
      have H3 : At g2 ((C, oC2) :: (D, listO ys nD) :: hot) h3 := by
        have H2s : At g2 ((C, oC2) :: (D, listO ys nD) :: hot) h2 := H2'.sub sub3
        refine ⟨fun b ob eb => hk3 b ob (fun hm => ?_) (H2'.keep _ _ eb), fun q hq => hk3 _ _ (fun hm => ?_) (H2s.on q hq), H2s.sep, H2s.nd⟩
        · rw [← ei2] at hm
          obtain ⟨q, hq, rfl⟩ := List.mem_map.mp hm
          rw [H2'.sep q (.tail _ (List.mem_append_left _ hq))] at eb; cases eb
        · rw [List.nodup_cons, List.nodup_append] at nd
          rcases List.mem_cons.mp hq with rfl | hq
          · exact nd.1 (List.mem_append_left _ hm)
          · exact nd.2.2.2 _ hm _ (List.mem_map_of_mem hq) rfl
      exact fin g2 D ys nD C oC2 m2 h3 tk3 (l1.tr l2) hn2 H3 hA
  exact codeAny_compStart_list (loop _ rfl) (self 0 _ _ _ hst₁ (loop _ rfl))

/-- a list comprehension as a value: a frozen list -/
theorem compG {elt iter tgt : Expr} {ifs : List Expr} {scope : Scope} {cl : List (Str × Addr)} {n : Nat} {B : Nat → Loc → Prop} {keep : Hot} {K : Env → Prop} {R : Heap → Value → Prop}
    (it : Src w A g hot (eval iter env) tgt n B keep K) (hkeep : ∀ p ∈ keep, p ∈ hot) (hK : ∀ C, K (compEnvC scope cl C env))
    (Acc : Nat → Heap → List Value → Prop) (b : Nat → Bool) (hz : n ≤ 4000) (acc0 : ∀ g1, Le g g1 → Acc 0 g1 []) (amono : ∀ i g1 g2 ys, Le g1 g2 → Acc i g1 ys → Acc i g2 ys)
    (test : ∀ i C oC m ext g1, Le g g1 → i < n → B i m → ObjNs oC m → Cn w A g1 ((C, oC) :: (ext ++ hot)) (tests ifs (compEnvC scope cl C env)) fun _ r => r = b i)
    (el : ∀ i C oC m ext g1 ys, Le g g1 → i < n → B i m → b i = true → ObjNs oC m → Acc i g1 ys → Cn w A g1 ((C, oC) :: (ext ++ hot)) (eval elt (compEnvC scope cl C env)) fun g2 y => Acc (i + 1) g2 (ys ++ [y]))
    (sk : ∀ i g1 ys, b i = false → Acc i g1 ys → Acc (i + 1) g1 ys)
    (fin' : ∀ g1 a ys n', Le g g1 → g1.get? a = some (listO ys n') → Acc n g1 ys → R g1 (.ref a))
    (hclos : closureFor scope env = pure cl) (hcell : ∀ y ∈ scope.names, y.2 ≠ .cell) (hkind : scope.kind = .function)
    (hnames : ∀ y ∈ scope.names, y.2 = .local → scope.names.lookup y.1 = some .local) (hs : ∀ x, foldedSetIterable iter env x = pure x := by intro _; rfl) :
    Cn w A g hot (eval (.ListComp elt [⟨tgt, iter, ifs, 0⟩] scope pos) env) R := fun s Q E g0 l H hQ => by
  rw [eval_ListComp]
  refine compCore none l H it hkeep hK Acc b hz acc0 amono test el sk ?_ hclos hcell hkind hnames hs
  intro g2 D ys nD C oC m2 h' tk l2 hn2 H3 hA
  refine ⟨m2, hn2.ns (H3.on _ (.head _)), fun h4 hsb => ?_⟩
  obtain ⟨g3, l3, e3, H4⟩ := (H3.but hsb).freeze
  exact hQ _ g3 h4 tk (l2.tr l3) H4 (fin' g3 D ys nD (l.tr (l2.tr l3)) e3 (amono _ _ _ _ l3 hA))
end
section
variable {w : World} {A : Around} {g : Heap} {m : Loc} {hot : Hot} {env : Env} {pos cpos : Pos} {R : Flow → Heap → Loc → Hot → Prop} {rest : List Stmt}
/-- x = [comprehension], x a local -/
theorem eAsgC {x : Str} {np : Pos} {elt iter tgt : Expr} {ifs : List Expr} {scope : Scope} {cl : List (Str × Addr)} {n : Nat} {B : Nat → Loc → Prop} {keep : Hot} {K : Env → Prop}
    (it : ∀ o, ObjNs o m → Src w A g ((env.locals, o) :: hot) (eval iter env) tgt n B keep K) (hkeep : ∀ p ∈ keep, p ∈ hot) (hK : ∀ C, K (compEnvC scope cl C env))
    (Acc : Nat → Heap → List Value → Prop) (b : Nat → Bool) (hz : n ≤ 4000) (acc0 : ∀ g1, Le g g1 → Acc 0 g1 []) (amono : ∀ i g1 g2 ys, Le g1 g2 → Acc i g1 ys → Acc i g2 ys)
    (test : ∀ i C oC mC ext g1, Le g g1 → i < n → B i mC → ObjNs oC mC → Cn w A g1 ((C, oC) :: (ext ++ hot)) (tests ifs (compEnvC scope cl C env)) fun _ r => r = b i)
    (el : ∀ i C oC mC ext g1 ys, Le g g1 → i < n → B i mC → b i = true → ObjNs oC mC → Acc i g1 ys → Cn w A g1 ((C, oC) :: (ext ++ hot)) (eval elt (compEnvC scope cl C env)) fun g2 y => Acc (i + 1) g2 (ys ++ [y]))
    (sk : ∀ i g1 ys, b i = false → Acc i g1 ys → Acc (i + 1) g1 ys)
    (k : ∀ g1 a ys n', Le g g1 → g1.get? a = some (listO ys n') → Acc n g1 ys → Em w A env.locals g1 (up m x (.ref a)) hot (execs rest env) R)
    (hclos : closureFor scope env = pure cl) (hcell : ∀ y ∈ scope.names, y.2 ≠ .cell) (hkind : scope.kind = .function)
    (hnames : ∀ y ∈ scope.names, y.2 = .local → scope.names.lookup y.1 = some .local) (hs : ∀ x, foldedSetIterable iter env x = pure x := by intro _; rfl)
    (hsw : swapsWith (.ListComp elt [⟨tgt, iter, ifs, 0⟩] scope cpos) (some (.Name x np)) pos.line env = pure true := by rfl) (hx : env.kindOf x = some .local := by rfl) (hp : plainB env := by rfl) :
    Em w A env.locals g m hot (execs (.Assign [.Name x np] (.ListComp elt [⟨tgt, iter, ifs, 0⟩] scope cpos) pos :: rest) env) R := fun o hn s Q E g0 l H hQ => by
  refine wpAny_execs_cons ?_
  rw [exec_Assign_Name_used _ _ _ _ hsw]
  refine wpAny_bind (wpAny_standAt (wpAny_bind ?_))
  show wpAny _ A (do let _ ← comprehension (.ListComp elt [⟨tgt, iter, ifs, 0⟩] scope cpos) scope env _ (newList []) false (eval iter env) (some (assign (.Name x np) env))) _ _ s
  have core := compCore (pos := cpos) (pos2 := firstIterPos [⟨tgt, iter, ifs, 0⟩] cpos) (elt := elt) (ifs := ifs) (some (assign (.Name x np) env)) (Q := fun _ s' => (wpAny (MM w) A (execs rest env) Q E s')) (E := E) l H (it o hn) (fun p hp => .tail _ (hkeep p hp)) hK Acc b hz acc0 amono
    (fun i C oC mC ext g1 l1 hi hB hnC => by
      have := test i C oC mC (ext ++ [(env.locals, o)]) g1 l1 hi hB hnC
      rw [List.append_assoc] at this
      exact this)
    (fun i C oC mC ext g1 ys l1 hi hB hb hnC hA => by
      have := el i C oC mC (ext ++ [(env.locals, o)]) g1 ys l1 hi hB hb hnC hA
      rw [List.append_assoc] at this
      exact this) sk ?_ hclos hcell hkind hnames hs
  · exact wpAny_bind (wpAny_mono core (fun _ s' hq => wpAny_pure (wpAny_pure hq)) fun _ _ e => e)
  intro g2 D ys nD C oC m2 h' tk l2 hn2 H3 hA
  show wpAny _ A (assign (.Name x np) env (.ref D)) _ _ _
  have H4 : At g2 ((env.locals, o) :: (C, oC) :: (D, listO ys nD) :: hot) h' := H3.perm (((List.Perm.swap _ _ _).cons _).trans (List.Perm.swap _ _ _))
  refine PySem.wpAny_assign_Name (store hn H4 (fun o5 h5 tk5 hn5 H5 => ?_) hx hp)
  refine ⟨m2, hn2.ns (H5.on _ (.tail _ (.head _))), fun h6 hsb => ?_⟩
  have H6 : At g2 ((env.locals, o5) :: (D, listO ys nD) :: hot) h6 := (H5.swap).but hsb
  obtain ⟨g3, l3, e3, H7⟩ := (H6.swap).freeze
  exact k g3 D ys nD (l.tr (l2.tr l3)) e3 (amono _ _ _ _ l3 hA) o5 hn5 _ Q E g3 (Le.rf _) H7 fun f g4 m4 hot4 o4 h4 tk4 l4 hn4 H4 r4 => hQ f g4 m4 hot4 o4 h4 tk4 ((l2.tr l3).tr l4) hn4 H4 r4
end
end Mine

/-! C4 -/
open PySem PySem.W PyProof.Rows PySem.Spec PySem.Calls
set_option maxRecDepth 100000
set_option linter.unusedVariables false
namespace Mine

def jumps : List Str := ["GOTO", "GOSUB", "THEN", "ELSE", "RESTORE", "RUN"]
def natI (f : List Nat) : List Int := f.map fun k : Nat => (k : Int)
def lastIs (f : List Nat) (i : Int) : Bool := PyData.eqv (.list ((f.drop (f.length - 1)).map fun k : Nat => PyData.int (k : Int))) (.list [.int i])
def tgFound (k : Nat) (t : Tk) (f : List Nat) (o : Bool) : List Nat := if o && t.isNum then f ++ [k] else f
def tgListed (k : Nat) (t : Tk) (f : List Nat) : Bool := t.is "sign" "," && lastIs f ((k : Int) - 1)
def tgOpen (k : Nat) (t : Tk) (f : List Nat) : Bool := tgListed k t f || t.inW jumps
def tgAt (ts : List Tk) : Nat → List Nat × Bool
  | 0 => ([], false)
  | k + 1 => match ts[k]? with
    | none => tgAt ts k
    | some t => (tgFound k t (tgAt ts k).1 (tgAt ts k).2, tgOpen k t (tgFound k t (tgAt ts k).1 (tgAt ts k).2))
def tgs (ts : List Tk) : List Nat := (tgAt ts ts.length).1.filter (isWhole ts)

theorem tgAt_small (ts : List Tk) : ∀ k, (tgAt ts k).1.length ≤ k ∧ ∀ x ∈ (tgAt ts k).1, x < k ∧ x < ts.length
  | 0 => ⟨Nat.le_refl _, fun x hx => nomatch hx⟩
  | k + 1 => by
    have ih := tgAt_small ts k
    unfold tgAt
    cases h : ts[k]? with
    | none => exact ⟨Nat.le_succ_of_le ih.1, fun x hx => ⟨Nat.lt_succ_of_lt (ih.2 x hx).1, (ih.2 x hx).2⟩⟩
    | some t =>
      have hk : k < ts.length := (List.getElem?_eq_some_iff.mp h).1
      simp only [tgFound]
      split
      · refine ⟨by simp; exact ih.1, fun x hx => ?_⟩
        rcases List.mem_append.mp hx with hx | hx
        · exact ⟨Nat.lt_succ_of_lt (ih.2 x hx).1, (ih.2 x hx).2⟩
        · rw [List.mem_singleton.mp hx]; exact ⟨Nat.lt_succ_self _, hk⟩
      · exact ⟨Nat.le_succ_of_le ih.1, fun x hx => ⟨Nat.lt_succ_of_lt (ih.2 x hx).1, (ih.2 x hx).2⟩⟩
theorem IntsV.snoc {vs : List Value} {ns : List Int} {v : Value} {n : Int} (h : IntsV vs ns) (hi : IsI n v) : IntsV (vs ++ [v]) (ns ++ [n]) :=
  RdAll.ints (g := default) (by
    rw [List.map_append]
    exact (h.rdAll default).snoc (hi.rd default))
theorem RdAll.dropR {g : Heap} {vs : List Value} {ds : List PyData} (r : RdAll g vs ds) (n : Nat) : RdAll g (vs.drop n) (ds.drop n) := by
  induction n generalizing vs ds with
  | zero => exact r
  | succ n ih =>
    cases ds with
    | nil =>
      have := r.length
      have : vs = [] := List.length_eq_zero_iff.mp (by simpa using this)
      subst this; exact r
    | cons d ds =>
      obtain ⟨v, ws, rfl, _, q⟩ := r.inv
      exact ih q
theorem kind_num (t : Tk) (ht : t.ok = true) : (t.kind == ("number" : Str)) = t.isNum := by
  cases t with
  | s k x =>
    simp only [Tk.ok, Bool.and_eq_true, bne_iff_ne, ne_eq] at ht
    simp [Tk.kind, Tk.isNum, ht.2]
  | n i => rfl
theorem jumpsRd {w : World} {g : Heap} (W : Wd w g) : Rd g (.ref 35) (.tuple (jumps.map .str)) := by
  refine Rd.ofTup (vs := _) ⟨_, W.X 35 _ rfl, rfl, _, rfl⟩ ?_
  exact .cons Rd.ofStr (.cons Rd.ofStr (.cons Rd.ofStr (.cons Rd.ofStr (.cons Rd.ofStr (.cons Rd.ofStr .nil)))))
theorem dInAny (xs : List Str) (t : Tk) (hk : t.kind = ("word" : Str)) (ht : t.ok = true) : ((xs.map PyData.str).any fun y => PyData.eqv y t.snd) = t.inW xs := by
  cases t with
  | s k x =>
    simp only [Tk.kind] at hk
    subst hk
    simp only [Tk.snd, Tk.inW, beq_self_eq_true, Bool.true_and]
    induction xs with
    | nil => rfl
    | cons a r ih =>
      rw [List.map_cons, List.any_cons, ih, List.contains_cons]
      simp [PyData.eqv, Bool.beq_comm]
  | n i => exact absurd hk (by simp only [Tk.kind]; decide +kernel)

theorem lay_ints (f : List Nat) : PyData.canLayAll0 (f.map fun k : Nat => PyData.int (k : Int)) = true := by
  induction f with
  | nil => rfl
  | cons a r ih => simpa [PyData.canLayAll0, PyData.canLay0] using ih
theorem depth_ints (f : List Nat) : PyData.depthAll (f.map fun k : Nat => PyData.int (k : Int)) ≤ 1 := by
  induction f with
  | nil => exact Nat.zero_le _
  | cons a r ih =>
    simp only [List.map_cons, PyData.depthAll, PyData.depth]
    omega
theorem shaped_ints (f : List Nat) : SeqAt.shaped (.list (f.map fun k : Nat => PyData.int (k : Int))) = true := by
  have := depth_ints f
  have h2 : (PyData.list (f.map fun k : Nat => PyData.int (k : Int))).depth ≤ 64 := by simp only [PyData.depth]; omega
  simp only [SeqAt.shaped, PyData.canLay0, lay_ints f, Bool.true_and]
  exact decide_eq_true h2
theorem shaped_tok (t : Tk) (ht : t.ok = true) : SeqAt.shaped t.d = true := by
  have := tok_lay t ht
  cases t <;> simp_all [SeqAt.shaped, Tk.d, PyData.depth, PyData.depthAll]
def whB (ts : List Tk) (f : List Nat) (i : Nat) : Bool := match f[i]? with | some k => isWhole ts k | none => false
theorem whB_step (ts : List Tk) (f : List Nat) (i : Nat) : (f.take (i + 1)).filter (isWhole ts) = (f.take i).filter (isWhole ts) ++ (match f[i]? with | some k => if isWhole ts k then [k] else [] | none => []) := by
  rw [List.take_add_one, List.filter_append]
  cases h : f[i]? with
  | none => simp
  | some k => simp only [Option.toList_some, List.filter_cons, List.filter_nil]

theorem srcList {w : World} {A : Around} {g : Heap} {hot : Hot} {t : Sem Value} {x : Str} {px : Pos} {a : Addr} {vs : List Value} {n : Nat} (keep : Hot) (hh : A.handled = none) (hn : vs.length = n)
    (c : Cn w A g hot t fun g1 v => v = .ref a ∧ HasL g1 hot a vs ∧ ((∃ o, (a, o) ∈ keep) ∨ ∃ o, g1.get? a = some o)) : Src w A g hot t (.Name x px) n (fun i m => ∃ v, vs[i]? = some v ∧ m x = some v) keep fun env => env.kindOf x = some .local ∧ plainB env := by
  subst hn
  exact Src.name (itList keep hh c)
set_option maxHeartbeats 4000000 in
theorem c_targets {w : World} {A : Around} {g : Heap} {hot : Hot} {ra : Addr} {rv : List Value} {nr : Nat} {ts : List Tk} (hh : A.handled = none) (hd : A.depth < 880) (hu : A.units + 250 < cLine) (W : Wd w g) (hl : g.get? ra = some (listO rv nr)) (hr : RdAll g rv (ts.map Tk.d)) (hok : ∀ t ∈ ts, t.ok = true)
    (hz : ts.length < 100) : Cn w A g hot (call (.ref 82) [.ref ra]) fun g1 v => ∃ a vs n, v = .ref a ∧ g1.get? a = some (listO vs n) ∧ IntsV vs (natI (tgs ts)) := by
  refine enterC W rfl rfl rfl rfl rfl (rlt hd) (fun L cells hc => ?_) rfl (by decide +kernel) rfl
  obtain ⟨oc, rfl, hoc⟩ := hc.one
  have hln : rv.length = ts.length := by simpa using hr.length
  refine eAsg2sH (x := "found") (y := "is_open") (fun _ new a b => ∃ D, a = .ref D ∧ new = [(D, listO [] 0)] ∧ b = .bool false) hh (fun o ho => ?_) fun gA new a b lA r1 => ?_
  · exact (tup2H (R2 := fun _ b => b = .bool false) chNil (fun g1 new l1 => cB)).imp fun g1 new v l1 ⟨t, a, b, n, e, e2, ⟨D, e3, e4⟩, e5⟩ => ⟨t, a, b, n, e, e2, D, e3, e4, e5⟩
  obtain ⟨D, rfl, rfl, rfl⟩ := r1
  refine eForT (x := "at") (y := "token") hh [] (fun i g1 m1 hot1 => ∃ nD vs, hot1 = (D, listO vs nD) :: ([(L + 1, oc)] ++ hot) ∧ m1 "found" = some (.ref D) ∧ m1 "is_open" = some (.bool (tgAt ts i).2) ∧ IntsV vs (natI (tgAt ts i).1))
    (fun o ho => itEnum [] hh (W.up lA) rfl rfl (nmc rfl (by first | exact mem1 | exact mem2 | exact mem3 | exact mem4 | exact memB mem0 | exact memB mem1 | exact memB mem2 | exact memB mem3 | exact memB mem4 | simp) hoc (fun _ _ => rfl)) (Or.inr (lA _ _ hl)) (Or.inr ⟨_, lA _ _ hl⟩)) (fun g1 l1 => ⟨0, [], rfl, rfl, rfl, ⟨rfl, fun i v n h => by simp at h⟩⟩) (fun _ _ _ _ _ p hp => nomatch hp) ?_ ?_
  · rintro i g1 m1 hot1 a b its l1 hi ⟨nD, vs, rfl, h1, h2, h3⟩ ⟨ha, hb⟩
    obtain ⟨t, hq⟩ : ∃ t, ts[i]? = some t := ⟨ts[i]'(by omega), List.getElem?_eq_getElem (by omega)⟩
    have hto := hok t (List.mem_of_getElem? hq)
    obtain ⟨b', hb', hbr⟩ := hr.get (show (ts.map Tk.d)[i]? = some t.d by simp [hq])
    rw [hb] at hb'
    cases hb'
    have h1' : (up (up m1 "at" a) "token" b) "found" = some (.ref D) := h1
    have h2' : (up (up m1 "at" a) "token" b) "is_open" = some (.bool (tgAt ts i).2) := h2
    have hte := t.d_eq
    have hbr1 : Rd g1 b t.d := hbr.mono (lA.tr l1)
    have hsm := tgAt_small ts i
    have hvl : vs.length < 100 := by
      have := h3.1
      simp only [natI, List.length_map] at this
      omega
    refine eIfJ (b := (tgAt ts i).2 && (t.isNum && true)) (fun g2 m2 hot2 => m2 = up (up m1 "at" a) "token" b ∧ ∃ nD' vs', hot2 = its ++ (D, listO vs' nD') :: ([(L + 1, oc)] ++ hot) ∧ IntsV vs' (natI (tgFound i t (tgAt ts i).1 (tgAt ts i).2)))
      (fun o ho => tBool (tAnd (tVal ((nV (.head _) ho h2').imp fun _ _ _ r => ⟨_, r, rfl⟩)) fun hb g2 l2 => tAnd (tCmp (R1 := fun g v => Rd g v (.str t.kind)) (subs (nV (.head _) ho rfl) (fun _ _ _ _ => cI) fun g3 g4 u v l3 l4 ru rv => by
          subst ru
          exact iTupD (k := 0) (hte ▸ hbr1.mono ((l2.tr l3).tr l4)) rv (by simp) rfl) (fun _ _ _ _ => dStr) fun g3 g4 u v l3 l4 ru rv => (cEqD (ru.mono l4).h rv.h (by simp [SeqAt.shaped, PyData.canLay0, PyData.depth, kind_lay t hto]) (by decide +kernel) (show A.units + 3 + 64 < cLine from ult hu (by decide))).imp fun g5 r _ e => ⟨_, e, by simp only [PyData.eqv]; exact kind_num t hto⟩) fun _ _ _ => tAnd0))
      (fun hb g2 l2 => ?_) (fun hb g2 l2 => ?_) ?_
    · refine eAppend (R1 := fun _ v => v = a) (fun ob ho => nV (.head _) ho h1) (fun ob ho g3 l3 => nV (.head _) ho rfl) (by omega) fun g3 v n' l3 hv => ?_
      subst hv
      refine eNil fun g4 l4 => ⟨rfl, rfl, n', _, rfl, ?_⟩
      have e : tgFound i t (tgAt ts i).1 (tgAt ts i).2 = (tgAt ts i).1 ++ [i] := by
        rw [Bool.and_true] at hb
        unfold tgFound; rw [if_pos hb]
      rw [e]
      unfold natI
      rw [List.map_append]
      exact h3.snoc ha
    · refine eNil fun g4 l4 => ⟨rfl, rfl, nD, _, rfl, ?_⟩
      have e : tgFound i t (tgAt ts i).1 (tgAt ts i).2 = (tgAt ts i).1 := by
        rw [Bool.and_true] at hb
        unfold tgFound; rw [if_neg (by rw [hb]; decide)]
      rw [e]
      exact h3
    · rintro g2 m2 hot2 l2 ⟨rfl, nD', vs', rfl, h4⟩
      generalize hf : tgFound i t (tgAt ts i).1 (tgAt ts i).2 = f at h4
      have hfl : f.length ≤ i + 1 := by
        rw [← hf]; unfold tgFound
        split
        · simp; exact hsm.1
        · omega
      have hvl' : vs'.length < 200 := by
        have := h4.1
        simp only [natI, List.length_map] at this
        omega
      refine eAsg (R1 := fun _ v => v = .bool (tgListed i t f)) (fun o ho => vAnd (b := t.is "sign" ",") (cmp (R1 := fun g v => Rd g v t.d) ((nV (.head _) ho rfl).imp fun g3 v l3 r => by subst r; exact hbr1.mono (l2.tr l3)) (fun g3 v l3 r => dTup2 dStr fun _ _ => dStr) fun g3 g4 u v l3 l4 ru rv =>
          (cEqD (ru.mono l4).h rv.h (shaped_tok t hto) (by decide +kernel) (show A.units + 3 + 64 < cLine from ult hu (by decide))).imp fun g5 r _ e => by rw [e, eqv_tok' t _ _ hto]) (fun hb g3 l3 => by unfold tgListed; rw [hb]; rfl) fun hb g3 l3 => ?_) fun g3 v l3 r => ?_
      · refine cmp (R1 := fun g v => Rd g v (.list ((f.drop (f.length - 1)).map fun k : Nat => PyData.int (k : Int)))) (R2 := fun g v => Rd g v (.list [.int ((i : Int) - 1)])) ((slc (lo := some (-1)) (hi := none) (nV (.head _) ho h1') (Or.inl ⟨nD', .tail _ (List.mem_append_right _ (.head _))⟩) (by omega) (fun _ _ => partSome (neg cI)) (fun _ _ => partNone)).imp fun g4 v l4 ⟨D', e1, e2⟩ => ?_) (fun g4 _ l4 _ => listD (arg1 (R1 := fun _ v => IsI ((i : Int) - 1) v) (bin (nV (.head _) ho rfl) (fun _ _ _ _ => cI) fun g5 g6 u v l5 l6 ru rv => by subst ru; exact oSub ha rv)) (fun _ vs ⟨a, e, _⟩ => by rw [e]; exact (by decide : 1 ≤ 4096)) fun g5 g6 vs a l5 l6 ⟨b, e, hb⟩ e2 => ?_) fun g4 g5 u v l4 l5 ru rv => ?_
        · subst e1
          refine Rd.ofList ⟨_, e2, rfl, 0, rfl⟩ ?_
          rw [pick_last]
          have := h4.rdAll g4
          have hl4 : vs'.length = f.length := by have := h4.1; simpa [natI] using this
          rw [hl4]
          have q := RdAll.dropR this (f.length - 1)
          simpa [natI, List.map_drop, Function.comp_def] using q
        · subst e
          exact Rd.ofList ⟨_, e2, rfl, 0, rfl⟩ (.cons (hb.rd _) .nil)
        · exact (cEqD (ru.mono l5).h rv.h (shaped_ints _) (by simp [SeqAt.shaped, PyData.canLay0, PyData.canLayAll0, PyData.depth, PyData.depthAll]) (show A.units + 3 + 64 < cLine from ult hu (by decide))).imp fun g6 r _ e => by rw [e]; unfold tgListed lastIs; rw [hb]; rfl
      · subst r
        refine eAsg (R1 := fun _ v => v = .bool (tgOpen i t f)) (fun o ho => vOr (b := tgListed i t f) (nV (.head _) ho rfl) (fun hb g4 l4 => by unfold tgOpen; rw [hb]; rfl) fun hb g4 l4 => ?_) fun g4 v l4 r => ?_
        · have e0 : tgOpen i t f = t.inW jumps := by unfold tgOpen; rw [hb]; rfl
          rw [e0]
          refine vAnd (b := t.kind == ("word" : Str)) (cmp (R1 := fun g v => Rd g v (.str t.kind)) (subs (nV (.head _) ho rfl) (fun _ _ _ _ => cI) fun g5 g6 u v l5 l6 ru rv => by
              subst ru
              exact iTupD (k := 0) (hte ▸ hbr1.mono ((((l2.tr l3).tr l4).tr l5).tr l6)) rv (by simp) rfl) (fun _ _ _ _ => dStr) fun g5 g6 u v l5 l6 ru rv => (cEqD (ru.mono l6).h rv.h (by simp [SeqAt.shaped, PyData.canLay0, PyData.depth, kind_lay t hto]) (by decide +kernel) (show A.units + 3 + 64 < cLine from ult hu (by decide))).imp fun g7 r _ e => by rw [e]; simp [PyData.eqv]) (fun hk g5 l5 => ?_) fun hk g5 l5 => ?_
          · cases t with
            | s k x => simp only [Tk.kind] at hk; simp [Tk.inW, hk]
            | n i => rfl
          · have Wn : Wd w g5 := W.up (((((lA.tr l1).tr l2).tr l3).tr l4).tr l5)
            refine cmp (R1 := fun g v => Rd g v t.snd) (R2 := fun g v => Rd g v (.tuple (jumps.map .str))) (subs (nV (.head _) ho rfl) (fun _ _ _ _ => cI) fun g6 g7 u v l6 l7 ru rv => by
              subst ru
              exact iTupD (k := 1) (hte ▸ hbr1.mono (((((l2.tr l3).tr l4).tr l5).tr l6).tr l7)) rv (by simp) rfl) (fun g6 _ l6 _ => nmg (Wn.up l6) rfl (fun g7 l7 => jumpsRd ((Wn.up l6).up l7))) fun g6 g7 u v l6 l7 ru rv => (cInT rv.h (ru.mono l7).h (by decide +kernel) (snd_lay t hto) (by decide +kernel) (show A.units + 3 + 64 < cLine from ult hu (by decide))).imp fun g8 r _ e => by
                rw [e]
                congr 1
                exact dInAny jumps t (by simpa using hk) hto
        · subst r
          refine eNil fun g5 l5 => ⟨.inl rfl, _, rfl, nD', vs', rfl, h1, ?_, ?_⟩
          · show some (Value.bool (tgOpen i t f)) = _
            rw [tgAt, hq]; dsimp only; rw [hf]
          · rw [tgAt, hq]; dsimp only; rw [hf]; exact h4
  · rintro g1 m1 hot1 l1 ⟨nD, vs, rfl, h1, h2, h3⟩
    have hl3 : rv.length = ts.length := hln
    have hvl : vs.length = (tgAt ts ts.length).1.length := by rw [hl3] at h3; simpa [natI] using h3.1
    rw [hl3] at h3
    have hsm := tgAt_small ts ts.length
    generalize hf : (tgAt ts ts.length).1 = f at h3 hvl hsm
    refine eRet (R1 := fun g2 v => ∃ a ys n, v = .ref a ∧ g2.get? a = some (listO ys n) ∧ IntsV ys (natI ((f.take f.length).filter (isWhole ts)))) (fun o ho => ?_) fun g2 v l2 r => ⟨(D, listO vs nD) :: [(L + 1, oc)], rfl, by
      rw [List.take_length] at r
      unfold tgs
      rw [hf]
      exact r⟩
    refine compG (n := f.length) (B := fun i m => ∃ v, vs[i]? = some v ∧ m "at" = some v) (cl := [("row", L + 1)]) (srcList [(D, listO vs nD)] hh hvl ((nV (.head _) ho h1).imp fun g2 v l2 r => ⟨r, Or.inl ⟨nD, .tail _ (.head _)⟩, Or.inl ⟨_, .head _⟩⟩)) (fun p hp => by
        rw [List.mem_singleton.mp hp]; exact .tail _ (.head _)) (fun C => ⟨rfl, rfl⟩)
      (fun i g2 ys => IntsV ys (natI ((f.take i).filter (isWhole ts)))) (whB ts f) (by omega) (fun _ _ => IntsV.nil) (fun _ _ _ _ _ h => h) ?_ ?_ ?_ (fun g2 a ys n' l2 e h => ⟨a, ys, n', rfl, e, h⟩) rfl (by decide) rfl (by decide)
    · rintro i C oC m ext g2 l2 hi ⟨v, hv, hm⟩ hoC
      obtain ⟨k, hk⟩ : ∃ k, f[i]? = some k := ⟨f[i]'hi, List.getElem?_eq_getElem hi⟩
      have hkl := (hsm.2 k (List.mem_of_getElem? hk)).2
      have hki : IsI k v := h3.2 i v k hv (by simp [natI, hk])
      refine tests1 (tVal ?_)
      refine calldef (f := 89) ((W.up (lA.tr l1)).up l2) rfl rfl rfl (arg2 (nmc (R := fun _ v => v = .ref ra) rfl (by first | exact mem1 | exact mem2 | exact mem3 | exact mem4 | exact memB mem0 | exact memB mem1 | exact memB mem2 | exact memB mem3 | exact memB mem4 | simp) hoc (fun _ _ => rfl)) fun _ _ => nV (.head _) hoC hm) fun g3 us l3 r => ?_
      obtain ⟨a, b, rfl, rfl, rfl⟩ := r
      exact (c_whole (ts := ts) (k := k) (show A.depth + 1 < 890 from dlt hd (by decide)) (show A.units + 3 + 200 < cLine from ult hu (by decide)) (((W.up (lA.tr l1)).up l2).up l3) (HasL.of (((lA.tr l1).tr l2).tr l3 _ _ hl)) (hr.mono (((lA.tr l1).tr l2).tr l3)) hok hz hkl hki).imp fun g4 v l4 r => ⟨_, r, by unfold whB; rw [hk]⟩
    · rintro i C oC m ext g2 ys l2 hi ⟨v, hv, hm⟩ hb hoC hA
      obtain ⟨k, hk⟩ : ∃ k, f[i]? = some k := ⟨f[i]'hi, List.getElem?_eq_getElem hi⟩
      have hki : IsI k v := h3.2 i v k hv (by simp [natI, hk])
      refine nm (.head _) hoC hm fun g3 l3 => ?_
      rw [whB_step, hk]
      unfold whB at hb
      rw [hk] at hb
      dsimp only at hb ⊢
      rw [if_pos hb]
      unfold natI
      rw [List.map_append]
      exact hA.snoc hki
    · intro i g2 ys hb hA
      rw [whB_step]
      unfold whB at hb
      cases hk : f[i]? with
      | none => simpa using hA
      | some k => rw [hk] at hb; dsimp only at hb ⊢; rw [if_neg (by rw [hb]; decide), List.append_nil]; exact hA
end Mine

/-! Lg11 -/
open PySem PySem.W PyProof.Rows PySem.Spec PySem.Calls
set_option maxRecDepth 100000
set_option linter.unusedVariables false
namespace Mine

theorem IsL.of_heap {h : Heap} {a : Addr} {vs : List Value} {n : Nat} (e : h.get? a = some (listO vs n)) : IsL h a vs.toArray n := e
def upN (a b : List Value) (n : Nat) : Nat := if b.length == a.length then n else n + 1
theorem IsL.turn {h : Heap} {a : Addr} {vs vs' : List Value} {n : Nat} (e : h.get? a = some (listO vs n)) (f : Array Value → Array Value) (hf : f vs.toArray = vs'.toArray) : (h.update a (Obj.mapSeq f)).get? a = some (listO vs' (upN vs vs' n)) := by
  have := IsL.update (IsL.of_heap e) f
  rw [hf] at this
  simpa [upN, IsL] using this

section
variable {w : World} {A : Around} {g : Heap} {m : Loc} {hot : Hot} {env : Env} {pos : Pos} {R : Flow → Heap → Loc → Hot → Prop} {rest : List Stmt}
/-- o[i] = e, o a hot list -/
theorem eSetI {o i e : Expr} {pos' : Pos} {D : Addr} {vs : List Value} {n k : Nat} {l1 l2 : Hot} {R1 : Heap → Value → Prop} (c : ∀ ob, ObjNs ob m → Cn w A g ((env.locals, ob) :: (l1 ++ (D, listO vs n) :: l2)) (eval e env) R1)
    (ho : ∀ ob, ObjNs ob m → ∀ g1, Le g g1 → Cn w A g1 ((env.locals, ob) :: (l1 ++ (D, listO vs n) :: l2)) (eval o env) fun _ u => u = .ref D)
    (hi : ∀ ob, ObjNs ob m → ∀ g1, Le g g1 → Cn w A g1 ((env.locals, ob) :: (l1 ++ (D, listO vs n) :: l2)) (eval i env) fun _ u => IsI k u) (hk : k < vs.length) (hz : vs.length ≤ 4096)
    (kk : ∀ g1 g2 v n', Le g g1 → Le g1 g2 → R1 g1 v → Em w A env.locals g2 m (l1 ++ (D, listO (vs.set k v) n') :: l2) (execs rest env) R)
    (hs : swapsWith e (some (.Subscript o i pos')) pos.line env = pure false := by rfl) :
    Em w A env.locals g m (l1 ++ (D, listO vs n) :: l2) (execs (.Assign [.Subscript o i pos'] e pos :: rest) env) R := fun ob hn s Q E g0 l H hQ =>
  wpAny_execs_cons (wpAny_Assign_Subscript (c ob hn s _ E g0 l H fun v g1 h1 tk l1' H1 r1 => ho ob hn g1 (l.tr l1') _ _ E g1 (Le.rf _) H1 fun u g2 h2 tk2 l2' H2 r2 => hi ob hn g2 ((l.tr l1').tr l2') _ _ E g2 (Le.rf _) H2 fun iv g3 h3 tk3 l3' H3 r3 => by
    subst r2
    obtain ⟨t, rfl⟩ := r3
    have ho3 := H3.on _ (.tail _ (List.mem_append_right l1 (.head _)))
    refine PySem.W.ki_setAt (n := n) (items := vs.toArray) ho3 (Int.natCast_nonneg _) (by omega) (by simpa using hk) ?_
    have e' := IsL.turn (vs' := vs.set k v) ho3 (·.setIfInBounds (k : Int).toNat v) (by simp)
    have H4 : At g3 ((env.locals, ob) :: (l1 ++ (D, listO (vs.set k v) _) :: l2)) _ := At.setAt (l1 := (env.locals, ob) :: l1) H3 (Heap.SameBut.update ..) e'
    exact kk g1 g3 v _ (l.tr l1') (l2'.tr l3') r1 ob hn _ Q E g3 (Le.rf _) H4 fun f g4 m4 hot4 o4 h4 tk4 l4 hn4 H4 r4 => hQ f g4 m4 hot4 o4 h4 tk4 (((l1'.tr l2').tr l3').tr l4) hn4 H4 r4) hs)

/-- {} : a new hot dict -/
theorem chDict {np : Pos} (W : Wd w g) : Ch w A g hot (eval (.Dict [] [] np) env) fun _ new v => ∃ a o, v = .ref a ∧ new = [(a, o)] ∧ o.IsDictOf (intKind PP w) [] ∧ (a == sysModules) = false := fun s Q E g0 l H hQ => by
  have hb := modules_low ((limit_ns w W).keeps (l.tr H.keep))
  exact wpAny_Dict_empty (hQ _ [(s.heap.objs.size, _)] g0 _ s.toks (Le.rf _) (H.push { cls := .type "dict", data := .dict #[] }) ⟨_, _, rfl, rfl, ⟨#[], 0, ⟨rfl, rfl, rfl⟩, rfl, fun _ he => by simp at he, Pairs.nil, List.nodup_nil⟩, beq_eq_false_iff_ne.mpr (Nat.ne_of_gt hb)⟩)
/-- o[i] = e, o a hot dict by ints -/
theorem eSetD {o i e : Expr} {pos' : Pos} {D : Addr} {od : Obj} {kvs : List (Int × Value)} {k : Int} {l1 l2 : Hot} {R1 : Heap → Value → Prop} (hd : od.IsDictOf (intKind PP w) kvs) (c : ∀ ob, ObjNs ob m → Cn w A g ((env.locals, ob) :: (l1 ++ (D, od) :: l2)) (eval e env) R1)
    (ho : ∀ ob, ObjNs ob m → ∀ g1, Le g g1 → Cn w A g1 ((env.locals, ob) :: (l1 ++ (D, od) :: l2)) (eval o env) fun _ u => u = .ref D)
    (hi : ∀ ob, ObjNs ob m → ∀ g1, Le g g1 → Cn w A g1 ((env.locals, ob) :: (l1 ++ (D, od) :: l2)) (eval i env) fun _ u => IsI k u) (hz : kvs.length ≤ 4096)
    (kk : ∀ g1 g2 v od', Le g g1 → Le g1 g2 → R1 g1 v → od'.IsDictOf (intKind PP w) (stored kvs k v) → Em w A env.locals g2 m (l1 ++ (D, od') :: l2) (execs rest env) R)
    (hs : swapsWith e (some (.Subscript o i pos')) pos.line env = pure false := by rfl) :
    Em w A env.locals g m (l1 ++ (D, od) :: l2) (execs (.Assign [.Subscript o i pos'] e pos :: rest) env) R := fun ob hn s Q E g0 l H hQ =>
  wpAny_execs_cons (wpAny_Assign_Subscript (c ob hn s _ E g0 l H fun v g1 h1 tk l1' H1 r1 => ho ob hn g1 (l.tr l1') _ _ E g1 (Le.rf _) H1 fun u g2 h2 tk2 l2' H2 r2 => hi ob hn g2 ((l.tr l1').tr l2') _ _ E g2 (Le.rf _) H2 fun iv g3 h3 tk3 l3' H3 r3 => by
    subst r2
    obtain ⟨t, rfl⟩ := r3
    have ho3 := H3.on _ (.tail _ (List.mem_append_right l1 (.head _)))
    have hm : h3.DictOf (intKind PP w) D kvs := Heap.dictOf_iff.mpr ⟨_, ho3, hd⟩
    refine wpAny_setItem_pairs (k := k) (kvs := kvs) (by simp [intKind, Value.isInt]) hm (fun h' hm' hs' => ?_) (Nat.le_trans hz (by decide))
    obtain ⟨od', e', hd'⟩ := Heap.dictOf_iff.mp hm'
    have H4 : At g3 ((env.locals, ob) :: (l1 ++ (D, od') :: l2)) h' := At.setAt (l1 := (env.locals, ob) :: l1) H3 hs' e'
    exact kk g1 g3 v _ (l.tr l1') (l2'.tr l3') r1 hd' ob hn _ Q E g3 (Le.rf _) H4 fun f g4 m4 hot4 o4 h4 tk4 l4 hn4 H4 r4 => hQ f g4 m4 hot4 o4 h4 tk4 (((l1'.tr l2').tr l3').tr l4) hn4 H4 r4) hs)
/-- d[k] of a hot dict -/
theorem iDict {value slice : Expr} {D : Addr} {od : Obj} {kvs : List (Int × Value)} {k : Int} {i x : Value} (hm : (D, od) ∈ hot) (hd : od.IsDictOf (intKind PP w) kvs) (hi : IsI k i) (hx : valueAt kvs k = some x)
    (hs : ∀ u, subscripted slice false (.ref D) (.int k u) = operate [.ref D, .int k u] (getItem (.ref D) (.int k u)) := by intro _; with_unfolding_all rfl) : Cn w A g hot (subscriptTail value slice (.ref D) i) fun _ r => r = x := by
  obtain ⟨t, rfl⟩ := hi
  refine fun s Q E g0 l H hQ => ?_
  have hm : s.heap.DictOf (intKind PP w) D kvs := Heap.dictOf_iff.mpr ⟨_, H.on _ hm, hd⟩
  exact tail_any hm.typeIs slot_dict_getitem.lookup (wpAny_getItem_of (k := k) (by simp [intKind, Value.isInt]) hm.mapOf hx (hQ x g0 s.heap _ (Le.rf _) H rfl)) (hs t)
/-- o.name(args), a method of a built-in type on a hot or frozen object -/
theorem meth {o : Expr} {name : Str} {apos cpos : Pos} {args : List Expr} {T id : String} {D : Addr} {Rr : Heap → Value → Prop} (pa : PlainAttrs T) (slot : Slot T name id) (hty : typeOf (.builtin id) = pure (.type "method_descriptor"))
    (co : Cn w A g hot (eval o env) fun _ u => u = .ref D) (hT : ∀ g1 h, Le g g1 → At g1 hot h → ∃ ob, h.get? D = some ob ∧ ob.cls = .type T ∧ ob.dict = none)
    (k : ∀ g1, Le g g1 → Cn w A g1 hot (callWith cpos (.builtin id) [.ref D] (backTo cpos (starEach args env)) []) Rr)
    (hbase : attributeBase o name env (eval o env) = eval o env := by rfl)
    (hfew : ((backTo cpos (starEach args env)).all (fun x => !x.1) && (backToKw cpos (keywordEach [] env)).all (fun x => x.1.isSome)
      && decide (args.length + ([] : List Keyword).length + (if ([] : List Keyword).isEmpty then 0 else 1) < 30)) = true := by rfl)
    (hline : (apos.endLine == cpos.line) = true := by rfl) : Cn w A g hot (eval (.Call (.Attribute o name apos) args [] cpos) env) Rr := fun s Q E g0 l H hQ =>
  wpAny_Call_method hbase hfew hline pa slot hty (co s _ E g0 l H fun u g1 h1 tk l1 H1 r1 => by
    subst r1
    obtain ⟨ob, e, hc, hd⟩ := hT g1 h1 (l.tr l1) H1
    refine ⟨⟨ob, e, hc⟩, fun a ha => ?_, k g1 (l.tr l1) _ Q E g1 (Le.rf _) H1 fun v g2 h2 tk2 l2 H2 r2 => hQ v g2 h2 tk2 (l1.tr l2) H2 r2⟩
    cases ha
    exact ⟨ob, e, hd⟩)
/-- d.get(x, y), d a hot dict by ints -/
theorem dGet2 {o e1 e2 : Expr} {apos cpos : Pos} {D : Addr} {od : Obj} {kvs : List (Int × Value)} {k : Int} {R2 Rr : Heap → Value → Prop} (hm : (D, od) ∈ hot) (hd : od.IsDictOf (intKind PP w) kvs) (hds : (D == sysModules) = false)
    (co : Cn w A g hot (eval o env) fun _ u => u = .ref D) (c1 : ∀ g1, Le g g1 → Cn w A g1 hot (eval e1 env) fun _ v => IsI k v) (c2 : ∀ g1, Le g g1 → Cn w A g1 hot (eval e2 env) R2)
    (r : ∀ g1 v, Le g g1 → R2 g1 v → Rr g1 ((valueAt kvs k).getD v))
    (hbase : attributeBase o "get" env (eval o env) = eval o env := by rfl)
    (hfew : ((backTo cpos (starEach [e1, e2] env)).all (fun x => !x.1) && (backToKw cpos (keywordEach [] env)).all (fun x => x.1.isSome)
      && decide (([e1, e2] : List Expr).length + ([] : List Keyword).length + (if ([] : List Keyword).isEmpty then 0 else 1) < 30)) = true := by rfl)
    (hline : (apos.endLine == cpos.line) = true := by rfl) (he : backTo cpos (starEach [e1, e2] env) = [(false, eval e1 env), (false, eval e2 env)] := by rfl) :
    Cn w A g hot (eval (.Call (.Attribute o "get" apos) [e1, e2] [] cpos) env) Rr :=
  meth (T := "dict") F.plainAttrs_dict F.slot_dict_get F.type_dict_get co (fun g1 h l H => by
    obtain ⟨es, ep, x, _⟩ := id hd
    exact ⟨od, H.on _ hm, x.1, x.2.1⟩) (fun g1 l1 s Q E g0 l H hQ => by
      rw [he]
      refine wpAny_dict_get2 (knd := intKind PP w) hds (c1 g1 l1 s _ E g0 l H fun v g2 h2 tk2 l2 H2 r2 => c2 g2 ((l1.tr l).tr l2) _ _ E g2 (Le.rf _) H2 fun u g3 h3 tk3 l3 H3 r3 => ?_)
      obtain ⟨t, rfl⟩ := r2
      have hm3 : h3.DictOf (intKind PP w) D kvs := Heap.dictOf_iff.mpr ⟨_, H3.on _ hm, hd⟩
      exact ⟨k, valueAt kvs, by simp [intKind, Value.isInt], hm3.mapOf, hQ _ g3 h3 _ (l2.tr l3) H3 (r g3 u (((l1.tr l).tr l2).tr l3) r3)⟩) hbase hfew hline
/-- list + list, both frozen or hot, as they are -/
theorem oAddL {a b : Addr} {xs ys : List Value} {n1 n2 : Nat} (h1 : HasP g hot a xs n1) (h2 : HasP g hot b ys n2) (hz : xs.length + ys.length ≤ 4096) : Cn w A g hot (binaryOp .Add (.ref a) (.ref b)) fun g1 v => ∃ D, v = .ref D ∧ g1.get? D = some (listO (xs ++ ys) 0) := fun s Q E g0 l H hQ => by
  refine PySem.P.add_list ((h1.up l).at H) ((h2.up l).at H) ?_ (by simp only [List.size_toArray]; exact Nat.le_trans hz (by decide))
  obtain ⟨g5, l5, e5, H5⟩ := H.fresh (listO (xs ++ ys) 0)
  have e7 : (listO (xs ++ ys) 0 : Obj) = { cls := .type "list", data := .seq (xs.toArray ++ ys.toArray) } := by simp
  rw [e7] at H5
  exact hQ _ g5 _ _ l5 H5 ⟨_, rfl, e5⟩
/-- a slice of a list, the base any expression -/
theorem slcA {value : Expr} {lower upper : Option Expr} {p : Pos} {a : Addr} {vs : List Value} {lo hi : Option Int} (c : Cn w A g hot (eval value env) fun _ v => v = .ref a) (hl : HasL g hot a vs) (hz : vs.length ≤ 4096)
    (cl : ∀ g1, Le g g1 → Cn w A g1 hot (evalPart lower env) fun _ v => IsPart v lo) (cu : ∀ g1, Le g g1 → Cn w A g1 hot (evalPart upper env) fun _ v => IsPart v hi)
    (hs : ∀ i, subscripted (.Slice lower upper none p) false (.ref a) i = operate [i, .ref a] (getItem (.ref a) i) := by intro _; with_unfolding_all rfl) :
    Cn w A g hot (eval (.Subscript value (.Slice lower upper none p) pos) env) fun g2 v => ∃ D, v = .ref D ∧ g2.get? D = some (listO (pickL vs lo hi) 0) := fun s Q E g0 l H hQ =>
  Subscript_ (c s _ E g0 l H fun v g1 h1 tk l1 H1 r1 => by
    subst r1
    refine wpAny_Slice (cl g1 (l.tr l1) _ _ E g1 (Le.rf _) H1 fun vl g2 h2 tk2 l2 H2 r2 => ?_)
    refine cu g2 ((l.tr l1).tr l2) _ _ E g2 (Le.rf _) H2 fun vu g3 h3 tk3 l3 H3 r3 => ?_
    refine wpAny_evalPart_none ?_
    have hL := hl.at (((l.tr l1).tr l2).tr l3) H3
    refine tail_any (hL.push _).typeIs slot_list_getitem.lookup (wpAny_getItem_list_slice (hL.push _) (Heap.IsSliceOf.new ..) r2 r3 .none (by simp) ?_ (by rw [List.size_toArray]; exact Nat.le_trans hz (by decide))) (hs _)
    have H4 := H3.grow (Le.push h3 { cls := .type "slice", data := .fields #[vl, vu, .none] })
    obtain ⟨g5, l5, e5, H5⟩ := H4.fresh (listO (pickL vs lo hi) 0)
    have e7 : (listO (pickL vs lo hi) 0 : Obj) = { cls := .type "list", data := .seq (slicePick vs.toArray lo hi none) } := by unfold pickL; simp
    rw [e7] at H5
    exact hQ _ g5 _ tk3 (((l1.tr l2).tr l3).tr l5) H5 ⟨_, rfl, e5⟩)

/-- an expression statement whose value is None -/
theorem eExpr {e : Expr} (c : Em w A env.locals g m hot (eval e env) fun v g1 m1 hot1 => v = .none ∧ ∀ g2, Le g1 g2 → Em w A env.locals g2 m1 hot1 (execs rest env) R) (hi : interactive env = false := by rfl) (hs : swapsWith e none pos.line env = pure false := by rfl) :
    Em w A env.locals g m hot (execs (.Expr e pos :: rest) env) R := fun ob hn s Q E g0 l H hQ =>
  wpAny_execs_cons (wpAny_Expr (c ob hn s _ E g0 l H fun v g1 m1 hot1 o1 h1 tk l1 hn1 H1 r1 => by
    obtain ⟨rfl, k⟩ := r1
    exact k g1 (Le.rf _) o1 hn1 _ Q E g1 (Le.rf _) H1 fun f g4 m4 hot4 o4 h4 tk4 l4 hn4 H4 r4 => hQ f g4 m4 hot4 o4 h4 tk4 (l1.tr l4) hn4 H4 r4) hi hs)
/-- o.extend(e), o a hot list -/
theorem eExtend {o : Expr} {elt : Expr} {apos cpos : Pos} {D : Addr} {vs : List Value} {n : Nat} {l1 l2 : Hot} (S : Heap → List Value → Prop) (ho : ∀ ob, ObjNs ob m → Cn w A g ((env.locals, ob) :: (l1 ++ (D, listO vs n) :: l2)) (eval o env) fun _ u => u = .ref D)
    (c : ∀ ob, ObjNs ob m → ∀ g1, Le g g1 → Cn w A g1 ((env.locals, ob) :: (l1 ++ (D, listO vs n) :: l2)) (eval elt env) fun g2 v => ∃ a us n', v = .ref a ∧ g2.get? a = some (listO us n') ∧ us.length ≤ 100 ∧ S g2 us) (hz : vs.length ≤ 900)
    (k : ∀ g1 us n', Le g g1 → S g1 us → Em w A env.locals g1 m (l1 ++ (D, listO (vs ++ us) n') :: l2) (execs rest env) R)
    (hbase : attributeBase o "extend" env (eval o env) = eval o env := by rfl)
    (hfew : ((backTo cpos (starEach [elt] env)).all (fun x => !x.1) && (backToKw cpos (keywordEach [] env)).all (fun x => x.1.isSome)
      && decide (([elt] : List Expr).length + ([] : List Keyword).length + (if ([] : List Keyword).isEmpty then 0 else 1) < 30)) = true := by rfl)
    (hline : (apos.endLine == cpos.line) = true := by rfl) (he : backTo cpos (starEach [elt] env) = [(false, eval elt env)] := by rfl) (hi : interactive env = false := by rfl) (hs : swapsWith (.Call (.Attribute o "extend" apos) [elt] [] cpos) none pos.line env = pure false := by rfl) :
    Em w A env.locals g m (l1 ++ (D, listO vs n) :: l2) (execs (.Expr (.Call (.Attribute o "extend" apos) [elt] [] cpos) pos :: rest) env) R := fun ob hn s Q E g0 l H hQ => by
  refine wpAny_execs_cons (wpAny_Expr (wpAny_Call_method hbase hfew hline F.plainAttrs_list F.slot_list_extend F.type_list_extend (ho ob hn s _ E g0 l H fun u g1 h1 tk l1' H1 r1 => ?_)) hi hs)
  subst r1
  have e1 := H1.on _ (.tail _ (List.mem_append_right l1 (.head _)))
  refine ⟨⟨_, e1, rfl⟩, fun a ha => by cases ha; exact ⟨_, e1, rfl⟩, ?_⟩
  rw [he]
  refine PySem.P.extend_list (l := D) (c ob hn g1 (l.tr l1') _ _ E g1 (Le.rf _) H1 fun v g2 h2 tk2 l2' H2 r2 => ?_)
  obtain ⟨a, us, n2, rfl, e2, hul, hS⟩ := r2
  have e3 := H2.on _ (.tail _ (List.mem_append_right l1 (.head _)))
  have hsz : vs.toArray.size + us.toArray.size ≤ 1000 := by simp only [List.size_toArray]; omega
  refine ⟨a, vs.toArray, us.toArray, n, n2, ?_, ?_, ?_, rfl, e3, H2.keep _ _ e2, ?_⟩
  · exact Nat.le_trans (Nat.le_trans (Nat.le_add_right _ _) hsz) (by decide)
  · exact Nat.le_trans hsz (by decide)
  · intro hb
    have hb2 := (Bool.and_eq_true_iff.mp hb).2
    have : Builtin.List.listTooLong (vs.toArray.size + us.toArray.size) = false := by
      unfold Builtin.List.listTooLong
      have hbig : 1000 ≤ sizeLine := by decide
      simp only [decide_eq_false_iff_not]
      omega
    rw [this] at hb2; cases hb2
  · have e' := IsL.turn (vs' := vs ++ us) e3 (fun xs => xs ++ us.toArray) (by simp)
    have H4 : At g2 ((env.locals, ob) :: (l1 ++ (D, listO (vs ++ us) _) :: l2)) _ := At.setAt (l1 := (env.locals, ob) :: l1) H2 (Heap.SameBut.update ..) e'
    exact k g2 us _ ((l.tr l1').tr l2') hS ob hn _ Q E g2 (Le.rf _) H4 fun f g4 m4 hot4 o4 h4 tk4 l4 hn4 H4 r4 => hQ f g4 m4 hot4 o4 h4 tk4 ((l1'.tr l2').tr l4) hn4 H4 r4
/-- o.insert(k, e), o a hot list, k its length -/
theorem eInsert {o : Expr} {e1 elt : Expr} {apos cpos : Pos} {D : Addr} {vs : List Value} {n : Nat} {l1 l2 : Hot} {R1 : Heap → Value → Prop} (ho : ∀ ob, ObjNs ob m → Cn w A g ((env.locals, ob) :: (l1 ++ (D, listO vs n) :: l2)) (eval o env) fun _ u => u = .ref D)
    (c1 : ∀ ob, ObjNs ob m → ∀ g1, Le g g1 → Cn w A g1 ((env.locals, ob) :: (l1 ++ (D, listO vs n) :: l2)) (eval e1 env) fun g2 v => IsI vs.length v)
    (c : ∀ ob, ObjNs ob m → ∀ g1, Le g g1 → Cn w A g1 ((env.locals, ob) :: (l1 ++ (D, listO vs n) :: l2)) (eval elt env) R1) (hz : vs.length ≤ 900)
    (k : ∀ g1 v n', Le g g1 → R1 g1 v → Em w A env.locals g1 m (l1 ++ (D, listO (vs ++ [v]) n') :: l2) (execs rest env) R)
    (hbase : attributeBase o "insert" env (eval o env) = eval o env := by rfl)
    (hfew : ((backTo cpos (starEach [e1, elt] env)).all (fun x => !x.1) && (backToKw cpos (keywordEach [] env)).all (fun x => x.1.isSome)
      && decide (([e1, elt] : List Expr).length + ([] : List Keyword).length + (if ([] : List Keyword).isEmpty then 0 else 1) < 30)) = true := by rfl)
    (hline : (apos.endLine == cpos.line) = true := by rfl) (he : backTo cpos (starEach [e1, elt] env) = [(false, eval e1 env), (false, eval elt env)] := by rfl) (hi : interactive env = false := by rfl) (hs : swapsWith (.Call (.Attribute o "insert" apos) [e1, elt] [] cpos) none pos.line env = pure false := by rfl) :
    Em w A env.locals g m (l1 ++ (D, listO vs n) :: l2) (execs (.Expr (.Call (.Attribute o "insert" apos) [e1, elt] [] cpos) pos :: rest) env) R := fun ob hn s Q E g0 l H hQ => by
  refine wpAny_execs_cons (wpAny_Expr (wpAny_Call_method hbase hfew hline F.plainAttrs_list F.slot_list_insert F.type_list_insert (ho ob hn s _ E g0 l H fun u g1 h1 tk l1' H1 r1 => ?_)) hi hs)
  subst r1
  have e1' := H1.on _ (.tail _ (List.mem_append_right l1 (.head _)))
  refine ⟨⟨_, e1', rfl⟩, fun a ha => by cases ha; exact ⟨_, e1', rfl⟩, ?_⟩
  rw [he]
  refine method2_meetsIn (T := "list") F.slot_list_insert F.entry_list_insert (c1 ob hn g1 (l.tr l1') _ _ E g1 (Le.rf _) H1 fun i g2 h2 tk2 l2' H2 r2 => ?_)
  refine c ob hn g2 ((l.tr l1').tr l2') _ _ E g2 (Le.rf _) H2 fun v g3 h3 tk3 l3' H3 r3 => ?_
  obtain ⟨x, hx⟩ : ∃ x : Int, x = (vs.length : Int) := ⟨_, rfl⟩
  rw [← hx] at r2
  obtain ⟨t, rfl⟩ := r2
  have e3 := H3.on _ (.tail _ (List.mem_append_right l1 (.head _)))
  have f1 : Builtin.List.listFitsIndex x = true := fitsIndex_of (by omega) (by omega)
  have f2 : vs.toArray.size ≤ sizeLine := by simp only [List.size_toArray]; exact Nat.le_trans hz (by decide)
  have f3 : ¬(!Builtin.List.listFitsIndex x) = true := by rw [f1]; decide
  have gm := Meets.inModel (AutoSeq1.list_insert_list_int_val_1 D vs.toArray n x t v f3 f2) PP w
  refine ⟨⟨_, e3, rfl⟩, F.args_list_insert_3 _ _ _, _, gm, ?_⟩
  refine ⟨e3, ?_⟩
  have hx2 : (if x < 0 then (x + (vs.toArray.size : Int)).toNat else min x.toNat vs.toArray.size) = vs.length := by
    rw [if_neg (by omega)]; simp [hx]
  have e' := IsL.turn (vs' := vs ++ [v]) e3 (fun xs => have k := if x < 0 then (x + (xs.size : Int)).toNat else min x.toNat xs.size; (xs.extract 0 k).push v ++ xs.extract k) (by
    show (vs.toArray.extract 0 (if x < 0 then (x + (vs.toArray.size : Int)).toNat else min x.toNat vs.toArray.size)).push v ++ vs.toArray.extract (if x < 0 then (x + (vs.toArray.size : Int)).toNat else min x.toNat vs.toArray.size) = _
    rw [hx2]; simp)
  have H4 : At g3 ((env.locals, ob) :: (l1 ++ (D, listO (vs ++ [v]) _) :: l2)) _ := At.setAt (l1 := (env.locals, ob) :: l1) H3 (Heap.SameBut.update ..) e'
  exact k g3 v _ (((l.tr l1').tr l2').tr l3') r3 ob hn _ Q E g3 (Le.rf _) H4 fun f g4 m4 hot4 o4 h4 tk4 l4 hn4 H4 r4 => hQ f g4 m4 hot4 o4 h4 tk4 (((l1'.tr l2').tr l3').tr l4) hn4 H4 r4
/-- list(a list) : a new hot list -/
theorem chList {e : Expr} {np cpos : Pos} {a : Addr} {vs : List Value} {n : Nat} (W : Wd w g) (hz : vs.length ≤ 4096) (c : Cn w A g hot (eval e env) fun _ v => v = .ref a) (hl : HasP g hot a vs n)
    (e0 : nsIn (KK w.params) mainGlobals (Str.ofString "list") = some none) (en : biTab.lookup (Str.ofString "list") = some (.type "list"))
    (he : starEach [e] env = [(false, eval e env)] := by rfl) (hgl : env.globals = mainGlobals := by rfl) (hbl : env.builtins = builtinsNs := by rfl)
    (hkk : env.scope.kind = .function := by rfl) (hll : env.kindOf (Str.ofString "list") = some .globalImplicit := by rfl) :
    Ch w A g hot (eval (.Call (.Name (Str.ofString "list") np) [e] [] cpos) env) fun _ new v => ∃ D n', v = .ref D ∧ new = [(D, listO vs n')] := fun s Q E g0 l H hQ => by
  refine calltypeW (rest := []) W l H e0 en (arg1 c (fun _ _ _ _ h => h) he) (fun g2 vs' h2 tk2 l2 H2 r2 => ?_) he rfl hgl hbl hkk hll
  obtain ⟨a', rfl, rfl⟩ := r2
  have hL := (hl.up (l.tr l2)).at H2
  refine call_list_seq (items := vs.toArray) a (Or.inl rfl) hL rfl rfl (fun h' c' hk he' => ?_) (by rw [List.size_toArray]; exact Nat.le_trans hz (by decide))
  exact hQ _ [(h2.objs.size, listO vs c')] g2 h' tk2 l2 (H2.addNew hk (fun p hp => by rw [List.mem_singleton.mp hp]; exact ⟨he', Nat.le_refl _⟩) (by simp)) ⟨_, c', rfl, rfl⟩

def allBut (h : Heap) (xs : List Addr) : Hot := (List.range h.objs.size).filterMap fun b => if b ∈ xs then none else (h.get? b).map fun o => (b, o)
theorem mem_allBut {h : Heap} {xs : List Addr} {p : Addr × Obj} : p ∈ allBut h xs ↔ p.1 ∉ xs ∧ h.get? p.1 = some p.2 := by
  unfold allBut
  rw [List.mem_filterMap]
  constructor
  · rintro ⟨b, hb, e⟩
    by_cases hx : b ∈ xs
    · rw [if_pos hx] at e; cases e
    · rw [if_neg hx] at e
      cases q : h.get? b with
      | none => rw [q] at e; cases e
      | some o => rw [q] at e; cases e; exact ⟨hx, q⟩
  · rintro ⟨hx, e⟩
    exact ⟨p.1, List.mem_range.mpr (Heap.lt_size e), by rw [if_neg hx, e]; rfl⟩
end

/-- a store of an attribute into an object's own dict, the name there already or not -/
theorem setA_at {w : World} {A : Around} {g : Heap} {L : Addr} {m : Loc} {ob : Obj} {attr : Str} {pa da C : Addr} {es : List DictEntry} {n n' : Nat} {l1 l2 : Hot} {v : Value} {s : Shared} {Q : Unit → Shared → Prop} {E : Value → Shared → Prop} (es' : Nat → List DictEntry) (W : Wd w g) (hn : ObjNs ob m)
    (H2 : At g ((L, ob) :: (l1 ++ (da, dictOf es n) :: l2)) s.heap) (hpa : (pa, instObj C da) ∈ l1 ++ l2)
    (hs : findIn (KK w.params) (.ref C) "__setattr__" = some (some (.builtin "object.__setattr__"))) (hp : plainOver (KK w.params) C = true) (ht : takerIn (KK w.params) C attr = some none) (hh : hasDictIn (KK w.params) C = true) (hl : (getL attr es).isSome = true)
    (he : ∀ t, putL attr (PyData.keyHash w.params attr) (.str attr t) v es = es' t) (hn' : putN attr es n = n') (hz : ∀ t, (es' t).length ≤ 1000)
    (kk : ∀ o' h' t tk, ObjNs o' m → At g ((L, o') :: (l1 ++ (da, dictOf (es' t) n') :: l2)) h' → Q () { s with heap := h', toks := tk }) : wpAny (MM w) A (setAttr (.ref pa) attr v) Q E s := by
  obtain ⟨h2, gg, dd, tk2, os⟩ := s
  dsimp only at H2 kk
  have X : (KK w.params).In h2 := fun a o e => H2.keep _ _ (W.X a o e)
  have e3 := H2.on _ (.tail _ (List.mem_append_right l1 (.head _)))
  have e4 : h2.get? pa = some (instObj C da) := H2.on (pa, instObj C da) (.tail _ (by
    rcases List.mem_append.mp hpa with q | q
    · exact List.mem_append_left _ q
    · exact List.mem_append_right _ (.tail _ q)))
  have nd := H2.nd
  have ndp : ((L, ob) :: (da, dictOf es n) :: (l1 ++ l2)).map (·.1) |>.Nodup := by
    have q : ((L, ob) :: (l1 ++ (da, dictOf es n) :: l2)).Perm ((L, ob) :: (da, dictOf es n) :: (l1 ++ l2)) := List.perm_middle.cons _
    exact (q.map _).nodup_iff.mp nd
  simp only [List.map_cons, List.nodup_cons, List.mem_cons, not_or] at ndp
  have I : InstAt h2 pa (instObj C da) C (some (dictOf es n)) := ⟨e4, rfl, rfl, e3⟩
  have F : Fr ({} : Heap) L h2 m := ⟨hn.ns (H2.on _ (.head _)), fun b o e => by simp [Heap.get?] at e, Nat.zero_le _⟩
  have emp : ∀ b, ({} : Heap).get? b = none := fun b => by simp [Heap.get?]
  have N : News ({} : Heap) L h2 ([] ++ (da, dictOf es n) :: allBut h2 [L, da]) := fun p hp => by
    rcases List.mem_cons.mp hp with rfl | hp
    · exact ⟨e3, fun q => ndp.1.1 q.symm, emp _⟩
    · have := mem_allBut.mp hp
      simp only [List.mem_cons, List.not_mem_nil, or_false, not_or] at this
      exact ⟨this.2, this.1.1, emp _⟩
  refine set_plain X I hs (osa_dict (s := ⟨h2, gg, dd, tk2 + 1, os⟩) F N X I rfl hp ht hh hl (fun p hp => nomatch hp) (fun p hp => ?_) (od' := dictOf (es' (tk2 + 1)) n') ?_ rfl (hz _) fun h' F' N' => ?_)
  · have := mem_allBut.mp hp
    simp only [List.mem_cons, List.not_mem_nil, or_false, not_or] at this
    exact this.1.2
  · rw [putName_dict, he, hn']
  · obtain ⟨o', eo', hno'⟩ := ObjNs.of F'.ns
    have keepAll : ∀ b ob', b ≠ L → b ≠ da → h2.get? b = some ob' → h'.get? b = some ob' := fun b ob' h1 h2' eb => (N' (b, ob') (.tail _ (mem_allBut.mpr ⟨by simp [h1, h2'], eb⟩))).1
    refine kk o' h' (tk2 + 1) _ hno' ⟨fun b ob' eb => keepAll b ob' ?_ ?_ (H2.keep _ _ eb), fun p hp => ?_, fun p hp => ?_, ?_⟩
    · rintro rfl; rw [H2.sep (b, ob) (.head _)] at eb; cases eb
    · rintro rfl; rw [H2.sep (b, dictOf es n) (.tail _ (List.mem_append_right l1 (.head _)))] at eb; cases eb
    · rcases List.mem_cons.mp hp with rfl | hp
      · exact eo'
      · rcases List.mem_append.mp hp with hp | hp
        · have hm : p.1 ∈ (l1 ++ l2).map (·.1) := List.mem_map_of_mem (List.mem_append_left _ hp)
          exact keepAll _ _ (fun q => ndp.1.2 (q ▸ hm)) (fun q => ndp.2.1 (q ▸ hm)) (H2.on p (.tail _ (List.mem_append_left _ hp)))
        · rcases List.mem_cons.mp hp with rfl | hp
          · exact (N' (da, dictOf (es' (tk2 + 1)) n') (.head _)).1
          · have hm : p.1 ∈ (l1 ++ l2).map (·.1) := List.mem_map_of_mem (List.mem_append_right _ hp)
            exact keepAll _ _ (fun q => ndp.1.2 (q ▸ hm)) (fun q => ndp.2.1 (q ▸ hm)) (H2.on p (.tail _ (List.mem_append_right _ (.tail _ hp))))
    · rcases List.mem_cons.mp hp with rfl | hp
      · exact H2.sep (L, ob) (.head _)
      · rcases List.mem_append.mp hp with hp | hp
        · exact H2.sep p (.tail _ (List.mem_append_left _ hp))
        · rcases List.mem_cons.mp hp with rfl | hp
          · exact H2.sep (da, dictOf es n) (.tail _ (List.mem_append_right l1 (.head _)))
          · exact H2.sep p (.tail _ (List.mem_append_right _ (.tail _ hp)))
    · simpa using nd

section
variable {w : World} {A : Around} {g : Heap} {m : Loc} {hot : Hot} {env : Env} {pos : Pos} {R : Flow → Heap → Loc → Hot → Prop} {rest : List Stmt}
/-- o.attr = e, o an object of its own dict, the name there already -/
theorem eSetA {o e : Expr} {attr : Str} {pos' : Pos} {pa da C : Addr} {es : List DictEntry} {n : Nat} {l1 l2 : Hot} {R1 : Heap → Value → Prop} (es' : Value → List DictEntry) (W : Wd w g) (c : ∀ ob, ObjNs ob m → Cn w A g ((env.locals, ob) :: (l1 ++ (da, dictOf es n) :: l2)) (eval e env) R1)
    (ho : ∀ ob, ObjNs ob m → ∀ g1, Le g g1 → Cn w A g1 ((env.locals, ob) :: (l1 ++ (da, dictOf es n) :: l2)) (eval o env) fun _ u => u = .ref pa)
    (hpa : (pa, instObj C da) ∈ l1 ++ l2)
    (hs : findIn (KK w.params) (.ref C) "__setattr__" = some (some (.builtin "object.__setattr__"))) (hp : plainOver (KK w.params) C = true) (ht : takerIn (KK w.params) C attr = some none) (hh : hasDictIn (KK w.params) C = true) (hl : (getL attr es).isSome = true)
    (he : ∀ t v, putL attr (PyData.keyHash w.params attr) (.str attr t) v es = es' v) (hn' : putN attr es n = n) (hz : ∀ v, (es' v).length ≤ 1000) (hz0 : es.length ≤ 1000)
    (kk : ∀ g1 v, Le g g1 → R1 g1 v → Em w A env.locals g1 m (l1 ++ (da, dictOf (es' v) n) :: l2) (execs rest env) R)
    (hsw : swapsWith e (some (.Attribute o attr pos')) pos.line env = pure false := by rfl) :
    Em w A env.locals g m (l1 ++ (da, dictOf es n) :: l2) (execs (.Assign [.Attribute o attr pos'] e pos :: rest) env) R := fun ob hn s Q E g0 l H hQ =>
  wpAny_execs_cons (plainObj_wpAny_Assign_Attribute (c ob hn s _ E g0 l H fun v g1 h1 tk l1' H1 r1 => ho ob hn g1 (l.tr l1') _ _ E g1 (Le.rf _) H1 fun u g2 h2 tk2 l2' H2 r2 => by
    subst r2
    exact setA_at (fun _ => es' v) (W.up ((l.tr l1').tr l2')) hn H2 hpa hs hp ht hh hl (fun t => he t v) hn' (fun _ => hz v) fun o' h' t tk hno' H4 => (kk g1 v (l.tr l1') r1).up l2' o' hno' _ Q E g2 (Le.rf _) H4 fun f g4 m4 hot4 o4 h4 tk4 l4 hn4 H4 r4 => hQ f g4 m4 hot4 o4 h4 tk4 ((l1'.tr l2').tr l4) hn4 H4 r4) hsw)
end
end Mine

/-! C5 -/
open PySem PySem.W PyProof.Rows PySem.Spec PySem.Calls
set_option maxRecDepth 100000
set_option linter.unusedVariables false
namespace Mine

theorem tgAt_num (ts : List Tk) : ∀ k, ∀ x ∈ (tgAt ts k).1, ∃ i, ts[x]? = some (.n i)
  | 0 => fun x hx => nomatch hx
  | k + 1 => by
    have ih := tgAt_num ts k
    unfold tgAt
    cases h : ts[k]? with
    | none => exact ih
    | some t =>
      simp only [tgFound]
      split
      · rename_i hc
        intro x hx
        rcases List.mem_append.mp hx with hx | hx
        · exact ih x hx
        · rw [List.mem_singleton.mp hx]
          have := (Bool.and_eq_true_iff.mp hc).2
          cases t with
          | s k x => cases this
          | n i => exact ⟨i, h⟩
      · exact ih
theorem tgs_num {ts : List Tk} {k : Nat} (h : k ∈ tgs ts) : k < ts.length ∧ ∃ i, ts[k]? = some (.n i) := by
  have := (List.mem_filter.mp h).1
  exact ⟨((tgAt_small ts _).2 k this).2, tgAt_num ts _ k this⟩
theorem tgs_len (ts : List Tk) : (tgs ts).length ≤ ts.length := Nat.le_trans (List.length_filter_le _ _) (tgAt_small ts _).1
def numAt (ts : List Tk) (k : Nat) : Int := match ts[k]? with | some (.n i) => i | _ => 0
def ledGo (f : Int → Int) (ts : List Tk) (ks : List Nat) (acc : List Tk) : List Tk := ks.foldl (fun acc k => acc.set k (.n (f (numAt ts k)))) acc
def led (f : Int → Int) (ts : List Tk) : List Tk := ledGo f ts (tgs ts) ts
theorem ledGo_len (f : Int → Int) (ts : List Tk) : ∀ (ks : List Nat) (acc : List Tk), (ledGo f ts ks acc).length = acc.length
  | [], acc => rfl
  | k :: r, acc => by rw [ledGo, List.foldl_cons]; exact (ledGo_len f ts r _).trans (by simp)
theorem ledGo_snoc (f : Int → Int) (ts : List Tk) (ks : List Nat) (k : Nat) (acc : List Tk) : ledGo f ts (ks ++ [k]) acc = (ledGo f ts ks acc).set k (.n (f (numAt ts k))) := by
  unfold ledGo
  rw [List.foldl_append]; rfl
theorem RdAll.set {g : Heap} {vs : List Value} {ds : List PyData} {v : Value} {d : PyData} (r : RdAll g vs ds) (q : Rd g v d) (k : Nat) : RdAll g (vs.set k v) (ds.set k d) := by
  induction ds generalizing vs k with
  | nil =>
    have := r.length
    have : vs = [] := List.length_eq_zero_iff.mp (by simpa using this)
    subst this
    exact r
  | cons d' ds ih =>
    obtain ⟨u, ws, rfl, h1, h2⟩ := r.inv
    cases k with
    | zero => exact .cons q h2
    | succ k => exact .cons h1 (ih h2 k)
theorem take_snoc {α : Type} {l : List α} {i : Nat} {x : α} (h : l[i]? = some x) : l.take (i + 1) = l.take i ++ [x] := by rw [List.take_add_one, h]; rfl

/-- a hot object that changes no more -/
theorem eFreeze {w : World} {A : Around} {g : Heap} {L : Addr} {m : Loc} {α : Type} {t : Sem α} {R : α → Heap → Loc → Hot → Prop} {D : Addr} {od : Obj} {l1 l2 : Hot}
    (k : ∀ g1, Le g g1 → g1.get? D = some od → Em w A L g1 m (l1 ++ l2) t R) : Em w A L g m (l1 ++ (D, od) :: l2) t R := fun o hn s Q E g0 l H hQ => by
  have H1 : At g0 ((D, od) :: (L, o) :: (l1 ++ l2)) s.heap := H.perm ((List.perm_middle.cons _).trans (List.Perm.swap ..))
  obtain ⟨g1, le, e, H2⟩ := H1.freeze
  exact k g1 (l.tr le) e o hn s Q E g1 (Le.rf _) H2 fun v g2 m2 hot2 o2 h2 tk l2 hn2 H2 r2 => hQ v g2 m2 hot2 o2 h2 tk (le.tr l2) hn2 H2 r2
/-- row[at][1] at a number -/
theorem numOf {w : World} {A : Around} {g : Heap} {hot : Hot} {env : Env} {er ea : Expr} {p1 p2 p3 : Pos} {kk : Nat} {ra : Addr} {rv : List Value} {ts : List Tk} {k : Nat} {i : Int} {kv : Value} (hl : HasL g hot ra rv) (hr : RdAll g rv (ts.map Tk.d)) (hz : ts.length < 100) (hk : ts[k]? = some (.n i)) (hn : IsI k kv)
    (c1 : Cn w A g hot (eval er env) fun _ v => v = .ref ra) (c2 : ∀ g1, Le g g1 → Cn w A g1 hot (eval ea env) fun _ v => v = kv)
    (hs : ∀ u, subscripted ea false (.ref ra) (.int k u) = operate [.ref ra, .int k u] (getItem (.ref ra) (.int k u)) := by intro _; with_unfolding_all rfl) :
    Cn w A g hot (eval (.Subscript (.Subscript er ea p1) (.Constant (.int 1) kk p2) p3) env) fun _ v => IsI i v :=
  subs (R1 := fun g v => Rd g v (Tk.n i).d) (subs c1 (fun g1 _ l1 _ => c2 g1 l1) fun g1 g2 u v l1 l2 ru rv' => by
    subst ru rv'
    exact iListD (k := k) (hl.up (l1.tr l2)) (hr.mono (l1.tr l2)) hn (by simp; omega) (by simp [hk]) hs) (fun _ _ _ _ => cI) fun g1 g2 u v l1 l2 ru rv' =>
      (iTupD (k := 1) (d := .int i) (ru.mono l2) rv' (by simp) rfl).imp fun g3 v l3 r => r.int

set_option maxHeartbeats 2000000 in
theorem c_led {w : World} {A : Around} {g : Heap} {hot : Hot} {ra wa : Addr} {rv : List Value} {nr : Nat} {ts : List Tk} {wo : Obj} {kvs : List (Int × Value)} {f : Int → Int} (hh : A.handled = none) (hd : A.depth < 860) (hu : A.units + 300 < cLine) (W : Wd w g) (hl : g.get? ra = some (listO rv nr)) (hr : RdAll g rv (ts.map Tk.d)) (hok : ∀ t ∈ ts, t.ok = true)
    (hz : ts.length < 100) (hm : (wa, wo) ∈ hot) (hwd : wo.IsDictOf (intKind PP w) kvs) (hws : (wa == sysModules) = false) (hf : ∀ i v, valueAt kvs i = some v → IsI (f i) v) (hf0 : ∀ i, valueAt kvs i = none → f i = i) :
    Cn w A g hot (call (.ref 106) [.ref ra, .ref wa]) fun g1 v => ∃ a vs n, v = .ref a ∧ g1.get? a = some (listO vs n) ∧ RdAll g1 vs ((led f ts).map Tk.d) := by
  refine enter W rfl rfl rfl rfl rfl (rlt hd) (fun L => ?_) (by decide) (locs rfl)
  have hln : rv.length = ts.length := by simpa using hr.length
  refine eAsgH (x := "found") (R1 := fun _ new v => ∃ D n', v = .ref D ∧ new = [(D, listO rv n')]) (fun o ho => chList W (by omega) (nV (.head _) ho rfl) (Or.inr hl) rfl rfl) fun gA new v lA r1 => ?_
  obtain ⟨D, n', rfl, rfl⟩ := r1
  refine eFor (x := "at") (n := (tgs ts).length) (P := fun i v => ∃ k, (tgs ts)[i]? = some k ∧ IsI k v) [] (fun i g1 m1 hot1 => ∃ nD vs, hot1 = (D, listO vs nD) :: hot ∧ m1 "found" = some (.ref D) ∧ m1 "row" = some (.ref ra) ∧ m1 "ways" = some (.ref wa) ∧ RdAll g1 vs ((ledGo f ts ((tgs ts).take i) ts).map Tk.d))
    (fun o ho => itL hh ?_) (fun g1 l1 => ⟨n', rv, rfl, rfl, rfl, rfl, hr.mono (lA.tr l1)⟩) (fun _ _ _ _ _ p hp => nomatch hp) ?_ ?_
  · refine calldef (f := 82) (W.up lA) rfl rfl rfl (arg1 (nV (.head _) ho rfl)) fun g1 us l1 r => ?_
    obtain ⟨a, rfl, rfl⟩ := r
    exact Cn.imp (c_targets hh (show A.depth + 1 < 880 from dlt hd (by decide)) (show A.units + 3 + 250 < cLine from ult hu (by decide)) ((W.up lA).up l1) ((lA.tr l1) _ _ hl) (hr.mono (lA.tr l1)) hok hz) fun g2 v l2 ⟨a, vs, n, e1, e2, e3⟩ => ⟨a, vs, n, e1, e2, by simpa [natI] using e3.1, fun i v hv => by
      have : i < (tgs ts).length := by
        have := (List.getElem?_eq_some_iff.mp hv).1
        have := e3.1; simp [natI] at this; omega
      exact ⟨(tgs ts)[i], List.getElem?_eq_getElem this, e3.2 i v _ hv (by simp [natI, List.getElem?_eq_getElem this])⟩⟩
  · rintro i g1 m1 hot1 v its l1 hi ⟨nD, vs, rfl, h1, h2, h3, h4⟩ ⟨k, hk, hki⟩
    obtain ⟨hkl, x, hx⟩ := tgs_num (List.mem_of_getElem? hk)
    have h1' : (up m1 "at" v) "found" = some (.ref D) := h1
    have h2' : (up m1 "at" v) "row" = some (.ref ra) := h2
    have h3' : (up m1 "at" v) "ways" = some (.ref wa) := h3
    have hvl : vs.length = ts.length := by
      have := h4.length
      rw [List.length_map, ledGo_len] at this
      exact this
    have lA1 := lA.tr l1
    obtain ⟨tk, rfl⟩ := hki
    refine eSetI (k := k) (R1 := fun g v => Rd g v (Tk.n (f x)).d) (fun ob ho => ?_) (fun ob ho g2 l2 => nV (.head _) ho h1') (fun ob ho g2 l2 => (nV (.head _) ho rfl).imp fun _ _ _ r => ⟨tk, r⟩) (by omega) (by omega) fun g2 g3 u n3 l2 l3 ru => ?_
    · refine dTup2 dStr fun g2 l2 => ?_
      refine dGet2 (k := x) (R2 := fun _ v => IsI x v) (.tail _ (List.mem_append_right _ (.tail _ hm))) hwd hws (nV (.head _) ho h3') (fun g3 l3 => numOf (HasL.of ((lA1.tr l2).tr l3 _ _ hl)) (hr.mono ((lA1.tr l2).tr l3)) hz hx ⟨tk, rfl⟩ (nV (.head _) ho h2') fun _ _ => nV (.head _) ho rfl)
        (fun g3 l3 => numOf (HasL.of ((lA1.tr l2).tr l3 _ _ hl)) (hr.mono ((lA1.tr l2).tr l3)) hz hx ⟨tk, rfl⟩ (nV (.head _) ho h2') fun _ _ => nV (.head _) ho rfl) fun g3 v l3 r => ?_
      cases hv : valueAt kvs x with
      | none => rw [hf0 x hv]; exact r.rd _
      | some y => exact (hf x y hv).rd _
    · refine eNil fun g4 l4 => ⟨.inl rfl, _, rfl, n3, _, rfl, h1, h2, h3, ?_⟩
      rw [take_snoc hk, ledGo_snoc, List.map_set]
      have e : numAt ts k = x := by unfold numAt; rw [hx]
      rw [e]
      exact (h4.mono ((l2.tr l3).tr l4)).set (ru.mono (l3.tr l4)) k
  · rintro g1 m1 hot1 l1 ⟨nD, vs, rfl, h1, h2, h3, h4⟩
    rw [List.take_length] at h4
    refine eFreeze (l1 := []) fun g2 l2 e => ?_
    exact eRet (fun o ho => nV (.head _) ho h1) fun g3 v l3 r => ⟨[], rfl, D, vs, nD, r, l3 _ _ e, h4.mono (l2.tr l3)⟩
end Mine

/-! Lg12 -/
open PySem PySem.W PyProof.Rows PySem.Spec PySem.Calls
set_option maxRecDepth 100000
set_option linter.unusedVariables false
namespace Mine

section
variable {w : World} {A : Around} {g : Heap} {m : Loc} {hot : Hot} {env : Env} {pos : Pos} {R : Flow → Heap → Loc → Hot → Prop} {rest : List Stmt}
/-- a store into a cell of the frame's own -/
theorem storeC {x : Str} {c : Addr} {v₀ : Option Value} {v : Value} {oc : Obj} {l1 l2 : Hot} {g0 : Heap} {s : Shared} {Q : Unit → Shared → Prop} {E : Value → Shared → Prop} (hc : env.cells.lookup x = some c) (H : At g0 (l1 ++ (c, oc) :: l2) s.heap) (ho : oc.data = .cell v₀)
    (h : ∀ oc' h', oc'.data = .cell (some v) → At g0 (l1 ++ (c, oc') :: l2) h' → Q () { s with heap := h' }) (hk : env.scope.kind = .function := by rfl) (hl : env.kindOf x = some .cell := by rfl) : wpAny (MM w) A (storeName env x v) Q E s :=
  wpAny_storeName_cell hk hl hc ⟨oc, H.on _ (List.mem_append_right _ (.head _)), ho⟩ fun h' hc' hs => by
    obtain ⟨oc', e, hd⟩ := hc'
    exact h oc' h' hd (H.setAt hs e)
inductive TcJ (cx cy : Addr) (K : Hot → Prop) : Hot → Prop where
  | mk (ox oy : Obj) (vx vy : Option Value) (h2 : Hot) (hx : ox.data = .cell vx) (hy : oy.data = .cell vy) (hJ : K h2) : TcJ cx cy K ((cy, oy) :: (cx, ox) :: h2)
theorem TcJ.inv {cx cy : Addr} {K : Hot → Prop} {ox oy : Obj} {h2 : Hot} (h : TcJ cx cy K ((cy, oy) :: (cx, ox) :: h2)) : K h2 := by
  cases h; assumption
inductive TcB (cx cy : Addr) (m1 : Loc) : Hot → Value → Value → Loc → Hot → Prop where
  | mk {a b : Value} (ox oy ox' oy' : Obj) (h3 : Hot) (hx : ox'.data = .cell (some a)) (hy : oy'.data = .cell (some b)) : TcB cx cy m1 ((cy, oy) :: (cx, ox) :: h3) a b m1 ((cy, oy') :: (cx, ox') :: h3)
theorem cell_in {a : Addr × Obj} (its : Hot) (b c : Addr × Obj) (l : Hot) : a :: (its ++ b :: c :: l) = (a :: (its ++ [b])) ++ c :: l := by simp
/-- for x, y in ..: both targets cells -/
theorem eForTC {x y : Str} {px py tp : Pos} {kk : Nat} {iter : Expr} {body : List Stmt} {n : Nat} {P : Nat → Value → Value → Prop} {cx cy : Addr} {ox oy : Obj} {vx vy : Option Value} (hh : A.handled = none) (keep : Hot) (J : Nat → Heap → Loc → Hot → Prop) (hcx : env.cells.lookup x = some cx) (hcy : env.cells.lookup y = some cy) (hox : ox.data = .cell vx) (hoy : oy.data = .cell vy)
    (c : ∀ o, ObjNs o m → ItT w A g ((env.locals, o) :: (cy, oy) :: (cx, ox) :: hot) (eval iter env) n P keep)
    (j0 : ∀ g1, Le g g1 → J 0 g1 m hot) (hk : ∀ i g1 m1 hot1, J i g1 m1 hot1 → ∀ p ∈ keep, p ∈ hot1)
    (turn : ∀ i g1 m1 hot1 a b its ox oy, Le g g1 → i < n → J i g1 m1 hot1 → P i a b → ox.data = .cell (some a) → oy.data = .cell (some b) → Em w A env.locals g1 m1 (its ++ (cy, oy) :: (cx, ox) :: hot1) (execs body env) fun fl g2 m2 hot2 => (fl = .next ∨ fl = .cont) ∧ ∃ ox' oy' vx vy hot3, hot2 = its ++ (cy, oy') :: (cx, ox') :: hot3 ∧ ox'.data = .cell vx ∧ oy'.data = .cell vy ∧ J (i + 1) g2 m2 hot3)
    (k : ∀ g1 m1 hot1 ox oy, Le g g1 → J n g1 m1 hot1 → Em w A env.locals g1 m1 ((cy, oy) :: (cx, ox) :: hot1) (execs rest env) R)
    (hx : env.kindOf x = some .cell := by rfl) (hy : env.kindOf y = some .cell := by rfl) (hkk : env.scope.kind = .function := by rfl)
    (hs : ∀ x, foldedSetIterable iter env x = pure x := by intro _; rfl) : Em w A env.locals g m ((cy, oy) :: (cx, ox) :: hot) (execs (.For (.Tuple [.Name x px, .Name y py] kk tp) iter body [] pos :: rest) env) R :=
  eForP hh keep (fun i g1 m1 hot1 => TcJ cx cy (J i g1 m1) hot1) (fun m1 hot1 a b m2 hot2 => TcB cx cy m1 hot1 a b m2 hot2)
    c (fun g1 l => .mk ox oy vx vy hot hox hoy (j0 g1 l)) (fun i g1 m1 hot1 h p hp => by
      obtain ⟨ox, oy, vx, vy, hot2, hx2, hy2, hJ⟩ := h
      exact .tail _ (.tail _ (hk _ _ _ _ hJ p hp)))
    (fun i g1 m1 hot1 its a b l h o hn s Q E g0 l0 H hQ => by
      obtain ⟨ox, oy, vx, vy, hot2, hx2, hy2, hJ⟩ := h
      have H1 : At g0 (((env.locals, o) :: (its ++ [(cy, oy)])) ++ (cx, ox) :: hot2) s.heap := cell_in its _ _ _ ▸ H
      refine wpAny_assignInOrder_more (PySem.wpAny_assign_Name (storeC hcx H1 hx2 (fun ox6 h6 hx6 H6 => ?_) hkk hx))
      have H6a : At g0 ((env.locals, o) :: (its ++ (cy, oy) :: (cx, ox6) :: hot2)) h6 := cell_in its _ _ _ ▸ H6
      refine wpAny_assignInOrder_more (PySem.wpAny_assign_Name (storeC (l1 := (env.locals, o) :: its) hcy H6a hy2 (fun oy7 h7 hy7 H7 => ?_) hkk hy))
      exact wpAny_pure (hQ () g0 m1 _ o h7 _ (Le.rf _) hn H7 ⟨_, rfl, .mk ox oy ox6 oy7 hot2 hx6 hy7, fun p hp => .tail _ (.tail _ (hk _ _ _ _ hJ p hp))⟩))
    (fun i g1 g2 m1 hot1 a b m2 hot2 its l hi h hP l2 h2 => by
      obtain ⟨ox1, oy1, ox', oy', hot4, hx', hy'⟩ := h2
      obtain hJ := h.inv
      exact ((turn i g1 _ hot4 _ _ its ox' oy' l hi hJ hP hx' hy').up l2).imp fun fl g3 m3 hot5 _ r => by
        obtain ⟨hf, ox6, oy6, vx6, vy6, hot6, e6, hx6, hy6, hJ6⟩ := r
        exact ⟨hf, _, e6, .mk ox6 oy6 vx6 vy6 hot6 hx6 hy6 hJ6⟩)
    (fun g1 m1 hot1 l h => by
      obtain ⟨ox, oy, vx, vy, hot2, hx2, hy2, hJ⟩ := h
      exact k g1 m1 hot2 ox oy l hJ) hs
end
end Mine

/-! C6 -/
open PySem PySem.W PyProof.Rows PySem.Spec PySem.Calls
set_option maxRecDepth 100000
set_option linter.unusedVariables false
namespace Mine

theorem Em.perm {w : World} {A : Around} {g : Heap} {L : Addr} {m : Loc} {hot hot' : Hot} {α : Type} {t : Sem α} {R : α → Heap → Loc → Hot → Prop} (c : Em w A L g m hot t R) (q : hot.Perm hot') : Em w A L g m hot' t R := fun o hn s Q E g0 l H hQ =>
  c o hn s Q E g0 l (H.perm (q.symm.cons _)) hQ
structure RowsV (g : Heap) (rv : List Value) (rows : List (List Tk)) : Prop where
  len : rv.length = rows.length
  at' : ∀ (i : Nat) v ts, rv[i]? = some v → rows[i]? = some ts → ∃ a vs n, v = .ref a ∧ g.get? a = some (listO vs n) ∧ RdAll g vs (ts.map Tk.d)
theorem RowsV.up {g g' : Heap} {rv : List Value} {rows : List (List Tk)} (h : RowsV g rv rows) (l : Le g g') : RowsV g' rv rows := ⟨h.len, fun i v ts h1 h2 => by
  obtain ⟨a, vs, n, e1, e2, e3⟩ := h.at' i v ts h1 h2
  exact ⟨a, vs, n, e1, l _ _ e2, e3.mono l⟩⟩
def goodRows (rows : List (List Tk)) : Prop := rows.length ≤ 8 ∧ ∀ ts ∈ rows, ts.length < 100 ∧ ∀ t ∈ ts, t.ok = true
def prD (q : Int × Int) : PyData := .tuple [.int q.1, .int q.2]
def isLost (ns : List Int) (ts : List Tk) (k : Nat) : Bool := !decide (numAt ts k ∈ ns)
def lostRow (ns : List Int) (n : Int) (ts : List Tk) : List (Int × Int) := ((tgs ts).filter (isLost ns ts)).map fun k => (n, numAt ts k)
def lostTo (ns : List Int) (rows : List (List Tk)) : Nat → List (Int × Int)
  | 0 => []
  | i + 1 => lostTo ns rows i ++ (match ns[i]?, rows[i]? with | some n, some ts => lostRow ns n ts | _, _ => [])
theorem lostRow_len (ns : List Int) (n : Int) (ts : List Tk) : (lostRow ns n ts).length ≤ ts.length := by
  unfold lostRow
  rw [List.length_map]
  exact Nat.le_trans (List.length_filter_le _ _) (tgs_len ts)
theorem lostTo_len (ns : List Int) (rows : List (List Tk)) (h : goodRows rows) : ∀ i, (lostTo ns rows i).length ≤ 100 * i
  | 0 => Nat.le_refl _
  | i + 1 => by
    have ih := lostTo_len ns rows h i
    unfold lostTo
    rw [List.length_append]
    have : (match ns[i]?, rows[i]? with | some n, some ts => lostRow ns n ts | _, _ => []).length ≤ 100 := by
      split
      · rename_i n ts h1 h2
        have := (h.2 ts (List.mem_of_getElem? h2)).1
        have := lostRow_len ns n ts
        omega
      · exact Nat.zero_le _
    omega
theorem filter_take {α : Type} (p : α → Bool) {l : List α} {i : Nat} {x : α} (h : l[i]? = some x) : (l.take (i + 1)).filter p = (l.take i).filter p ++ (if p x then [x] else []) := by
  rw [take_snoc h, List.filter_append]
  simp only [List.filter_cons, List.filter_nil]

theorem RdAll.app {g : Heap} {vs us : List Value} {ds es : List PyData} (r : RdAll g vs ds) (q : RdAll g us es) : RdAll g (vs ++ us) (ds ++ es) := by
  induction ds generalizing vs with
  | nil =>
    have := r.length
    have : vs = [] := List.length_eq_zero_iff.mp (by simpa using this)
    subst this; exact q
  | cons d ds ih =>
    obtain ⟨v, ws, rfl, h1, h2⟩ := r.inv
    exact .cons h1 (ih h2)
theorem cells3 {cm : Str → Option Value} {n n' n2 : Str} {c c' c2 : Addr} {cells : List (Addr × Obj)} (x : CellsAre cm [(n, c), (n', c'), (n2, c2)] cells) :
    ∃ o o' o2, cells = [(c, o), (c', o'), (c2, o2)] ∧ o.data = .cell (cm n) ∧ o'.data = .cell (cm n') ∧ o2.data = .cell (cm n2) := by
  cases x with | cons h r => obtain ⟨o', o2, rfl, h', h2⟩ := r.two; exact ⟨_, o', o2, rfl, h, h', h2⟩
set_option maxHeartbeats 4000000 in
theorem c_lost {w : World} {A : Around} {g : Heap} {hot : Hot} (p : Pg) {ns : List Int} {rows : List (List Tk)} (hh : A.handled = none) (hd : A.depth < 850) (hu : A.units + 350 < cLine) (P : PgIn p w g hot) (W : Wd w g) (hi : IntsV p.nv ns) (hs : ns.Pairwise (· < ·)) (hr : RowsV g p.rv rows) (hg : goodRows rows) (hnr : ns.length = rows.length) :
    Cn w A g hot (call (.ref 94) [.ref p.pa]) fun g1 v => ∃ a vs n, v = .ref a ∧ g1.get? a = some (listO vs n) ∧ RdAll g1 vs ((lostTo ns rows ns.length).map prD) := by
  refine enterC W rfl rfl rfl rfl rfl (rlt hd) (fun L cells hc => ?_) rfl (by decide +kernel) rfl
  obtain ⟨orow, onum, op, rfl, h1, h2, h3⟩ := cells3 hc
  have hn8 : ns.length ≤ 8 := hnr ▸ hg.1
  refine eAsgH (x := "found") (R1 := fun _ new v => ∃ D, v = .ref D ∧ new = [(D, listO [] 0)]) (fun o ho => chNil) fun gA new v lA r1 => ?_
  obtain ⟨D, rfl, rfl⟩ := r1
  refine Em.perm (hot := (L + 3, orow) :: (L + 2, onum) :: (D, listO [] 0) :: (L + 1, op) :: hot) ?_ ((((List.Perm.swap _ _ _).cons _)).trans (List.Perm.swap _ _ _))
  refine eForTC (x := "number") (y := "row") (n := p.nv.length) (P := fun i x y => p.nv[i]? = some x ∧ p.rv[i]? = some y) hh hot (fun i g1 m1 hot1 => ∃ nD vs, hot1 = (D, listO vs nD) :: (L + 1, op) :: hot ∧ m1 "found" = some (.ref D) ∧ RdAll g1 vs ((lostTo ns rows i).map prD))
    rfl rfl h2 h1 (fun o ho => ?_) (fun g1 l1 => ⟨0, [], rfl, rfl, .nil⟩) ?_ ?_ ?_
  · have mem : ∀ q ∈ hot, q ∈ ((L, o) :: (L + 3, orow) :: (L + 2, onum) :: (D, listO [] 0) :: (L + 1, op) :: hot) := fun q hq => .tail _ (.tail _ (.tail _ (.tail _ (.tail _ hq))))
    refine itZip hot hh (W.up lA) rfl rfl ?_ (fun g1 l1 => ?_) (P.to lA mem).n.l (P.to lA mem).r.l (P.n.imp (fun h => ⟨_, h⟩) fun e => ⟨_, lA _ _ e⟩) (P.r.imp (fun h => ⟨_, h⟩) fun e => ⟨_, lA _ _ e⟩) (by rw [hr.len, hi.1, hnr])
    · exact attrNm (nmc (c := L + 1) (R := fun _ v => v = .ref p.pa) rfl (by simp) h3 fun _ _ => rfl) fun g2 v l2 r2 => by subst r2; exact getNumbers (W.up (lA.tr l2)) (mem _ P.i) (mem _ P.d)
    · exact attrNm (nmc (c := L + 1) (R := fun _ v => v = .ref p.pa) rfl (by simp) h3 fun _ _ => rfl) fun g2 v l2 r2 => by subst r2; exact getRows (W.up ((lA.tr l1).tr l2)) (mem _ P.i) (mem _ P.d)
  · rintro i g1 m1 hot1 ⟨nD, vs, rfl, _, _⟩ q hq
    exact .tail _ (.tail _ hq)
  · rintro i g1 m1 hot1 a b its ox oy l1 hlt ⟨nD, vs, rfl, e1, e2⟩ ⟨ha, hb⟩ hox hoy
    have hil : i < ns.length := by rw [← hi.1]; exact hlt
    obtain ⟨n, hn⟩ : ∃ n, ns[i]? = some n := ⟨ns[i], List.getElem?_eq_getElem hil⟩
    obtain ⟨ts, ht⟩ : ∃ ts, rows[i]? = some ts := ⟨rows[i]'(by omega), List.getElem?_eq_getElem (by omega)⟩
    have hai : IsI n a := hi.2 i a n ha hn
    obtain ⟨ra, rv, nr, rfl, hra, hrr⟩ := hr.at' i b ts hb ht
    obtain ⟨hz, hok⟩ := hg.2 ts (List.mem_of_getElem? ht)
    have hvl : vs.length ≤ 900 := by
      have := e2.length
      have := lostTo_len ns rows hg i
      simp at *
      omega
    have hst : lostTo ns rows (i + 1) = lostTo ns rows i ++ lostRow ns n ts := by
      conv => lhs; unfold lostTo
      rw [hn, ht]
    have lA1 := lA.tr l1
    have sh : its ++ (L + 3, oy) :: (L + 2, ox) :: (D, listO vs nD) :: (L + 1, op) :: hot = (its ++ [(L + 3, oy), (L + 2, ox)]) ++ (D, listO vs nD) :: (L + 1, op) :: hot := by simp
    rw [sh]
    refine eExtend (fun g us => RdAll g us ((lostRow ns n ts).map prD)) (fun ob ho => nV (.head _) ho e1) (fun ob ho g2 l2 => ?_) hvl fun g2 us n' l2 hus => ?_
    · have lA2 := lA1.tr l2
      refine compG (n := (tgs ts).length) (B := fun i m => ∃ v, (∃ k, (tgs ts)[i]? = some k ∧ IsI k v) ∧ m "at" = some v) (cl := [("row", L + 3), ("program", L + 1), ("number", L + 2)]) (Src.name (itL hh ?_)) (fun _ hq => nomatch hq) (fun C => ⟨rfl, rfl⟩)
        (fun i g ys => RdAll g ys (((((tgs ts).take i).filter (isLost ns ts)).map fun k => (n, numAt ts k)).map prD)) (fun i => match (tgs ts)[i]? with | some k => isLost ns ts k | none => false) (by have := tgs_len ts; omega) (fun _ _ => .nil) (fun _ _ _ _ l h => h.mono l) ?_ ?_ ?_ (fun g3 a ys n' l3 e h => ⟨a, ys, n', rfl, e, ?_, ?_⟩) rfl (by decide) rfl (by decide)
      · refine calldef (f := 82) (W.up lA2) rfl rfl rfl (arg1 (nmc (c := L + 3) (R := fun _ v => v = .ref ra) rfl (by first | exact mem1 | exact mem2 | exact mem3 | exact mem4 | exact memB mem0 | exact memB mem1 | exact memB mem2 | exact memB mem3 | exact memB mem4 | simp) hoy fun _ _ => rfl)) fun g3 us l3 r => ?_
        obtain ⟨a, rfl, rfl⟩ := r
        exact Cn.imp (c_targets hh (show A.depth + 1 < 880 from dlt hd (by decide)) (show A.units + 3 + 250 < cLine from ult hu (by decide)) (W.up (lA2.tr l3)) ((lA2.tr l3) _ _ hra) (hrr.mono (lA2.tr l3)) hok hz) fun g2 v l2 ⟨a, vs, n, e1, e2, e3⟩ => ⟨a, vs, n, e1, e2, by simpa [natI] using e3.1, fun i v hv => by
          have : i < (tgs ts).length := by
            have := (List.getElem?_eq_some_iff.mp hv).1
            have := e3.1; simp [natI] at this; omega
          exact ⟨(tgs ts)[i], List.getElem?_eq_getElem this, e3.2 i v _ hv (by simp [natI, List.getElem?_eq_getElem this])⟩⟩
      · rintro j C oC m ext g3 l3 hj ⟨v, ⟨k, hk, hki⟩, hm⟩ hoC
        obtain ⟨hkl, x, hx⟩ := tgs_num (List.mem_of_getElem? hk)
        have lA3 := lA2.tr l3
        rw [hk]
        have ex : numAt ts k = x := by unfold numAt; rw [hx]
        refine tests1 (tNot (b := decide (x ∈ ns)) (tVal ?_)) |>.imp fun g4 r l4 e => by rw [e]; show _ = !decide (numAt ts k ∈ ns); rw [ex]
        refine calldef (f := 70) (W.up lA3) rfl rfl rfl (arg2 (nmc (c := L + 1) (R := fun _ v => v = .ref p.pa) rfl (by simp) h3 fun _ _ => rfl) fun g4 l4 => numOf (HasL.of ((lA3.tr l4) _ _ hra)) (hrr.mono (lA3.tr l4)) hz hx hki (nmc (c := L + 3) (R := fun _ v => v = .ref ra) rfl (by first | exact mem1 | exact mem2 | exact mem3 | exact mem4 | exact memB mem0 | exact memB mem1 | exact memB mem2 | exact memB mem3 | exact memB mem4 | simp) hoy fun _ _ => rfl) fun _ _ => nV (.head _) hoC hm) fun g4 us l4 r => ?_
        obtain ⟨a, b, rfl, rfl, hb⟩ := r
        exact Cn.imp (c_has (n := x) p hh (show A.depth + 1 < 890 from dlt hd (by decide)) (P.to (lA3.tr l4) fun q hq => by simp [hq]) (W.up (lA3.tr l4)) hi hs (by omega) hb) fun g5 v l5 r => ⟨_, r, rfl⟩
      · rintro j C oC m ext g3 ys l3 hj ⟨v, ⟨k, hk, hki⟩, hm⟩ hb hoC hA
        obtain ⟨hkl, x, hx⟩ := tgs_num (List.mem_of_getElem? hk)
        have lA3 := lA2.tr l3
        rw [hk] at hb
        have ex : numAt ts k = x := by unfold numAt; rw [hx]
        refine Cn.imp (R := fun g v => Rd g v (prD (n, x))) (dTup2 (d := .int n) (nmc (c := L + 2) rfl (by first | exact mem1 | exact mem2 | exact mem3 | exact mem4 | exact memB mem0 | exact memB mem1 | exact memB mem2 | exact memB mem3 | exact memB mem4 | simp) hox fun g4 l4 => hai.rd _) fun g4 l4 => Cn.imp (R := fun _ v => IsI x v) (numOf (HasL.of ((lA3.tr l4) _ _ hra)) (hrr.mono (lA3.tr l4)) hz hx hki (nmc (c := L + 3) (R := fun _ v => v = .ref ra) rfl (by first | exact mem1 | exact mem2 | exact mem3 | exact mem4 | exact memB mem0 | exact memB mem1 | exact memB mem2 | exact memB mem3 | exact memB mem4 | simp) hoy fun _ _ => rfl) fun _ _ => nV (.head _) hoC hm) fun g5 v l5 r => r.rd _) fun g4 v l4 r => ?_
        rw [filter_take _ hk, if_pos hb, List.map_append, List.map_append]
        refine (hA.mono l4).snoc ?_
        rw [← ex] at r
        exact r
      · intro j g3 ys hb hA
        cases hk : (tgs ts)[j]? with
        | none =>
          rw [List.take_add_one, hk]; simpa using hA
        | some k =>
          rw [hk] at hb
          dsimp only at hb
          rw [filter_take _ hk, if_neg (by rw [hb]; decide), List.append_nil]; exact hA
      · have := h.length
        rw [List.take_length] at this
        have h2 := lostRow_len ns n ts
        unfold lostRow at h2
        rw [List.length_map] at this
        omega
      · rw [List.take_length] at h; exact h
    · refine eNil fun g3 l3 => ⟨.inl rfl, ox, oy, _, _, (D, listO (vs ++ us) n') :: (L + 1, op) :: hot, by simp, hox, hoy, n', _, rfl, e1, ?_⟩
      rw [hst, List.map_append]
      exact RdAll.app (e2.mono (l2.tr l3)) (hus.mono l3)
  · rintro g1 m1 hot1 ox oy l1 ⟨nD, vs, rfl, e1, e2⟩
    have sh : (L + 3, oy) :: (L + 2, ox) :: (D, listO vs nD) :: (L + 1, op) :: hot = [(L + 3, oy), (L + 2, ox)] ++ (D, listO vs nD) :: (L + 1, op) :: hot := rfl
    rw [sh]
    refine eFreeze fun g2 l2 e => ?_
    rw [hi.1] at e2
    exact eRet (fun o ho => nV (.head _) ho e1) fun g3 v l3 r => ⟨[(L + 3, oy), (L + 2, ox), (L + 1, op)], rfl, D, vs, nD, r, l3 _ _ e, e2.mono (l2.tr l3)⟩
end Mine

/-! C7 -/
open PySem PySem.W PyProof.Rows PySem.Spec PySem.Calls
set_option maxRecDepth 100000
set_option linter.unusedVariables false
namespace Mine

theorem PlaceAt.uniq {ns : List Int} {n : Int} {k k' : Nat} (h : PlaceAt ns n k) (h' : PlaceAt ns n k') : k = k' := by
  rcases Nat.lt_trichotomy k k' with q | q | q
  · have hl : k < ns.length := Nat.lt_of_lt_of_le q h'.1
    have e := List.getElem?_eq_getElem hl
    have h1 := h.2.2 k _ (Nat.le_refl _) e
    have h2 := h'.2.1 k _ q e
    omega
  · exact q
  · have hl : k' < ns.length := Nat.lt_of_lt_of_le q h.1
    have e := List.getElem?_eq_getElem hl
    have h1 := h'.2.2 k' _ (Nat.le_refl _) e
    have h2 := h.2.1 k' _ q e
    omega
def leastOf (ns : List Int) (k : Nat) : Int := if k = 0 then 0 else (ns[k - 1]?.getD 0) + 1
def newNs (ns : List Int) (k : Nat) (new step : Int) : List Int := ns.take k ++ (List.range (ns.length - k)).map fun i : Nat => new + step * (i : Int)
def badNs (ns : List Int) (k : Nat) (new step : Int) : Bool := decide (step < 1) || (decide (new < leastOf ns k) || (decide ((ns.length - k : Nat) > (0 : Int)) && decide (new + step * (((ns.length - k : Nat) : Int) - 1) > 65529)))
theorem newNs_len {ns : List Int} {k : Nat} {new step : Int} (hk : k ≤ ns.length) : (newNs ns k new step).length = ns.length := by
  unfold newNs
  rw [List.length_append, List.length_take, List.length_map, List.length_range, Nat.min_eq_left hk, Nat.add_sub_cancel' hk]
theorem IntsV.take {vs : List Value} {ns : List Int} (h : IntsV vs ns) (k : Nat) : IntsV (vs.take k) (ns.take k) := ⟨by simp [h.1], fun i v n h1 h2 => by
  rw [List.getElem?_take] at h1 h2
  by_cases q : i < k
  · rw [if_pos q] at h1 h2; exact h.2 i v n h1 h2
  · rw [if_neg q] at h1; cases h1⟩
theorem IntsV.app {vs us : List Value} {ns ms : List Int} (h : IntsV vs ns) (q : IntsV us ms) : IntsV (vs ++ us) (ns ++ ms) :=
  RdAll.ints (g := default) (by rw [List.map_append]; exact (h.rdAll default).app (q.rdAll default))

/-- the three rows ahead of the test, and the test -/
theorem nn_test {w : World} {A : Around} {env : Env} {m : Loc} {g : Heap} {hot : Hot} {o : Obj} {ns : List Int} {k : Nat} {new step : Int} {t1 t2 t3 t4 t5 : Pos} {L1 L2 : Addr} : True := trivial

set_option maxHeartbeats 4000000 in
theorem c_new {w : World} {A : Around} {g : Heap} {hot : Hot} (p : Pg) {ns : List Int} {k : Nat} {new old step : Int} {vn vo vs : Value} (hh : A.handled = none) (hd : A.depth < 850) (P : PgIn p w g hot) (W : Wd w g) (hi : IntsV p.nv ns) (hs : ns.Pairwise (· < ·)) (hz : ns.length < 100)
    (h1 : IsI new vn) (h2 : IsI old vo) (h3 : IsI step vs) (hk : PlaceAt ns old k) (hb : badNs ns k new step = false) (hmul : ∀ i : Nat, i ≤ 100 → IntMulOk step i) (hm1 : IntMulOk step (((ns.length - k : Nat) : Int) - 1)) :
    Cn w A g hot (call (.ref 99) [.ref p.pa, vn, vo, vs]) fun g1 v => ∃ a vs n, v = .ref a ∧ g1.get? a = some (listO vs n) ∧ IntsV vs (newNs ns k new step) := by
  refine enterC W rfl rfl rfl rfl rfl (rlt hd) (fun L cells hc => ?_) rfl (by decide +kernel) rfl
  obtain ⟨os, on, rfl, hos, hon⟩ := hc.two
  have mem : ∀ (o : Obj), ∀ q ∈ hot, q ∈ ((L, o) :: (L + 2, os) :: (L + 1, on) :: hot) := fun o q hq => .tail _ (.tail _ (.tail _ hq))
  refine eAsg (R1 := fun _ v => IsI k v) (fun o ho => ?_) fun gA vk lA hvk => ?_
  · refine calldef (f := 63) W rfl rfl rfl (arg2 (nV (.head _) ho rfl) fun _ _ => nV (.head _) ho rfl) fun g1 us l1 r => ?_
    obtain ⟨a, b, rfl, rfl, rfl⟩ := r
    exact Cn.imp (c_place p hh (show A.depth + 1 < 900 from dlt hd (by decide)) (P.to l1 (mem _)) (W.up l1) hi hs hz h2) fun g2 v l2 ⟨k', e1, e2⟩ => hk.uniq e2 ▸ e1
  have hkl := hk.1
  refine eAsg (R1 := fun _ v => IsI ((ns.length - k : Nat) : Int) v) (fun o ho => ?_) fun gB vm lB hvm => ?_
  · have e : ((ns.length - k : Nat) : Int) = (ns.length : Int) - k := Int.ofNat_sub hkl
    rw [e]
    refine bin (R1 := fun _ v => IsI ns.length v) (callbi (id := "len") (W.up lA) rfl rfl (arg1 (attrNm (nV (.head _) ho rfl) fun g2 v l2 r2 => by subst r2; exact getNumbers (W.up (lA.tr l2)) (mem _ _ P.i) (mem _ _ P.d))) fun g2 us l2 r2 => ?_) (fun _ _ _ _ => nV (.head _) ho rfl) fun g2 g3 u v l2 l3 ru rv => by subst rv; exact oSub ru hvk
    obtain ⟨a, rfl, rfl⟩ := r2
    exact hi.1 ▸ bLen (P.to (lA.tr l2) (mem _)).n.l (by rw [hi.1]; exact Nat.lt_trans hz (by decide))
  have lAB := lA.tr lB
  refine eAsg (R1 := fun _ v => IsI (leastOf ns k) v) (fun o ho => ?_) fun gC vl lC hvl => ?_
  · refine ifexp (b := decide ((k : Int) > 0)) (tCmp (nV (.head _) ho rfl) (fun _ _ _ _ => cI) fun g2 g3 u v l2 l3 ru rv => by subst ru; exact (cGt hvk rv).imp fun _ _ _ r => ⟨_, r, rfl⟩) (fun hb g2 l2 => ?_) fun hb g2 l2 => ?_
    · have hk0 : 0 < k := Int.natCast_pos.mp (of_decide_eq_true hb)
      have hk1 : k - 1 < ns.length := Nat.lt_of_lt_of_le (Nat.sub_lt hk0 Nat.one_pos) hkl
      obtain ⟨x, hx⟩ : ∃ x, ns[k - 1]? = some x := ⟨_, List.getElem?_eq_getElem hk1⟩
      obtain ⟨xv, hxv, hxi⟩ := hi.get hx
      have e : leastOf ns k = x + 1 := by unfold leastOf; rw [if_neg (Nat.ne_of_gt hk0), hx]; rfl
      rw [e]
      refine bin (R1 := fun _ v => IsI x v) (subs (R2 := fun _ v => IsI ((k - 1 : Nat) : Int) v) (attrNm (nV (.head _) ho rfl) fun g3 v l3 r2 => by subst r2; exact getNumbers (W.up ((lAB.tr l2).tr l3)) (mem _ _ P.i) (mem _ _ P.d)) (fun g3 _ l3 _ => ?_) fun g3 g4 u v l3 l4 ru rv => ?_) (fun _ _ _ _ => cI) fun g3 g4 u v l3 l4 ru rv => oAdd ru rv
      · have e : ((k - 1 : Nat) : Int) = (k : Int) - 1 := Int.ofNat_sub hk0
        rw [e]
        exact bin (nV (.head _) ho rfl) (fun _ _ _ _ => cI) fun g4 g5 u v l4 l5 ru rv => by subst ru; exact oSub hvk rv
      · subst ru
        exact (iList (P.to (((lAB.tr l2).tr l3).tr l4) (mem _)).n.l rv (Int.natCast_nonneg _) (ix62 hk1 (Nat.le_of_lt hz)) hxv).imp fun _ _ _ r => r ▸ hxi
    · have hk0 : k = 0 := Nat.eq_zero_of_not_pos fun z => of_decide_eq_false hb (Int.natCast_pos.mpr z)
      have e : leastOf ns k = 0 := by unfold leastOf; rw [if_pos hk0]
      rw [e]
      exact cI
  have lABC := lAB.tr lC
  refine eIf (b := decide (step < 1) || (decide (new < leastOf ns k) || ((decide (((ns.length - k : Nat) : Int) > 0) && (decide (new + step * (((ns.length - k : Nat) : Int) - 1) > 65529) && true)) || false))) (fun o ho => tBool (tOr (tCmp (R1 := fun _ v => IsI step v) (nmc (c := L + 2) rfl (by first | exact mem1 | exact mem2 | exact mem3 | exact mem4 | exact memB mem0 | exact memB mem1 | exact memB mem2 | exact memB mem3 | exact memB mem4 | simp) hos fun _ _ => h3) (fun _ _ _ _ => cI) fun g2 g3 u v l2 l3 ru rv => (cLt ru rv).imp fun _ _ _ r => ⟨_, r, rfl⟩)
      fun hb g2 l2 => tOr (tCmp (R1 := fun _ v => IsI new v) (nmc (c := L + 1) rfl (by first | exact mem1 | exact mem2 | exact mem3 | exact mem4 | exact memB mem0 | exact memB mem1 | exact memB mem2 | exact memB mem3 | exact memB mem4 | simp) hon fun _ _ => h1) (fun _ _ _ _ => nV (.head _) ho rfl) fun g2 g3 u v l2 l3 ru rv => by subst rv; exact (cLt ru hvl).imp fun _ _ _ r => ⟨_, r, rfl⟩)
      fun hb g3 l3 => tOr (tBool (tAnd (tCmp (nV (.head _) ho rfl) (fun _ _ _ _ => cI) fun g2 g3 u v l2 l3 ru rv => by subst ru; exact (cGt hvm rv).imp fun _ _ _ r => ⟨_, r, rfl⟩)
        fun hb g4 l4 => tAnd (tCmp (R1 := fun _ v => IsI (new + step * (((ns.length - k : Nat) : Int) - 1)) v) (R2 := fun _ v => IsI 65529 v) (bin (R1 := fun _ v => IsI new v) (nmc (c := L + 1) rfl (by first | exact mem1 | exact mem2 | exact mem3 | exact mem4 | exact memB mem0 | exact memB mem1 | exact memB mem2 | exact memB mem3 | exact memB mem4 | simp) hon fun _ _ => h1) (fun g5 _ l5 _ => bin (R1 := fun _ v => IsI step v) (R2 := fun _ v => IsI (((ns.length - k : Nat) : Int) - 1) v) (nmc (c := L + 2) rfl (by first | exact mem1 | exact mem2 | exact mem3 | exact mem4 | exact memB mem0 | exact memB mem1 | exact memB mem2 | exact memB mem3 | exact memB mem4 | simp) hos fun _ _ => h3) (fun _ _ _ _ => bin (nV (.head _) ho rfl) (fun _ _ _ _ => cI) fun g2 g3 u v l2 l3 ru rv => by subst ru; exact oSub hvm rv) fun g2 g3 u v l2 l3 ru rv => oMul ru rv hm1) fun g2 g3 u v l2 l3 ru rv => oAdd ru rv)
          (fun g5 _ l5 _ => nmg (W.up ((((lABC.tr l2).tr l3).tr l4).tr l5)) rfl fun _ _ => ⟨_, rfl⟩) fun g2 g3 u v l2 l3 ru rv => (cGt ru rv).imp fun _ _ _ r => ⟨_, r, rfl⟩) fun _ _ _ => tAnd0)) fun _ _ _ => tOr0)) (fun hb2 => ?_) fun hb2 gD lD => ?_
  · unfold badNs at hb
    rw [Bool.and_true, Bool.or_false, hb] at hb2
    cases hb2
  · have lD' := lABC.tr lD
    have hvl2 : (p.nv.take k).length = k := by rw [List.length_take, hi.1]; exact Nat.min_eq_left hkl
    refine eRet (R1 := fun g1 v => ∃ a vs n, v = .ref a ∧ g1.get? a = some (listO vs n) ∧ IntsV vs (newNs ns k new step)) (fun o ho => bin (R1 := fun g v => ∃ D, v = .ref D ∧ g.get? D = some (listO (p.nv.take k) 0)) (R2 := fun g v => ∃ a ys n, v = .ref a ∧ g.get? a = some (listO ys n) ∧ IntsV ys ((List.range (ns.length - k)).map fun i : Nat => new + step * (i : Int))) ?_ (fun g2 _ l2 _ => ?_) fun g2 g3 u v l2 l3 ru rv => ?_) fun g1 v l1 r => ⟨[(L + 2, os), (L + 1, on)], rfl, r⟩
    · refine Cn.imp (slcA (lo := none) (hi := some (k : Int)) (vs := p.nv) (attrNm (nV (.head _) ho rfl) fun g2 v l2 r2 => by subst r2; exact getNumbers (W.up (lD'.tr l2)) (mem _ _ P.i) (mem _ _ P.d)) (P.to lD' (mem _)).n.l (by rw [hi.1]; exact Nat.le_trans (Nat.le_of_lt hz) (by decide)) (fun _ _ => partNone) (fun _ _ => partSome ((nV (.head _) ho rfl).imp fun _ _ _ r => r ▸ hvk))) fun g2 v l2 ⟨D, e1, e2⟩ => ⟨D, e1, ?_⟩
      rw [pick_take _ _ (by rw [hi.1]; exact hkl)] at e2
      exact e2
    · refine compG (n := ns.length - k) (B := fun i m => ∃ v, IsI i v ∧ m "at" = some v) (cl := [("step", L + 2), ("new", L + 1)]) (Src.name (itRange hh (W.up (lD'.tr l2)) (Nat.lt_of_le_of_lt (Nat.sub_le _ _) (Nat.lt_trans hz (by decide))) rfl rfl ((nV (.head _) ho rfl).imp fun _ _ _ r => r ▸ hvm))) (fun _ hq => nomatch hq) (fun C => ⟨rfl, rfl⟩)
        (fun i g ys => IntsV ys ((List.range i).map fun i : Nat => new + step * (i : Int))) (fun _ => true) (Nat.le_trans (Nat.sub_le _ _) (Nat.le_trans (Nat.le_of_lt hz) (by decide))) (fun _ _ => IntsV.nil) (fun _ _ _ _ l h => h) (fun _ _ _ _ _ _ _ _ _ _ => tests0) ?_ (fun _ _ _ h => nomatch h) (fun g3 a ys n' l3 e h => ⟨a, ys, n', rfl, e, h⟩) rfl (by decide) rfl (by decide)
      rintro i C oC m ext g3 ys l3 hj ⟨v, hv, hm⟩ _ hoC hA
      refine Cn.imp (R := fun _ v => IsI (new + step * (i : Int)) v) (bin (R1 := fun _ v => IsI new v) (nmc (c := L + 1) rfl (by first | exact mem1 | exact mem2 | exact mem3 | exact mem4 | exact memB mem0 | exact memB mem1 | exact memB mem2 | exact memB mem3 | exact memB mem4 | simp) hon fun _ _ => h1) (fun g5 _ l5 _ => bin (R1 := fun _ v => IsI step v) (nmc (c := L + 2) rfl (by first | exact mem1 | exact mem2 | exact mem3 | exact mem4 | exact memB mem0 | exact memB mem1 | exact memB mem2 | exact memB mem3 | exact memB mem4 | simp) hos fun _ _ => h3) (fun _ _ _ _ => nV (.head _) hoC hm) fun g2 g3 u v' l2 l3 ru rv => by subst rv; exact oMul ru hv (hmul i (Nat.le_trans (Nat.le_of_lt hj) (Nat.le_trans (Nat.sub_le _ _) (Nat.le_of_lt hz))))) fun g2 g3 u v l2 l3 ru rv => oAdd ru rv) fun g4 u l4 r => ?_
      rw [List.range_succ, List.map_append]
      exact hA.snoc r
    · obtain ⟨D, rfl, e1⟩ := ru
      obtain ⟨a, ys, n, rfl, e2, e3⟩ := rv
      have hyl : ys.length = ns.length - k := by simpa using e3.1
      exact Cn.imp (oAddL (Or.inr (l3 _ _ e1)) (Or.inr e2) (by rw [hvl2, hyl, Nat.add_sub_cancel' hkl]; exact Nat.le_trans (Nat.le_of_lt hz) (by decide))) fun g4 v l4 ⟨D', e4, e5⟩ => ⟨D', _, 0, e4, e5, (hi.take k).app e3⟩
end Mine

/-! Lg13 -/
open PySem PySem.W PyProof.Rows PySem.Spec PySem.Calls
set_option maxRecDepth 100000
set_option linter.unusedVariables false
namespace Mine

section
variable {w : World} {A : Around} {g : Heap} {m : Loc} {hot : Hot} {env : Env} {pos : Pos} {R : Flow → Heap → Loc → Hot → Prop} {rest : List Stmt}
/-- (a, b) where the second may make hot objects -/
theorem tup2L {e e2 : Expr} {k : Nat} {R1 : Heap → Value → Prop} {R2 : Heap → Hot → Value → Prop} (c : Cn w A g hot (eval e env) R1) (c2 : ∀ g1, Le g g1 → Ch w A g1 hot (eval e2 env) R2)
    (mono : Mono R1) (mono2 : ∀ g1 g2 new v, Le g1 g2 → R2 g1 new v → R2 g2 new v)
    (he : starEach [e, e2] env = [(false, eval e env), (false, eval e2 env)] := by rfl) :
    Ch w A g hot (eval (.Tuple [e, e2] k pos) env) fun g1 new v => ∃ t a b n, v = .ref t ∧ g1.get? t = some (tupO [a, b] n) ∧ R1 g1 a ∧ R2 g1 new b := fun s Q E g0 l H hQ => by
  refine Tuple_ ?_
  rw [he]
  refine spliced_cons (c s _ E g0 l H fun a g1 h1 tk l1 H1 r1 => ?_)
  refine spliced_cons (c2 g1 (l.tr l1) _ _ E g1 (Le.rf _) H1 fun b new g2 h2 tk2 l2 H2 r2 => spliced_nil ?_)
  obtain ⟨g3, l3, e3, H3⟩ := H2.fresh (tupO [a, b] 0)
  exact wpAny_newObj_type (hQ _ new g3 _ _ ((l1.tr l2).tr l3) H3 ⟨_, a, b, 0, rfl, e3, mono _ _ _ (l2.tr l3) r1, mono2 _ _ _ _ l3 r2⟩) (by show (2 : Nat) ≤ sizeLine; decide)
/-- x, y = (a, b), y a cell -/
theorem eAsg2C {x y : Str} {px py : Pos} {kk : Nat} {tp : Pos} {e : Expr} {cy : Addr} {oy : Obj} {vy : Option Value} {l1 l2 : Hot} (S : Heap → Hot → Value → Value → Prop) (hh : A.handled = none) (hcy : env.cells.lookup y = some cy) (hoy : oy.data = .cell vy)
    (c : ∀ o, ObjNs o m → Ch w A g ((env.locals, o) :: (l1 ++ (cy, oy) :: l2)) (eval e env) fun g1 new v => ∃ t a b n, v = .ref t ∧ g1.get? t = some (tupO [a, b] n) ∧ S g1 new a b)
    (k : ∀ g1 new a b oy', Le g g1 → S g1 new a b → oy'.data = .cell (some b) → Em w A env.locals g1 (up m x a) (new ++ (l1 ++ (cy, oy') :: l2)) (execs rest env) R)
    (hs : swapsWithSole [.Tuple [.Name x px, .Name y py] kk tp] e pos.line env = pure false := by rfl) (hw : swappedStores [.Tuple [.Name x px, .Name y py] kk tp] e env = pure none := by rfl)
    (hx : env.kindOf x = some .local := by rfl) (hy : env.kindOf y = some .cell := by rfl) (hkk : env.scope.kind = .function := by rfl) (hp : plainB env := by rfl) :
    Em w A env.locals g m (l1 ++ (cy, oy) :: l2) (execs (.Assign [.Tuple [.Name x px, .Name y py] kk tp] e pos :: rest) env) R := fun o hn s Q E g0 l H hQ =>
  wpAny_execs_cons (Assign_Tuple (c o hn s _ E g0 l H fun v new g1 h1 tk l1' H1 r1 => by
    obtain ⟨t, a, b, n, rfl, e1, r1⟩ := r1
    refine wpAny_assign_Tuple (items := #[a, b]) hh ⟨_, H1.keep _ _ e1, rfl, n, rfl⟩ rfl rfl fun h' he => ?_
    have H2 := (H1.extBut he).front
    show wpAny _ _ (assignInOrder [assign (.Name x px) env, assign (.Name y py) env] [a, b]) _ _ _
    refine wpAny_assignInOrder_more (PySem.wpAny_assign_Name (store hn H2 (fun o3 h3 tk3 hn3 H3 => ?_) hx hp))
    have H3' : At g1 (((env.locals, o3) :: (new ++ l1)) ++ (cy, oy) :: l2) h3 := by simpa using H3
    refine wpAny_assignInOrder_more (PySem.wpAny_assign_Name (storeC hcy H3' hoy (fun oy' h2 hoy' H4 => ?_) hkk hy))
    have H4' : At g1 ((env.locals, o3) :: (new ++ (l1 ++ (cy, oy') :: l2))) h2 := by simpa using H4
    refine wpAny_pure ?_
    exact k g1 new a b oy' (l.tr l1') r1 hoy' o3 hn3 _ Q E g1 (Le.rf _) H4' fun f g4 m4 hot4 o4 h4 tk4 l4 hn4 H4 r4 => hQ f g4 m4 hot4 o4 h4 tk4 (l1'.tr l4) hn4 H4 r4) hs hw)
theorem arg4 {e e2 e3 e4 : Expr} {R1 R2 R3 R4 : Heap → Value → Prop} (c : Cn w A g hot (eval e env) R1) (c2 : ∀ g1, Le g g1 → Cn w A g1 hot (eval e2 env) R2) (c3 : ∀ g1, Le g g1 → Cn w A g1 hot (eval e3 env) R3) (c4 : ∀ g1, Le g g1 → Cn w A g1 hot (eval e4 env) R4) (mono : Mono R1 := by first | exact fun _ _ _ _ h => h | exact fun _ _ _ l h => Rd.mono h l) (mono2 : Mono R2 := by first | exact fun _ _ _ _ h => h | exact fun _ _ _ l h => Rd.mono h l) (mono3 : Mono R3 := by first | exact fun _ _ _ _ h => h | exact fun _ _ _ l h => Rd.mono h l) (mono4 : Mono R4 := by first | exact fun _ _ _ _ h => h | exact fun _ _ _ l h => Rd.mono h l)
    (he : starEach [e, e2, e3, e4] env = [(false, eval e env), (false, eval e2 env), (false, eval e3 env), (false, eval e4 env)] := by rfl) (he1 : starEach [e2, e3, e4] env = [(false, eval e2 env), (false, eval e3 env), (false, eval e4 env)] := by rfl) (he2 : starEach [e3, e4] env = [(false, eval e3 env), (false, eval e4 env)] := by rfl) (he3 : starEach [e4] env = [(false, eval e4 env)] := by rfl) :
    Cn w A g hot (spliced (backTo pos (starEach [e, e2, e3, e4] env))) fun g' vs => ∃ a b c d, vs = [a, b, c, d] ∧ R1 g' a ∧ R2 g' b ∧ R3 g' c ∧ R4 g' d :=
  args1 c (fun g1 v l r => fun s Q E g0 l0 H hQ => arg3 (c2 g1 l) (fun g2 l2 => c3 g2 (l.tr l2)) (fun g2 l2 => c4 g2 (l.tr l2)) mono2 mono3 mono4 he1 he2 he3 s Q E g0 l0 H fun vs g2 h2 tk l2 H2 r2 => hQ vs g2 h2 tk l2 H2 (by
    obtain ⟨b, c, d, rfl, r2, r3, r4⟩ := r2
    exact ⟨v, b, c, d, rfl, mono _ _ _ (l0.tr l2) r, r2, r3, r4⟩)) (he.trans (by rw [he1]))
/-- a call of a def that may turn hot objects -/
theorem mCall {x : Str} {np cpos : Pos} {e : Expr} {rest : List Expr} {f : Addr} {fo : Obj} {fd : FuncData} {S : Heap → List Value → Prop} {R : Value → Heap → Loc → Hot → Prop} (W : Wd w g) (en : nsIn (KK w.params) mainGlobals x = some (some (.ref f))) (ho : (KK w.params).lookup f = some fo) (hd : fo.data = .func fd)
    (c : ∀ o, ObjNs o m → Cn w A g ((env.locals, o) :: hot) (spliced (backTo cpos (starEach (e :: rest) env))) S)
    (k : ∀ o, ObjNs o m → ∀ g1 vs, Le g g1 → S g1 vs → Cc w A g1 ((env.locals, o) :: hot) (call (.ref f) vs) fun g2 hot2 v => ∃ hot3, hot2 = (env.locals, o) :: hot3 ∧ R v g2 m hot3)
    (he : starEach (e :: rest) env = (false, eval e env) :: starEach rest env := by rfl) (hgl : env.globals = mainGlobals := by rfl)
    (hk : env.scope.kind = .function := by rfl) (hl : env.kindOf x = some .globalImplicit := by rfl) (hdb : (x == ("__debug__" : Str)) = false := by decide) :
    Em w A env.locals g m hot (eval (.Call (.Name x np) (e :: rest) [] cpos) env) R := fun o hn s Q E g0 l H hQ => by
  refine wpAny_Call_NameR (nmg (R := fun _ v => v = .ref f) W en (fun _ _ => rfl) hgl hk hl hdb s _ E g0 l H fun v g1 h1 tk l1 H1 r1 => ?_)
  subst r1
  refine callWith_def hd (c o hn _ _ E g1 (l.tr l1) H1 fun vs g2 h2 tk2 l2 H2 r2 => ⟨(((l.tr l1).tr l2).tr H2.keep) _ _ (W.X _ _ ho), ?_⟩) he
  refine k o hn g2 vs ((l.tr l1).tr l2) r2 _ _ E g2 (Le.rf _) H2 fun u g3 hot3 h3 tk3 l3 H3 r3 => ?_
  obtain ⟨hot4, rfl, r3⟩ := r3
  exact hQ u g3 m hot4 o h3 tk3 ((l1.tr l2).tr l3) hn H3 r3
/-- x = e, e's value by a call that may turn hot objects -/
theorem eAsgE {x : Str} {np : Pos} {e : Expr} (c : Em w A env.locals g m hot (eval e env) fun v g1 m1 hot1 => Em w A env.locals g1 (up m1 x v) hot1 (execs rest env) R)
    (hs : swapsWith e (some (.Name x np)) pos.line env = pure false := by rfl) (hl : env.kindOf x = some .local := by rfl) (hp : plainB env := by rfl) :
    Em w A env.locals g m hot (execs (.Assign [.Name x np] e pos :: rest) env) R := fun o hn s Q E g0 l H hQ =>
  wpAny_execs_cons (wpAny_Assign_Name (c o hn s _ E g0 l H fun v g1 m1 hot1 o1 h1 tk l1 hn1 H1 r1 => store hn1 H1 (fun o' h' tk' hn' H' =>
    r1 o' hn' _ Q E g1 (Le.rf _) H' fun f g2 m2 hot2 o2 h2 tk2 l2 hn2 H2 r2 => hQ f g2 m2 hot2 o2 h2 tk2 (l1.tr l2) hn2 H2 r2) hl hp) hs)
theorem eRetE {e : Expr} (c : Em w A env.locals g m hot (eval e env) fun v g1 m1 hot1 => R (.ret v) g1 m1 hot1) : Em w A env.locals g m hot (execs (.Return (some e) pos :: rest) env) R := fun o hn s Q E g0 l H hQ =>
  wpAny_execs_cons (wpAny_Return_some (c o hn s _ E g0 l H fun v g1 m1 hot1 o1 h1 tk l1 hn1 H1 r1 => hQ (.ret v) g1 m1 hot1 o1 h1 tk l1 hn1 H1 r1))
end
end Mine

/-! C8 -/
open PySem PySem.W PyProof.Rows PySem.Spec PySem.Calls
set_option maxRecDepth 100000
set_option linter.unusedVariables false
namespace Mine

def mapTo (ns ms : List Int) (i : Int) : Int := match (ns.zip ms).find? (fun q => decide (q.1 = i)) with | some q => q.2 | none => i
theorem valueAt_none {l : List (Int × Value)} {n : Int} (h : ∀ q ∈ l, q.1 ≠ n) : valueAt l n = none := by
  unfold valueAt
  rw [Option.map_eq_none_iff, List.find?_eq_none]
  intro q hq
  simpa using h q hq
theorem valueAt_zip : ∀ {ns ms : List Int} {us : List Value}, IntsV us ms → us.length = ns.length → ∀ i, (∀ v, valueAt (ns.zip us) i = some v → IsI (mapTo ns ms i) v) ∧ (valueAt (ns.zip us) i = none → mapTo ns ms i = i ∧ i ∉ ns)
  | [], ms, us, h, hl, i => by
    simp [valueAt, mapTo]
  | n :: ns, [], us, h, hl, i => by
    have := h.1
    simp at this
    subst this
    simp at hl
  | n :: ns, x :: ms, [], h, hl, i => by simp at hl
  | n :: ns, x :: ms, u :: us, h, hl, i => by
    have h' : IntsV us ms := ⟨by simpa using h.1, fun j v y h1 h2 => h.2 (j + 1) v y (by simpa using h1) (by simpa using h2)⟩
    have ih := valueAt_zip (ns := ns) h' (by simpa using hl) i
    have h0 : IsI x u := h.2 0 u x rfl rfl
    by_cases q : n = i
    · subst q
      simp [valueAt, mapTo, h0]
    · have e1 : valueAt ((n :: ns).zip (u :: us)) i = valueAt (ns.zip us) i := by simp [valueAt, q]
      have e2 : mapTo (n :: ns) (x :: ms) i = mapTo ns ms i := by simp [mapTo, q]
      rw [e1, e2]
      refine ⟨ih.1, fun hv => ⟨(ih.2 hv).1, fun hm => ?_⟩⟩
      rcases List.mem_cons.mp hm with e | hm
      · exact q e.symm
      · exact (ih.2 hv).2 hm
theorem RowsV.snoc {g : Heap} {vs : List Value} {rows : List (List Tk)} {a : Addr} {us : List Value} {n : Nat} {ts : List Tk} (h : RowsV g vs rows) (e : g.get? a = some (listO us n)) (r : RdAll g us (ts.map Tk.d)) : RowsV g (vs ++ [.ref a]) (rows ++ [ts]) := by
  refine ⟨by simp [h.len], fun i v ts' h1 h2 => ?_⟩
  by_cases q : i < vs.length
  · rw [List.getElem?_append_left q] at h1
    rw [List.getElem?_append_left (by rw [← h.len]; exact q)] at h2
    exact h.at' i v ts' h1 h2
  · have hl := (List.getElem?_eq_some_iff.mp h1).1
    simp at hl
    have hi : i = vs.length := by omega
    subst hi
    rw [List.getElem?_append_right (Nat.le_refl _)] at h1
    rw [List.getElem?_append_right (by rw [h.len]; exact Nat.le_refl _), h.len] at h2
    simp at h1 h2
    subst h1 h2
    exact ⟨a, us, n, rfl, e, r⟩
theorem RowsV.nil {g : Heap} : RowsV g [] [] := ⟨rfl, fun i v ts h => by simp at h⟩
def movedD (ns ms : List Int) (q : Int × Int) : PyData := prD (mapTo ns ms q.1, q.2)
theorem lostTo_mem (ns : List Int) (rows : List (List Tk)) : ∀ i, ∀ q ∈ lostTo ns rows i, q.1 ∈ ns
  | 0 => fun q hq => nomatch hq
  | i + 1 => fun q hq => by
    unfold lostTo at hq
    rcases List.mem_append.mp hq with hq | hq
    · exact lostTo_mem ns rows i q hq
    · split at hq
      · rename_i n ts h1 h2
        unfold lostRow at hq
        obtain ⟨k, _, rfl⟩ := List.mem_map.mp hq
        exact List.mem_of_getElem? h1
      · exact nomatch hq

/-- what renumber leaves -/
inductive Renumd (w : World) (p : Pg) (l1 l2 : Hot) (ms : List Int) (rows : List (List Tk)) (ds : List PyData) (g1 : Heap) : Hot → Value → Prop where
  | mk (p' : Pg) (e1 : p'.pa = p.pa) (e2 : p'.da = p.da) (e3 : p'.ke = p.ke) (h1 : g1.get? p'.na = some (listO p'.nv p'.ne)) (h2 : g1.get? p'.ra = some (listO p'.rv p'.re)) (h3 : IntsV p'.nv ms) (h4 : RowsV g1 p'.rv rows) (a : Addr) (us : List Value) (n : Nat) (h5 : g1.get? a = some (listO us n)) (h6 : RdAll g1 us ds) :
      Renumd w p l1 l2 ms rows ds g1 (l1 ++ (p.da, dictOf (p'.es w) p.ke) :: l2) (.ref a)

set_option maxHeartbeats 4000000 in
theorem c_renum {w : World} {A : Around} {g : Heap} {l1 l2 : Hot} (p : Pg) {ns : List Int} {rows : List (List Tk)} {k : Nat} {new old step : Int} {vn vo vs : Value} (hh : A.handled = none) (hd : A.depth < 800) (hu : A.units + 400 < cLine) (P : PgIn p w g (l1 ++ (p.da, dictOf (p.es w) p.ke) :: l2)) (hpa : (p.pa, instObj 52 p.da) ∈ l1 ++ l2)
    (W : Wd w g) (hi : IntsV p.nv ns) (hs : ns.Pairwise (· < ·)) (hr : RowsV g p.rv rows) (hg : goodRows rows) (hnr : ns.length = rows.length)
    (h1 : IsI new vn) (h2 : IsI old vo) (h3 : IsI step vs) (hk : PlaceAt ns old k) (hb : badNs ns k new step = false) (hmul : ∀ i : Nat, i ≤ 100 → IntMulOk step i) (hm1 : IntMulOk step (((ns.length - k : Nat) : Int) - 1)) :
    Cc w A g (l1 ++ (p.da, dictOf (p.es w) p.ke) :: l2) (call (.ref 111) [.ref p.pa, vn, vo, vs]) (Renumd w p l1 l2 (newNs ns k new step) (rows.map (led (mapTo ns (newNs ns k new step)))) ((lostTo ns rows ns.length).map (movedD ns (newNs ns k new step)))) := by
  have hn8 : ns.length ≤ 8 := hnr ▸ hg.1
  have hml : (newNs ns k new step).length = ns.length := by
    exact newNs_len hk.1
  generalize hms : newNs ns k new step = ms at *
  refine enterCc W rfl rfl rfl rfl rfl (rlt hd) (fun L cells hc => ?_) rfl (by decide +kernel) rfl
  obtain ⟨oc, rfl, hoc⟩ := hc.one
  refine eAsg2C (x := "numbers") (y := "ways") (l1 := []) (fun g new a b => (∃ na us n, a = .ref na ∧ g.get? na = some (listO us n) ∧ IntsV us ms) ∧ ∃ wa wo, b = .ref wa ∧ new = [(wa, wo)] ∧ wo.IsDictOf (intKind PP w) [] ∧ (wa == sysModules) = false) hh rfl hoc (fun o ho => ?_) fun gA new a b oc' lA r1 hoc' => ?_
  · refine tup2L (R2 := fun _ new b => ∃ wa wo, b = .ref wa ∧ new = [(wa, wo)] ∧ wo.IsDictOf (intKind PP w) [] ∧ (wa == sysModules) = false) (R1 := fun g a => ∃ na us n, a = .ref na ∧ g.get? na = some (listO us n) ∧ IntsV us ms) ?_ (fun g1 l1' => chDict (W.up l1')) (fun g1 g2 v l ⟨a, b, c, e1, e2, e3⟩ => ⟨a, b, c, e1, l _ _ e2, e3⟩) (fun _ _ _ _ _ h => h)
    refine calldef (f := 99) W rfl rfl rfl (arg4 (nV (.head _) ho rfl) (fun _ _ => nV (.head _) ho rfl) (fun _ _ => nV (.head _) ho rfl) fun _ _ => nV (.head _) ho rfl) fun g1 us l1' r => ?_
    obtain ⟨a, b, c, d, rfl, rfl, rfl, rfl, rfl⟩ := r
    rw [← hms]
    exact c_new p hh (show A.depth + 1 < 850 from dlt hd (by decide)) (P.to l1' fun q hq => .tail _ (.tail _ hq)) (W.up l1') hi hs (Nat.lt_of_le_of_lt hn8 (by decide)) h1 h2 h3 hk hb hmul hm1
  obtain ⟨⟨na, us, nn, rfl, ena, hus⟩, wa, wo, rfl, rfl, hwo, hws⟩ := r1
  have husl : us.length = ns.length := by rw [hus.1, hml]
  have lA' := lA
  refine eForT (x := "before") (y := "behind") (n := p.nv.length) (P := fun i x y => p.nv[i]? = some x ∧ us[i]? = some y) hh (l1 ++ (p.da, dictOf (p.es w) p.ke) :: l2) (fun i g1 m1 hot1 => ∃ wo, hot1 = (wa, wo) :: (L + 1, oc') :: (l1 ++ (p.da, dictOf (p.es w) p.ke) :: l2) ∧ wo.IsDictOf (intKind PP w) ((ns.zip us).take i) ∧ m1 "program" = some (.ref p.pa) ∧ m1 "numbers" = some (.ref na))
    (fun o ho => ?_) (fun g1 l1 => ⟨wo, rfl, hwo, rfl, rfl⟩) (fun i g1 m1 hot1 ⟨wo, e, _⟩ q hq => e ▸ .tail _ (.tail _ hq)) ?_ ?_
  · refine itZip (l1 ++ (p.da, dictOf (p.es w) p.ke) :: l2) hh (W.up lA) rfl rfl (attrNm (nV (.head _) ho rfl) fun g2 v l2' r2 => by subst r2; exact getNumbers (W.up (lA.tr l2')) (.tail _ (.tail _ (.tail _ P.i))) (.tail _ (.tail _ (.tail _ P.d)))) (fun g1 l1' => nV (.head _) ho rfl)
      (P.to lA fun q hq => .tail _ (.tail _ (.tail _ hq))).n.l (HasL.of ena) (P.n.imp (fun h => ⟨_, h⟩) fun e => ⟨_, lA _ _ e⟩) (Or.inr ⟨_, ena⟩) (by rw [husl, hi.1])
  · rintro i g1 m1 hot1 x y its l1' hlt ⟨wo, rfl, hwo, e1, e2⟩ ⟨hx, hy⟩
    have hil : i < ns.length := by rw [← hi.1]; exact hlt
    have hn : ns[i]? = some ns[i] := List.getElem?_eq_getElem hil
    refine eSetD (k := ns[i]) (R1 := fun _ v => v = y) hwo (fun ob ho => nV (.head _) ho rfl) (fun ob ho g2 l2' => nmc (c := L + 1) (R := fun _ v => v = .ref wa) rfl (by first | exact mem1 | exact mem2 | exact mem3 | exact mem4 | exact memB mem0 | exact memB mem1 | exact memB mem2 | exact memB mem3 | exact memB mem4 | simp) hoc' fun _ _ => rfl) (fun ob ho g2 l2' => nm (.head _) ho rfl fun _ _ => hi.2 i x _ hx hn) (by simp; omega) fun g2 g3 v od' l2' l3' hv hod => ?_
    subst hv
    refine eNil fun g4 l4 => ⟨.inl rfl, _, rfl, od', rfl, ?_, e1, e2⟩
    have hz : (ns.zip us)[i]? = some (ns[i], v) := by rw [List.getElem?_zip_eq_some]; exact ⟨hn, hy⟩
    rw [stored_absent (valueAt_none fun q hq => ?_)] at hod
    · rw [take_snoc hz]; exact hod
    · obtain ⟨j, hj, rfl⟩ := List.getElem_of_mem hq
      simp only [List.length_take] at hj
      rw [List.getElem_take, List.getElem_zip]
      have := List.pairwise_iff_getElem.mp hs j i (by omega) hil (by omega)
      show ns[j] ≠ ns[i]
      omega
  rintro g1 m1 hot1 lB ⟨wo, rfl, hwo, e1, e2⟩
  have hzl : (ns.zip us).take p.nv.length = ns.zip us := by rw [List.take_of_length_le (by rw [List.length_zip, husl, hi.1]; omega)]
  rw [hzl] at hwo
  have lAB := lA.tr lB
  have vz := valueAt_zip hus husl
  have hlt8 : (lostTo ns rows ns.length).length ≤ 800 := by have := lostTo_len ns rows hg ns.length; omega
  refine eAsgC (x := "lost") (n := (lostTo ns rows ns.length).length) (B := fun i m => ∃ a b, (∃ q, (lostTo ns rows ns.length)[i]? = some q ∧ IsI q.1 a ∧ IsI q.2 b) ∧ m "number" = some a ∧ m "goal" = some b) (cl := [("ways", L + 1)]) (fun o ho => Src.pairL hh (by decide) ?_) (fun _ hq => nomatch hq) (fun C => ⟨rfl, rfl, rfl⟩)
    (fun i g ys => RdAll g ys (((lostTo ns rows ns.length).take i).map (movedD ns ms))) (fun _ => true) (Nat.le_trans hlt8 (by decide)) (fun _ _ => .nil) (fun _ _ _ _ l h => h.mono l) (fun _ _ _ _ _ _ _ _ _ _ => tests0) ?_ (fun _ _ _ h => nomatch h) (fun gC la ys nl lC ela hla => ?_) rfl (by decide) rfl (by decide)
  · refine calldef (f := 94) (W.up lAB) rfl rfl rfl (arg1 (nV (.head _) ho e1)) fun g1 us l1' r => ?_
    obtain ⟨a, rfl, rfl⟩ := r
    refine Cn.imp (c_lost p hh (show A.depth + 1 < 850 from dlt hd (by decide)) (show A.units + 3 + 350 < cLine from ult hu (by decide)) (P.to (lAB.tr l1') fun q hq => .tail _ (.tail _ (.tail _ hq))) (W.up (lAB.tr l1')) hi hs (hr.up (lAB.tr l1')) hg hnr) fun g2 v l2' ⟨a, vs, n, e1, e2, e3⟩ => ⟨a, vs, n, e1, e2, by simpa using e3.length, fun i v hv => ?_⟩
    have hil : i < (lostTo ns rows ns.length).length := by
      have h1 := (List.getElem?_eq_some_iff.mp hv).1
      have h2 := e3.length
      rw [List.length_map] at h2
      omega
    obtain ⟨v', hv', rv⟩ := e3.get (i := i) (d := prD (lostTo ns rows ns.length)[i]) (by simp [hil])
    rw [hv] at hv'
    cases hv'
    obtain ⟨T, xs, rfl, hT, rx⟩ := rv.tupInv
    obtain ⟨x, xs1, rfl, r1, rx⟩ := rx.inv
    obtain ⟨y, xs2, rfl, r2, rx⟩ := rx.inv
    have : xs2 = [] := List.length_eq_zero_iff.mp (by simpa using rx.length)
    subst this
    exact ⟨T, x, y, rfl, hT, _, List.getElem?_eq_getElem hil, r1.int, r2.int⟩
  · rintro i C oC mC ext g3 ys l3 hil ⟨a, b, ⟨q, hq, ha, hb'⟩, hma, hmb⟩ _ hoC hA
    have hqn := lostTo_mem ns rows _ q (List.mem_of_getElem? hq)
    obtain ⟨u, hu⟩ : ∃ u, valueAt (ns.zip us) q.1 = some u := by
      cases h : valueAt (ns.zip us) q.1 with
      | some u => exact ⟨u, rfl⟩
      | none => exact absurd hqn ((vz q.1).2 h).2
    have hui := (vz q.1).1 u hu
    refine Cn.imp (R := fun g v => Rd g v (movedD ns ms q)) (dTup2 (d := .int (mapTo ns ms q.1)) (d2 := .int q.2) (Cn.imp (R := fun _ v => v = u) (subs (nmc (c := L + 1) (R := fun _ v => v = .ref wa) rfl (by first | exact mem1 | exact mem2 | exact mem3 | exact mem4 | exact memB mem0 | exact memB mem1 | exact memB mem2 | exact memB mem3 | exact memB mem4 | simp) hoc' fun _ _ => rfl) (fun _ _ _ _ => nV (.head _) hoC hma) fun g4 g5 x y l4 l5 rx ry => by
        subst rx ry
        exact iDict (k := q.1) (by simp) hwo ha hu) fun g4 v l4 r => r ▸ hui.rd _) fun g4 l4 => nm (.head _) hoC hmb fun _ _ => hb'.rd _) fun g4 v l4 r => ?_
    rw [take_snoc hq, List.map_append]
    exact (hA.mono l4).snoc r
  rw [List.take_length] at hla
  have lABC := lAB.tr lC
  have mem : ∀ (o : Obj), ∀ q ∈ l1 ++ (p.da, dictOf (p.es w) p.ke) :: l2, q ∈ (L, o) :: (wa, wo) :: (L + 1, oc') :: (l1 ++ (p.da, dictOf (p.es w) p.ke) :: l2) := fun o q hq => .tail _ (.tail _ (.tail _ hq))
  have ear : ∀ g, Le gC g → ∀ (o : Obj), HasL g ((L, o) :: (wa, wo) :: (L + 1, oc') :: (l1 ++ (p.da, dictOf (p.es w) p.ke) :: l2)) p.ra p.rv := fun g l o => (P.to (lABC.tr l) (mem o)).r.l
  refine eSetA (l1 := (wa, wo) :: (L + 1, oc') :: l1) (attr := sRows) (pa := p.pa) (da := p.da) (R1 := fun g v => ∃ a us n, v = .ref a ∧ g.get? a = some (listO us n) ∧ RowsV g us (rows.map (led (mapTo ns ms)))) (fun v => [⟨PyData.keyHash w.params sNumbers, .str sNumbers p.k1, .ref p.na⟩, ⟨PyData.keyHash w.params sRows, .str sRows p.k2, v⟩]) (W.up lABC) (fun o ho => ?_) (fun o ho g2 l2' => nV (.head _) ho e1) (.tail _ (.tail _ hpa)) rfl rfl rfl rfl rfl (fun _ _ => rfl) rfl (fun _ => (by decide : 2 ≤ 1000)) (by show 2 ≤ 1000; decide) fun gD v lD hv => ?_
  · refine compG (n := rows.length) (keep := (L, o) :: (wa, wo) :: (L + 1, oc') :: (l1 ++ (p.da, dictOf (p.es w) p.ke) :: l2)) (B := fun i m => ∃ v, p.rv[i]? = some v ∧ m "row" = some v) (cl := [("ways", L + 1)]) (srcList _ hh hr.len (attrNm (nV (.head _) ho e1) fun g2 v l2' r2 => by
        subst r2
        refine Cn.imp (getRows (W.up (lABC.tr l2')) (mem _ _ P.i) (mem _ _ P.d)) fun g3 v l3 r => ⟨r, ear g3 (l2'.tr l3) o, P.r.imp (fun h => ⟨_, mem _ _ h⟩) fun e => ⟨_, (lABC.tr (l2'.tr l3)) _ _ e⟩⟩)) (fun _ hq => hq) (fun C => ⟨rfl, rfl⟩)
      (fun i g ys => RowsV g ys ((rows.take i).map (led (mapTo ns ms)))) (fun _ => true) (Nat.le_trans hg.1 (by decide)) (fun _ _ => RowsV.nil) (fun _ _ _ _ l h => h.up l) (fun _ _ _ _ _ _ _ _ _ _ => tests0) ?_ (fun _ _ _ h => nomatch h) (fun g3 a ys n' l3 e h => ⟨a, ys, n', rfl, e, by rw [List.take_length] at h; exact h⟩) rfl (by decide) rfl (by decide)
    rintro i C oC mC ext g3 ys l3 hil ⟨v, hv, hma⟩ _ hoC hA
    obtain ⟨ts, ht⟩ : ∃ ts, rows[i]? = some ts := ⟨rows[i], List.getElem?_eq_getElem hil⟩
    obtain ⟨ra, rv, nr, rfl, hra, hrr⟩ := hr.at' i v ts hv ht
    obtain ⟨hz, hok⟩ := hg.2 ts (List.mem_of_getElem? ht)
    have l03 := lABC.tr l3
    refine Cn.imp (R := fun g v => ∃ a us n, v = .ref a ∧ g.get? a = some (listO us n) ∧ RdAll g us ((led (mapTo ns ms) ts).map Tk.d)) ?_ fun g4 v l4 ⟨a, us, n, e, e2, e3⟩ => ?_
    · refine calldef (f := 106) (W.up l03) rfl rfl rfl (arg2 (nV (.head _) hoC hma) fun g4 l4 => nmc (c := L + 1) (R := fun _ v => v = .ref wa) rfl (by first | exact mem1 | exact mem2 | exact mem3 | exact mem4 | exact memB mem0 | exact memB mem1 | exact memB mem2 | exact memB mem3 | exact memB mem4 | simp) hoc' fun _ _ => rfl) fun g4 us l4 r => ?_
      obtain ⟨a, b, rfl, rfl, rfl⟩ := r
      exact c_led hh (show A.depth + 1 < 860 from dlt hd (by decide)) (show A.units + 3 + 300 < cLine from ult hu (by decide)) (W.up (l03.tr l4)) ((l03.tr l4) _ _ hra) (hrr.mono (l03.tr l4)) hok hz (by simp) hwo hws (fun i v h => (vz i).1 v h) fun i h => ((vz i).2 h).1
    · subst e
      rw [take_snoc ht, List.map_append]
      exact (hA.up l4).snoc e2 e3
  obtain ⟨ra', rv', rn', rfl, era, hrv'⟩ := hv
  have lABCD := lABC.tr lD
  refine eSetA (l1 := (wa, wo) :: (L + 1, oc') :: l1) (attr := sNumbers) (pa := p.pa) (da := p.da) (R1 := fun _ v => v = .ref na) (fun v => [⟨PyData.keyHash w.params sNumbers, .str sNumbers p.k1, v⟩, ⟨PyData.keyHash w.params sRows, .str sRows p.k2, .ref ra'⟩]) (W.up lABCD) (fun o ho => nV (.head _) ho e2) (fun o ho g2 l2' => nV (.head _) ho e1) (.tail _ (.tail _ hpa)) rfl rfl rfl rfl rfl (fun _ _ => rfl) rfl (fun _ => (by decide : 2 ≤ 1000)) (by show 2 ≤ 1000; decide) fun gE v lE hv => ?_
  subst hv
  refine eRet (R1 := fun _ v => v = .ref la) (fun o ho => nV (.head _) ho rfl) fun g5 v l5 r => ?_
  subst r
  exact ⟨[(wa, wo), (L + 1, oc')], _, rfl, Renumd.mk (w := w) (p := p) (l1 := l1) (l2 := l2) { p with na := na, ra := ra', nv := us, rv := rv', ne := nn, re := rn' } rfl rfl rfl ((lB.tr (lC.tr (lD.tr (lE.tr l5)))) _ _ ena) ((lE.tr l5) _ _ era) hus (hrv'.up (lE.tr l5)) la ys nl ((lD.tr (lE.tr l5)) _ _ ela) (hla.mono (lD.tr (lE.tr l5)))⟩
end Mine

/-! C9 -/
open PySem PySem.W PyProof.Rows PySem.Spec PySem.Calls
set_option maxRecDepth 100000
set_option linter.unusedVariables false
namespace Mine

section
variable {w : World} {A : Around} {g : Heap} {hot : Hot} {env : Env} {pos : Pos} {whole : Sem Value}
theorem tLe2 {l r1 r2 : Expr} {a b c : Int} (c1 : Cn w A g hot (eval l env) fun _ v => IsI a v) (c2 : ∀ g1, Le g g1 → Cn w A g1 hot (eval r1 env) fun _ v => IsI b v) (c3 : ∀ g1, Le g g1 → Cn w A g1 hot (eval r2 env) fun _ v => IsI c v)
    (hm : lastMarks [.LtE, .LtE] [r1, r2] = false := by with_unfolding_all rfl) : Cn w A g hot (isTrue (.Compare l [.LtE, .LtE] [r1, r2] pos) env whole) fun _ v => v = (decide (a ≤ b) && decide (b ≤ c)) := fun s Q E g0 l0 H hQ =>
  isTrue_chain (c1 s _ E g0 l0 H fun u g1 h1 tk l1 H1 r1' => test_link (c2 g1 (l0.tr l1) _ _ E g1 (Le.rf _) H1 fun v g2 h2 tk2 l2 H2 r2' => cLe (g := g2) r1' r2' _ _ E g2 (Le.rf _) H2 fun t g3 h3 tk3 l3 H3 r3 => by
    subst r3
    refine wpAny_truthy_bool ?_
    cases hb : decide (a ≤ b) with
    | false => rw [if_neg (by decide)]; exact hQ false g3 h3 tk3 ((l1.tr l2).tr l3) H3 (by rw [hb]; rfl)
    | true =>
      rw [if_pos rfl]
      refine test_last (c3 g3 (((l0.tr l1).tr l2).tr l3) _ _ E g3 (Le.rf _) H3 fun x g4 h4 tk4 l4 H4 r4 => cLe (g := g4) r2' r4 _ _ E g4 (Le.rf _) H4 fun t g5 h5 tk5 l5 H5 r5 => ?_)
      subst r5
      exact wpAny_truthy_bool (hQ _ g5 h5 tk5 ((((l1.tr l2).tr l3).tr l4).tr l5) H5 (by rw [hb]; rfl)))) hm
end
theorem Cc.perm {w : World} {A : Around} {g : Heap} {hot hot' : Hot} {t : Sem Value} {R R' : Heap → Hot → Value → Prop} (c : Cc w A g hot t R) (q : hot'.Perm hot) (h : ∀ g1 hot1 v, Le g g1 → R g1 hot1 v → ∃ hot2, hot1.Perm hot2 ∧ R' g1 hot2 v) : Cc w A g hot' t R' := fun s Q E g0 l H hQ =>
  c s Q E g0 l (H.perm q) fun v g1 hot1 h1 tk l1 H1 r1 => by
    obtain ⟨hot2, q2, r2⟩ := h g1 hot1 v (l.tr l1) r1
    exact hQ v g1 hot2 h1 tk l1 (H1.perm q2) r2

set_option maxHeartbeats 4000000 in
theorem c_put {w : World} {A : Around} {g : Heap} {hot : Hot} (p : Pg) {ns : List Int} {n : Int} {nv : Value} {ra : Addr} {rv : List Value} {rn : Nat} (hh : A.handled = none) (hd : A.depth < 850)
    (hpa : (p.pa, instObj 52 p.da) ∈ hot) (hda : (p.da, dictOf (p.es w) p.ke) ∈ hot) (W : Wd w g) (hi : IntsV p.nv ns) (hs : ns.Pairwise (· < ·)) (hz : ns.length < 100) (hrl : p.rv.length = ns.length) (hn : IsI n nv) (h0 : 0 ≤ n) (h1 : n ≤ 65529) (hgt : ∀ x ∈ ns, x < n)
    (hra : g.get? ra = some (listO rv rn)) (hrv : 0 < rv.length) (hrv2 : rv.length < 100) :
    Cc w A g ((p.na, listO p.nv p.ne) :: (p.ra, listO p.rv p.re) :: hot) (call (.ref 77) [.ref p.pa, nv, .ref ra]) fun g1 hot1 v => v = .none ∧ ∃ n1 n2, hot1 = (p.na, listO (p.nv ++ [nv]) n1) :: (p.ra, listO (p.rv ++ [.ref ra]) n2) :: hot := by
  refine enterCc W rfl rfl rfl rfl rfl (rlt hd) (fun L cells hc => ?_) rfl (by decide +kernel) rfl
  have : cells = [] := by cases hc; rfl
  subst this
  have P : PgIn p w g ((p.na, listO p.nv p.ne) :: (p.ra, listO p.rv p.re) :: hot) := ⟨.tail _ (.tail _ hpa), .tail _ (.tail _ hda), Or.inl (.head _), Or.inl (.tail _ (.head _))⟩
  have hPl : PlaceAt ns n ns.length := ⟨Nat.le_refl _, fun i x _ hx => hgt x (List.mem_of_getElem? hx), fun i x hi hx => absurd (List.getElem?_eq_some_iff.mp hx).1 (by omega)⟩
  refine eIf (b := !(decide ((0 : Int) ≤ n) && decide (n ≤ 65529))) (fun o ho => tNot (tLe2 cI (fun _ _ => nm (.head _) ho rfl fun _ _ => hn) fun g1 l1 => nmg (W.up l1) rfl fun _ _ => ⟨_, rfl⟩)) (fun hb => ?_) fun hb gA lA => ?_
  · rw [decide_eq_true h0, decide_eq_true h1] at hb; cases hb
  refine eAsg (R1 := fun _ v => IsI ns.length v) (fun o ho => ?_) fun gB vk lB hvk => ?_
  · refine calldef (f := 63) (W.up lA) rfl rfl rfl (arg2 (nV (.head _) ho rfl) fun _ _ => nV (.head _) ho rfl) fun g1 us l1 r => ?_
    obtain ⟨a, b, rfl, rfl, rfl⟩ := r
    exact Cn.imp (c_place p hh (show A.depth + 1 < 900 from dlt hd (by decide)) (P.t (lA.tr l1)) (W.up (lA.tr l1)) hi hs hz hn) fun g2 v l2 ⟨k', e1, e2⟩ => hPl.uniq e2 ▸ e1
  have lAB := lA.tr lB
  refine eAsg (R1 := fun _ v => v = .bool false) (fun o ho => ?_) fun gC vb lC hvb => ?_
  · refine calldef (f := 70) (W.up lAB) rfl rfl rfl (arg2 (nV (.head _) ho rfl) fun _ _ => nV (.head _) ho rfl) fun g1 us l1 r => ?_
    obtain ⟨a, b, rfl, rfl, rfl⟩ := r
    refine Cn.imp (c_has (n := n) p hh (show A.depth + 1 < 890 from dlt hd (by decide)) (P.t (lAB.tr l1)) (W.up (lAB.tr l1)) hi hs hz hn) fun g2 v l2 e => ?_
    rw [e, decide_eq_false fun hm => by have := hgt n hm; omega]
  subst hvb
  have lABC := lAB.tr lC
  refine eIf (b := ((rv.length : Int) == 0)) (fun o ho => tCmp (R1 := fun _ v => IsI rv.length v) (callbi (id := "len") (W.up lABC) rfl rfl (arg1 (nV (.head _) ho rfl)) fun g2 vs l2 r2 => by
        obtain ⟨a, rfl, rfl⟩ := r2
        exact bLen (HasL.of ((lABC.tr l2) _ _ hra)) (by omega)) (fun _ _ _ _ => cI) fun g2 g3 u v l2 l3 ru rv => (cEq ru rv).imp fun _ _ _ r => ⟨_, r, rfl⟩) (fun hb => ?_) fun hb gD lD => ?_
  · have := beq_iff_eq.mp hb; omega
  refine eIf (b := false) (fun o ho => tVal ((nV (.head _) ho rfl).imp fun _ _ _ r => ⟨_, r, rfl⟩)) (fun hb => nomatch hb) fun hb gE lE => ?_
  have lE' := (lABC.tr lD).tr lE
  refine eInsert (l1 := []) (R1 := fun _ v => v = nv) (fun ob ho => attrNm (nV (.head _) ho rfl) fun g2 v l2 r2 => by subst r2; exact getNumbers (W.up (lE'.tr l2)) (.tail _ P.i) (.tail _ P.d)) (fun ob ho g2 l2 => nm (.head _) ho rfl fun _ _ => hi.1 ▸ hvk) (fun ob ho g2 l2 => nV (.head _) ho rfl) (by rw [hi.1]; omega) fun gF v n1 lF hv => ?_
  subst hv
  have lF' := lE'.tr lF
  refine eInsert (l1 := [(p.na, listO (p.nv ++ [v]) n1)]) (R1 := fun _ u => u = .ref ra) (fun ob ho => attrNm (nV (.head _) ho rfl) fun g2 v l2 r2 => by subst r2; exact getRows (W.up (lF'.tr l2)) (.tail _ (.tail _ (.tail _ hpa))) (.tail _ (.tail _ (.tail _ hda)))) (fun ob ho g2 l2 => nm (.head _) ho rfl fun _ _ => hrl ▸ hvk) (fun ob ho g2 l2 => nV (.head _) ho rfl) (by rw [hrl]; omega) fun gG u n2 lG hu => ?_
  subst hu
  exact eNil fun g9 l9 => ⟨[], _, rfl, rfl, n1, n2, rfl⟩
end Mine

/-! Lg14 -/
open PySem PySem.W PyProof.Rows PySem.Spec PySem.Calls
set_option maxRecDepth 100000
set_option linter.unusedVariables false
namespace Mine

section
variable {w : World} {A : Around} {E : Value → Shared → Prop}
theorem drawL {it l : Addr} {items : Array Value} (hne : l ≠ it) : ∀ (n i : Nat) (s : Shared) (Q : List Value → Shared → Prop), s.heap.IsListIter it l i → s.heap.IsList l items → i + n ≤ items.size →
    (∀ h', h'.IsListIter it l (i + n) → Heap.SameBut it s.heap h' → Q ((items.toList.drop i).take n) { s with heap := h' }) → wpAny (MM w) A (draw (.ref it) n) Q E s
  | 0, i, s, Q, hit, _, _, hQ => by
    show wpAny _ _ (pure []) Q E s
    exact wpAny_pure (by simpa using hQ s.heap hit (Heap.SameBut.refl ..))
  | n + 1, i, s, Q, hit, ht, hle, hQ => by
    have hlt : i < items.size := by omega
    show wpAny _ _ (pyNext (.ref it) >>= _) Q E s
    refine wpAny_bind (wpAny_pyNext_list_item hit ht (x := items[i]) (by simp [hlt]) fun h₁ hit₁ hs₁ => ?_)
    refine wpAny_bind (wpAny_holding (drawL hne n (i + 1) _ _ hit₁ (ht.extBut hs₁.extBut hne) (by omega) fun h₂ hit₂ hs₂ => wpAny_pure ?_))
    have hd : items.toList.drop i = items[i] :: items.toList.drop (i + 1) := by simp [List.drop_eq_getElem_cons, hlt]
    have := hQ h₂ (by rw [show i + (n + 1) = i + 1 + n by omega]; exact hit₂) (hs₁.trans hs₂)
    rw [hd, List.take_succ_cons] at this
    exact this
theorem unpackItemsL {l : Addr} {items : Array Value} {s : Shared} {Q : List Value → Shared → Prop} (hh : A.handled = none) (ht : s.heap.IsList l items)
    (hQ : ∀ h', Heap.ExtBut s.heap.objs.size s.heap h' → Q items.toList { s with heap := h' }) : wpAny (MM w) A (unpackItems (.ref l) items.size none) Q E s := by
  have hlt : l ≠ s.heap.objs.size := by obtain ⟨o, ho, _⟩ := ht; exact Nat.ne_of_lt (Heap.lt_size ho)
  unfold unpackItems
  refine wpAny_bind ?_
  unfold notIterableAtAll
  refine wpAny_bind (wpAny_specialOf ht.typeIs slot_list_iter.lookup ?_)
  refine wpAny_pure ?_
  simp only [Bool.false_eq_true, if_false]
  refine wpAny_bind (wpAny_holding (wpAny_pyIter_list ht ?_))
  refine wpAny_bind (wpAny_holding (drawL hlt items.size 0 _ _ ⟨_, Heap.get?_push_size _ rfl, rfl, rfl⟩ (ht.push _) (by omega) fun h₁ hit₁ hs₁ => ?_))
  have hall : List.take items.size (List.drop 0 items.toList) = items.toList := by
    rw [List.drop_zero]; exact List.take_of_length_le (by simp)
  rw [hall]
  rw [if_neg (by simp)]
  have ht₁ : h₁.IsList l items := (ht.push _).extBut hs₁.extBut hlt
  refine wpAny_bind (wpAny_holding (wpAny_pyNext_list_end hh hit₁ ht₁ (by simp) fun h₂ he₂ => ?_))
  simp only [Option.isSome_none, Bool.false_eq_true, if_false]
  exact wpAny_pure (hQ h₂ fun b o hb e => he₂ b o hb (hs₁.extBut b o hb (Heap.get?_push_of_some _ e)))
end
section
variable {w : World} {A : Around} {g : Heap} {m : Loc} {hot : Hot} {env : Env} {pos : Pos} {R : Flow → Heap → Loc → Hot → Prop} {rest : List Stmt}
/-- x, y = a list of two -/
theorem eAsg2L {x y : Str} {px py tp : Pos} {kk : Nat} {e : Expr} {a b : Value} {l : Addr} (hh : A.handled = none) (c : ∀ o, ObjNs o m → Cn w A g ((env.locals, o) :: hot) (eval e env) fun g1 v => v = .ref l ∧ HasL g1 ((env.locals, o) :: hot) l [a, b])
    (k : ∀ g1, Le g g1 → Em w A env.locals g1 (up (up m x a) y b) hot (execs rest env) R)
    (hs : swapsWithSole [.Tuple [.Name x px, .Name y py] kk tp] e pos.line env = pure false := by rfl) (hw : swappedStores [.Tuple [.Name x px, .Name y py] kk tp] e env = pure none := by rfl)
    (hx : env.kindOf x = some .local := by rfl) (hy : env.kindOf y = some .local := by rfl) (hp : plainB env := by rfl) :
    Em w A env.locals g m hot (execs (.Assign [.Tuple [.Name x px, .Name y py] kk tp] e pos :: rest) env) R := fun o hn s Q E g0 l0 H hQ =>
  wpAny_execs_cons (Assign_Tuple (c o hn s _ E g0 l0 H fun v g1 h1 tk l1 H1 r1 => by
    obtain ⟨rfl, hl⟩ := r1
    rw [arm_assign_Tuple]
    refine wpAny_bind (wpAny_standAt ?_)
    show wpAny (MM w) A (unpack (.ref l) (assignEach [.Name x px, .Name y py] env)) _ _ _
    have e2 : assignEach [.Name x px, .Name y py] env = [(false, assign (.Name x px) env), (false, assign (.Name y py) env)] := rfl
    rw [e2]
    unfold unpack
    have hL := hl.at (Le.rf _) H1
    refine wpAny_bind (wpAny_holding (unpackItemsL (items := #[a, b]) hh hL fun h' he => ?_))
    have H2 := H1.extBut he
    show wpAny _ _ (assignInOrder [assign (.Name x px) env, assign (.Name y py) env] [a, b]) _ _ _
    refine wpAny_assignInOrder_more (PySem.wpAny_assign_Name (store hn H2 (fun o3 h3 tk3 hn3 H3 => ?_) hx hp))
    refine wpAny_assignInOrder_more (PySem.wpAny_assign_Name (store hn3 H3 (fun o4 h4 tk4 hn4 H4 => ?_) hy hp))
    refine wpAny_pure ?_
    exact k g1 (l0.tr l1) o4 hn4 _ Q E g1 (Le.rf _) H4 fun f g4 m4 hot4 o4 h4 tk4 l4 hn4 H4 r4 => hQ f g4 m4 hot4 o4 h4 tk4 (l1.tr l4) hn4 H4 r4) hs hw)
theorem oMod {a b : Int} {u v : Value} (x : IsI a u) (y : IsI b v) (hb : b ≠ 0) : Cn w A g hot (binaryOp .Mod u v) fun _ r => IsI (a.fmod b) r := by
  obtain ⟨t, rfl⟩ := x; obtain ⟨t', rfl⟩ := y
  exact fun s Q E g0 l H hQ => PyProof.Rows.mod_int hb (hQ _ g0 s.heap _ (Le.rf _) H ⟨_, rfl⟩)
end
end Mine

/-! C10 -/
open PySem PySem.W PyProof.Rows PySem.Spec PySem.Calls
set_option maxRecDepth 100000
set_option linter.unusedVariables false
namespace Mine

theorem modPos {a b : Int} (hb : 0 < b) : ∃ r : Nat, (r : Int) = a.fmod b ∧ (r : Int) < b := by
  have h1 := Int.fmod_nonneg_of_pos a hb
  have h2 := Int.fmod_lt_of_pos a hb
  exact ⟨(a.fmod b).toNat, by omega, by omega⟩
theorem mulSmall {a b : Int} (h : a.natAbs < 1000000) : IntMulOk a b := by
  refine .of_left ?_
  unfold Builtin.Int.intBits
  split
  · omega
  · rename_i h0
    have h1 : a.natAbs ≠ 0 := by simpa using h0
    have := (Nat.log2_lt (k := 20) h1).mpr (by omega)
    omega
set_option maxHeartbeats 4000000 in
theorem c_next {w : World} {A : Around} {g : Heap} {hot : Hot} {fa ca : Addr} {tv mv : Value} {t n cn : Nat} {mm : Int} {cv : List Value} {xs : List Int} (hh : A.handled = none) (hd : A.depth < 890) (W : Wd w g) (hc : g.get? ca = some (listO cv cn)) (hi : IntsV cv xs) (hz : xs.length ≤ 40) (ht : IsI t tv) (htz : t ≤ 500) (hm : IsI mm mv) (hm0 : 0 < mm) :
    Cc w A g ((fa, listO [.ref ca, tv] n) :: hot) (call (.ref 118) [.ref fa, mv]) fun g1 hot1 v => ∃ (tv' : Value) (n' r : Nat), hot1 = (fa, listO [.ref ca, tv'] n') :: hot ∧ IsI ((t + 1 : Nat) : Int) tv' ∧ IsI r v ∧ (r : Int) < mm := by
  refine enterCc W rfl rfl rfl rfl rfl (rlt hd) (fun L cells hcs => ?_) rfl (by decide +kernel) rfl
  have : cells = [] := by cases hcs; rfl
  subst this
  refine eAsg2L (x := "cells") (y := "turn") (a := .ref ca) (b := tv) (l := fa) hh (fun o ho => nm (.head _) ho rfl fun _ _ => ⟨rfl, Or.inl ⟨n, .tail _ (.head _)⟩⟩) fun gA lA => ?_
  refine eSetI (l1 := []) (k := 1) (R1 := fun _ v => IsI ((t + 1 : Nat) : Int) v) (fun ob ho => ?_) (fun ob ho g2 l2 => nV (.head _) ho rfl) (fun ob ho g2 l2 => cI) (by decide : 1 < 2) (by decide : 2 ≤ 4096) fun g2 g3 v n' l2 l3 hv => ?_
  · exact bin (nV (.head _) ho rfl) (fun _ _ _ _ => cI) fun g2 g3 u v l2 l3 ru rv => by subst ru; exact (oAdd ht rv).imp fun _ _ _ r => by simpa using r
  have l03 := lA.tr (l2.tr l3)
  refine eIf (b := decide ((t : Int) < xs.length)) (fun o ho => tCmp (R2 := fun _ v => IsI xs.length v) (nV (.head _) ho rfl) (fun g4 _ l4 _ => callbi (id := "len") (W.up (l03.tr l4)) rfl rfl (arg1 (nV (.head _) ho rfl)) fun g5 vs l5 r2 => by
      obtain ⟨a, rfl, rfl⟩ := r2
      exact hi.1 ▸ bLen (HasL.of (((l03.tr l4).tr l5) _ _ hc)) (by rw [hi.1]; omega)) fun g4 g5 u v l4 l5 ru rv => by subst ru; exact (cLt ht rv).imp fun _ _ _ r => ⟨_, r, rfl⟩) (fun hb g4 l4 => ?_) fun hb g4 l4 => ?_
  · have hlt : t < xs.length := by have := of_decide_eq_true hb; omega
    obtain ⟨xv, hxv, hxi⟩ := hi.get (List.getElem?_eq_getElem hlt)
    refine eRet (R1 := fun _ v => ∃ r : Nat, IsI r v ∧ (r : Int) < mm) (fun o ho => bin (R1 := fun _ v => ∃ a : Int, IsI a v) (callbi (id := "abs") (W.up (l03.tr l4)) rfl rfl (arg1 (R1 := fun _ v => IsI xs[t] v) ?_) fun g5 us l5 r5 => ?_) (fun _ _ _ _ => nV (.head _) ho rfl) fun g5 g6 u v l5 l6 ru rv => ?_) fun g5 v l5 r => ⟨[], _, rfl, _, n', r.choose, rfl, hv, r.choose_spec⟩
    · refine calltype (id := "int") (W.up (l03.tr l4)) rfl rfl (arg1 (R1 := fun _ v => IsI xs[t] v) (subs (nV (.head _) ho rfl) (fun _ _ _ _ => nV (.head _) ho rfl) fun g5 g6 u v l5 l6 ru rv => by
          subst ru rv
          exact (iList (HasL.of ((((l03.tr l4).tr l5).tr l6) _ _ hc)) ht (by omega) (by omega) (by simpa using hxv)).imp fun _ _ _ r => r ▸ hxi)) fun g5 us l5 r5 => ?_
      obtain ⟨a, rfl, u, rfl⟩ := r5
      exact fun s Q E g0 l H hQ => call_int_int (hQ _ g0 s.heap s.toks (Le.rf _) H ⟨_, rfl⟩)
    · obtain ⟨a, rfl, u, rfl⟩ := r5
      exact fun s Q E g0 l H hQ => PyProof.Rows.call_abs_int fun u tk => hQ _ g0 s.heap tk (Le.rf _) H ⟨_, _, rfl⟩
    · subst rv
      obtain ⟨a, ha⟩ := ru
      obtain ⟨r, e1, e2⟩ := modPos (a := a) hm0
      exact (oMod ha hm (by omega)).imp fun _ _ _ h => ⟨r, e1 ▸ h, e2⟩
  · refine eRet (R1 := fun _ v => ∃ r : Nat, IsI r v ∧ (r : Int) < mm) (fun o ho => bin (R1 := fun _ v => ∃ a : Int, IsI a v) ?_ (fun _ _ _ _ => nV (.head _) ho rfl) fun g5 g6 u v l5 l6 ru rv => ?_) fun g5 v l5 r => ⟨[], _, rfl, _, n', r.choose, rfl, hv, r.choose_spec⟩
    · refine bin (R1 := fun _ v => ∃ a : Int, IsI a v) (R2 := fun _ v => IsI xs.length v) (bin (R1 := fun _ v => ∃ a : Int, IsI a v) (bin (R1 := fun _ v => IsI (31 * (t : Int)) v) (R2 := fun _ v => ∃ a : Int, IsI a v) (bin cI (fun _ _ _ _ => nV (.head _) ho rfl) fun g5 g6 u v l5 l6 ru rv => by subst rv; exact oMul ru ht (mulSmall (by omega))) (fun g5 _ l5 _ => bin (R1 := fun _ v => IsI ((t : Int) * t) v) (bin (nV (.head _) ho rfl) (fun _ _ _ _ => nV (.head _) ho rfl) fun g5 g6 u v l5 l6 ru rv => by subst ru rv; exact oMul ht ht (mulSmall (by omega))) (fun _ _ _ _ => cI) fun g5 g6 u v l5 l6 ru rv => (oDiv ru rv (by decide) (PyProof.noPylong_small (by decide))).imp fun _ _ _ r => ⟨_, r⟩) fun g5 g6 u v l5 l6 ru rv => by
          obtain ⟨b, hb⟩ := rv
          exact (oAdd ru hb).imp fun _ _ _ r => ⟨_, r⟩) (fun _ _ _ _ => cI) fun g5 g6 u v l5 l6 ru rv => by
          obtain ⟨b, hb⟩ := ru
          exact (oAdd hb rv).imp fun _ _ _ r => ⟨_, r⟩) (fun g5 _ l5 _ => callbi (id := "len") (W.up ((l03.tr l4).tr l5)) rfl rfl (arg1 (nV (.head _) ho rfl)) fun g6 vs l6 r2 => by
          obtain ⟨a, rfl, rfl⟩ := r2
          exact hi.1 ▸ bLen (HasL.of ((((l03.tr l4).tr l5).tr l6) _ _ hc)) (by rw [hi.1]; omega)) fun g5 g6 u v l5 l6 ru rv => by
          obtain ⟨b, hb⟩ := ru
          exact (oAdd hb rv).imp fun _ _ _ r => ⟨_, r⟩
    · subst rv
      obtain ⟨a, ha⟩ := ru
      obtain ⟨r, e1, e2⟩ := modPos (a := a) hm0
      exact (oMod ha hm (by omega)).imp fun _ _ _ h => ⟨r, e1 ▸ h, e2⟩
end Mine

/-! C11 -/
open PySem PySem.W PyProof.Rows PySem.Spec PySem.Calls
set_option maxRecDepth 100000
set_option linter.unusedVariables false
namespace Mine

section
variable {w : World} {A : Around} {g : Heap} {hot : Hot} {env : Env} {pos : Pos} {t : Sem Value}
theorem dArgs0 : Cn w A g hot (spliced (backTo pos (starEach [] env))) fun g1 vs => RdAll g1 vs [] := args0 fun _ _ => .nil
theorem dArgs {e : Expr} {rest : List Expr} {d : PyData} {ds : List PyData} (c : CD w A g hot (eval e env) d) (k : ∀ g1, Le g g1 → Cn w A g1 hot (spliced (backTo pos (starEach rest env))) fun g2 vs => RdAll g2 vs ds)
    (he : starEach (e :: rest) env = (false, eval e env) :: starEach rest env := by rfl) : Cn w A g hot (spliced (backTo pos (starEach (e :: rest) env))) fun g2 vs => RdAll g2 vs (d :: ds) := fun s Q E g0 l H hQ => by
  rw [he]
  refine spliced_cons (c s _ E g0 l H fun v g1 h1 tk l1 H1 r1 => ?_)
  exact k g1 (l.tr l1) _ _ E g1 (Le.rf _) H1 fun vs g2 h2 tk2 l2 H2 r2 => hQ (v :: vs) g2 h2 tk2 (l1.tr l2) H2 (.cons (r1.mono l2) r2)
theorem dTup {elts : List Expr} {k : Nat} {ds : List PyData} (hz : ds.length ≤ 4096) (c : Cn w A g hot (spliced (backTo pos (starEach elts env))) fun g2 vs => RdAll g2 vs ds) : CD w A g hot (eval (.Tuple elts k pos) env) (.tuple ds) :=
  tupD c (fun _ vs r => by rw [r.length]; exact hz) fun g1 g2 vs a l1 l2 r e => Rd.ofTup (HasT.of e) (r.mono l2)
theorem dList {elts : List Expr} {ds : List PyData} (hz : ds.length ≤ 4096) (c : Cn w A g hot (spliced (backTo pos (starEach elts env))) fun g2 vs => RdAll g2 vs ds) : CD w A g hot (eval (.List elts pos) env) (.list ds) :=
  listD c (fun _ vs r => by rw [r.length]; exact hz) fun g1 g2 vs a l1 l2 r e => Rd.ofList ⟨_, e, rfl, 0, rfl⟩ (r.mono l2)
/-- over a tuple that is only computed -/
theorem itT {n : Nat} {P : Nat → Value → Prop} (hh : A.handled = none)
    (c : Cn w A g hot t fun g1 v => ∃ a vs, v = .ref a ∧ HasT g1 a vs ∧ vs.length = n ∧ ∀ i v, vs[i]? = some v → P i v) : It w A g hot t n P [] := fun s Q E g0 l H hQ => by
  refine c s _ E g0 l H fun v g1 h1 tk l1 H1 r1 => ?_
  obtain ⟨a, vs, rfl, ea, hn, hP⟩ := r1
  have hL : h1.IsTuple a vs.toArray := ea.at (Le.rf _) H1
  refine wpAny_pyIter_tuple hL ?_
  have hne : a ≠ h1.objs.size := by obtain ⟨o, e, _⟩ := hL; exact Nat.ne_of_lt (Heap.lt_size e)
  have W := Walks.tuple (prog := PP) (w := w) hh h1.objs.size a hne vs.toArray
  have e : vs.toArray.size = n := by rw [List.size_toArray, hn]
  rw [e] at W
  refine hQ _ g1 _ tk l1 ⟨⟨h1.objs.size, _, _, _, [(h1.objs.size, _)], rfl, Walks.imp W fun i v _ h => hP i v (by simpa using h), ?_, rfl, H1.push _, ⟨⟨_, Heap.get?_push_size _ rfl, rfl, rfl⟩, hL.push _⟩, ?_⟩⟩
  · rintro i h ⟨⟨o, e, _⟩, _⟩ b hb
    rw [List.mem_singleton.mp hb]; exact ⟨o, e⟩
  · intro b hb
    rcases List.mem_cons.mp hb with rfl | hb
    · exact .inl (.head _)
    · rw [List.mem_singleton.mp hb]
      obtain ⟨o, e, _⟩ := ea
      exact .inr (.inl ⟨o, e⟩)
/-- item k of a list that reads as data -/
theorem iRdL {value slice : Expr} {v : Value} {ds : List PyData} {d : PyData} {k : Nat} {i : Value} (r : Rd g v (.list ds)) (hi : IsI k i) (hz : ds.length < 10000) (hx : ds[k]? = some d)
    (hs : ∀ a u, subscripted slice false (.ref a) (.int k u) = operate [.ref a, .int k u] (getItem (.ref a) (.int k u)) := by intro _ _; with_unfolding_all rfl) : CD w A g hot (subscriptTail value slice v i) d := by
  obtain ⟨a, vs, rfl, hl, ra⟩ := r.listInv
  exact iListD (Or.inr hl) ra hi hz hx (hs a)
variable {m : Loc} {R : Flow → Heap → Loc → Hot → Prop} {rest : List Stmt}
/-- x, y, z = (a, b, c), in their order -/
theorem eAsg3 {x y z : Str} {px py pz tp : Pos} {kk : Nat} {e : Expr} (S : Heap → Value → Value → Value → Prop) (hh : A.handled = none) (c : ∀ o, ObjNs o m → Cn w A g ((env.locals, o) :: hot) (eval e env) fun g1 v => ∃ t a b c, v = .ref t ∧ HasT g1 t [a, b, c] ∧ S g1 a b c)
    (k : ∀ g1 a b c, Le g g1 → S g1 a b c → Em w A env.locals g1 (up (up (up m x a) y b) z c) hot (execs rest env) R)
    (hs : swapsWithSole [.Tuple [.Name x px, .Name y py, .Name z pz] kk tp] e pos.line env = pure false := by rfl) (hw : swappedStores [.Tuple [.Name x px, .Name y py, .Name z pz] kk tp] e env = pure none := by rfl)
    (hx : env.kindOf x = some .local := by rfl) (hy : env.kindOf y = some .local := by rfl) (hz : env.kindOf z = some .local := by rfl) (hp : plainB env := by rfl) :
    Em w A env.locals g m hot (execs (.Assign [.Tuple [.Name x px, .Name y py, .Name z pz] kk tp] e pos :: rest) env) R := fun o hn s Q E g0 l0 H hQ =>
  wpAny_execs_cons (Assign_Tuple (c o hn s _ E g0 l0 H fun v g1 h1 tk l1 H1 r1 => by
    obtain ⟨t, a, b, c, rfl, e1, r1⟩ := r1
    refine wpAny_assign_Tuple (items := #[a, b, c]) hh (e1.at (Le.rf _) H1) rfl rfl fun h' he => ?_
    have H2 := H1.extBut he
    show wpAny _ _ (assignInOrder [assign (.Name x px) env, assign (.Name y py) env, assign (.Name z pz) env] [a, b, c]) _ _ _
    refine wpAny_assignInOrder_more (PySem.wpAny_assign_Name (store hn H2 (fun o3 h3 tk3 hn3 H3 => ?_) hx hp))
    refine wpAny_assignInOrder_more (PySem.wpAny_assign_Name (store hn3 H3 (fun o4 h4 tk4 hn4 H4 => ?_) hy hp))
    refine wpAny_assignInOrder_more (PySem.wpAny_assign_Name (store hn4 H4 (fun o5 h5 tk5 hn5 H5 => ?_) hz hp))
    refine wpAny_pure ?_
    exact k g1 a b c (l0.tr l1) r1 o5 hn5 _ Q E g1 (Le.rf _) H5 fun f g4 m4 hot4 o4 h4 tk4 l4 hn4 H4 r4 => hQ f g4 m4 hot4 o4 h4 tk4 (l1.tr l4) hn4 H4 r4) hs hw)
end

def fWords : List Str := ["GOTO", "IF", "THEN", "ELSE", "ON", "GOSUB", "PRINT", "RESTORE", "RUN"]
def wD (x : Str) : PyData := .tuple [.str "word", .str x]
def sD (x : Str) : PyData := .tuple [.str "sign", .str x]
def nD : PyData := .tuple [.str "name", .str "A"]
def formsD : List (List PyData) :=
  [[wD "GOTO", .int 0], [wD "IF", nD, wD "THEN", .int 0, wD "ELSE", .int 1], [wD "ON", nD, wD "GOTO", .int 0, sD ",", .int 1], [wD "GOSUB", .int 0, sD ":", wD "GOTO", .int 1],
   [wD "RESTORE", .int 0, sD ":", wD "RUN", .int 1], [wD "PRINT", .int 0, sD ",", .int 1], [wD "GOTO", .int 0, sD "+", .int 1], [wD "IF", nD, wD "GOTO", .int 0, wD "ELSE", wD "PRINT", .int 1]]

def isW (i : Nat) (v : Value) : Prop := ∃ x t, fWords[i]? = some x ∧ v = Value.str x t
/-- word[i] -/
theorem wAt {w : World} {A : Around} {g : Heap} {hot : Hot} {env : Env} {o : Obj} {m : Loc} {v : Value} {k kk : Nat} {x : Str} {p1 p2 p3 : Pos} (hm : (env.locals, o) ∈ hot) (ho : ObjNs o m) (h1 : m "word" = some v) (hr : Rd g v (.list (fWords.map wD))) (hx : fWords[k]? = some x)
    (hk : env.scope.kind = .function := by rfl) (hl1 : env.kindOf "word" = some .local := by rfl) : CD w A g hot (eval (.Subscript (.Name "word" p1) (.Constant (.int k) kk p2) p3) env) (wD x) :=
  subs (nV hm ho h1 hk hl1 (by decide)) (fun _ _ _ _ => cI) fun g2 g3 u v' l2 l3 ru rv => by
    subst ru
    exact iRdL (k := k) (hr.mono (l2.tr l3)) rv (by decide) (by simp [hx])

set_option maxHeartbeats 4000000 in
theorem c_form {w : World} {A : Around} {g : Heap} {hot : Hot} {fv : Value} {f : Nat} (hh : A.handled = none) (hd : A.depth < 890) (W : Wd w g) (hf : IsI f fv) (hf8 : f < 8) : CD w A g hot (call (.ref 123) [fv]) (.list (formsD[f]?.getD [])) := by
  refine enter W rfl rfl rfl rfl rfl (rlt hd) (fun L => ?_) (by decide) (locs rfl)
  refine eAsg (R1 := fun g v => Rd g v (.tuple (fWords.map .str))) (fun o ho => dTup (by decide) (dArgs dStr fun _ _ => dArgs dStr fun _ _ => dArgs dStr fun _ _ => dArgs dStr fun _ _ => dArgs dStr fun _ _ => dArgs dStr fun _ _ => dArgs dStr fun _ _ => dArgs dStr fun _ _ => dArgs dStr fun _ _ => dArgs0)) fun gA vw lA hvw => ?_
  refine eAsg2s (x := "word") (y := "sign") (fun g a b => Rd g a (.list (fWords.map wD)) ∧ Rd g b (sD ",")) hh (fun o ho => tup2 (R1 := fun g a => Rd g a (.list (fWords.map wD))) (R2 := fun g b => Rd g b (sD ",")) ?_ (fun g1 l1 => dTup2 dStr fun _ _ => dStr)) fun gB a b lB r1 => ?_
  · refine compG (keep := []) (n := 9) (B := fun i m => ∃ v, isW i v ∧ m "one" = some v) (cl := []) (Src.name (itT (P := isW) hh ?_)) (fun _ hq => nomatch hq) (fun C => ⟨rfl, rfl⟩)
      (fun i g ys => RdAll g ys ((fWords.take i).map wD)) (fun _ => true) (by decide) (fun _ _ => .nil) (fun _ _ _ _ l h => h.mono l) (fun _ _ _ _ _ _ _ _ _ _ => tests0) ?_ (fun _ _ _ h => nomatch h) (fun g3 a ys n' l3 e h => Rd.ofList ⟨_, e, rfl, n', rfl⟩ h) rfl (by decide) rfl (by decide)
    · refine nm (.head _) ho rfl fun g2 l2 => ?_
      obtain ⟨a, vs, rfl, ht, ra⟩ := (hvw.mono l2).tupInv
      refine ⟨a, vs, rfl, ht, ra.length, fun i u hu => ?_⟩
      have hil : i < fWords.length := by
        have h1 := (List.getElem?_eq_some_iff.mp hu).1
        have h2 := ra.length
        rw [List.length_map] at h2
        omega
      obtain ⟨v', hv', r⟩ := ra.get (i := i) (d := .str fWords[i]) (by simp [hil])
      rw [hu] at hv'; cases hv'
      obtain ⟨t, rfl⟩ := r.strInv
      exact ⟨_, t, List.getElem?_eq_getElem hil, rfl⟩
    · rintro i C oC mC ext g3 ys l3 hil ⟨v, ⟨x, t, hx, rfl⟩, hm⟩ _ hoC hA
      refine Cn.imp (R := fun g v => Rd g v (wD x)) (dTup2 dStr fun _ _ => nm (.head _) hoC hm fun _ _ => Rd.ofStr) fun g4 v l4 r => ?_
      rw [take_snoc hx, List.map_append]
      exact (hA.mono l4).snoc r
  obtain ⟨ra, rb⟩ := r1
  refine eAsg3 (x := "name") (y := "plus") (z := "colon") (fun g a b c => Rd g a nD ∧ Rd g b (sD "+") ∧ Rd g c (sD ":")) hh (fun o ho => Cn.imp (R := fun g v => Rd g v (.tuple [nD, sD "+", sD ":"])) (dTup (by decide) (dArgs (dTup2 dStr fun _ _ => dStr) fun _ _ => dArgs (dTup2 dStr fun _ _ => dStr) fun _ _ => dArgs (dTup2 dStr fun _ _ => dStr) fun _ _ => dArgs0)) fun g1 v l1 r => ?_) fun gC x y z lC r3 => ?_
  · obtain ⟨t, vs, rfl, ht, rr⟩ := r.tupInv
    obtain ⟨x, v1, rfl, r1, rr⟩ := rr.inv
    obtain ⟨y, v2, rfl, r2, rr⟩ := rr.inv
    obtain ⟨z, v3, rfl, r3, rr⟩ := rr.inv
    have : v3 = [] := List.length_eq_zero_iff.mp (by simpa using rr.length)
    subst this
    exact ⟨t, x, y, z, rfl, ht, r1, r2, r3⟩
  obtain ⟨rx, ry, rz⟩ := r3
  have rw' : Rd gC a (.list (fWords.map wD)) := ra.mono lC
  have rs' : Rd gC b (sD ",") := rb.mono lC
  refine eIf (b := decide ((f : Int) < 2)) (fun o ho => tCmp (nV (.head _) ho rfl) (fun _ _ _ _ => cI) fun g2 g3 u v l2 l3 ru rv => by subst ru; exact (cLt hf rv).imp fun _ _ _ r => ⟨_, r, rfl⟩) (fun hb g1 l1 => ?_) fun hb g1 l1 => ?_
  · have hlt : f < 2 := by have := of_decide_eq_true hb; omega
    refine eRet (fun o ho => subs (R1 := fun g v => Rd g v (.list [.list [wD "GOTO", .int 0], .list [wD "IF", nD, wD "THEN", .int 0, wD "ELSE", .int 1]])) (dList (by decide) (dArgs (dList (by decide) (dArgs (wAt (.head _) ho rfl (rw'.mono l1) rfl) fun _ _ => dArgs dInt fun _ _ => dArgs0)) fun g2 l2 => dArgs (dList (by decide)
      (dArgs (wAt (.head _) ho rfl (rw'.mono (l1.tr l2)) rfl) fun g3 l3 => dArgs (nm (.head _) ho rfl fun g4 l4 => rx.mono (((l1.tr l2).tr l3).tr l4)) fun g4 l4 => dArgs (wAt (.head _) ho rfl (rw'.mono (((l1.tr l2).tr l3).tr l4)) rfl) fun g5 l5 => dArgs dInt fun g6 l6 => dArgs (wAt (.head _) ho rfl (rw'.mono (((((l1.tr l2).tr l3).tr l4).tr l5).tr l6)) rfl) fun _ _ => dArgs dInt fun _ _ => dArgs0)) fun _ _ => dArgs0)) (fun _ _ _ _ => nV (.head _) ho rfl) fun g2 g3 u v l2 l3 ru rv => by subst rv; exact iRdL (k := f) (d := .list (formsD[f]?.getD [])) (ru.mono l3) hf (by decide) (by rcases (by omega : f = 0 ∨ f = 1) with rfl | rfl <;> rfl)) fun g2 v l2 r => ⟨[], rfl, r⟩
  refine eIf (b := decide ((f : Int) < 4)) (fun o ho => tCmp (nV (.head _) ho rfl) (fun _ _ _ _ => cI) fun g2 g3 u v l2 l3 ru rv => by subst ru; exact (cLt hf rv).imp fun _ _ _ r => ⟨_, r, rfl⟩) (fun hb2 g2 l2 => ?_) fun hb2 g2 l2 => ?_
  · have hlt : f < 4 := by have := of_decide_eq_true hb2; omega
    have hge : 2 ≤ f := by have := of_decide_eq_false hb; omega
    refine eRet (fun o ho => subs (R1 := fun g v => Rd g v (.list [.list [wD "ON", nD, wD "GOTO", .int 0, sD ",", .int 1], .list [wD "GOSUB", .int 0, sD ":", wD "GOTO", .int 1]])) (R2 := fun _ v => IsI ((f - 2 : Nat) : Int) v) (dList (by decide) (dArgs (dList (by decide) (dArgs (wAt (.head _) ho rfl (rw'.mono (l1.tr l2)) rfl) fun g22 q2 => dArgs (nm (.head _) ho rfl fun g9 l9 => rx.mono (((l1.tr l2).tr q2).tr l9)) fun g23 q3 => dArgs (wAt (.head _) ho rfl (rw'.mono (((l1.tr l2).tr q2).tr q3)) rfl) fun g24 q4 => dArgs dInt fun g25 q5 => dArgs (nm (.head _) ho rfl fun g9 l9 => rs'.mono ((((((l1.tr l2).tr q2).tr q3).tr q4).tr q5).tr l9)) fun g26 q6 => dArgs dInt fun g27 q7 => dArgs0)) fun ge1 e1 => dArgs (dList (by decide) (dArgs (wAt (.head _) ho rfl (rw'.mono ((l1.tr l2).tr e1)) rfl) fun g23 q3 => dArgs dInt fun g24 q4 => dArgs (nm (.head _) ho rfl fun g9 l9 => rz.mono (((((l1.tr l2).tr e1).tr q3).tr q4).tr l9)) fun g25 q5 => dArgs (wAt (.head _) ho rfl (rw'.mono (((((l1.tr l2).tr e1).tr q3).tr q4).tr q5)) rfl) fun g26 q6 => dArgs dInt fun g27 q7 => dArgs0)) fun _ _ => dArgs0)) (fun _ _ _ _ => ?_) fun ga gb u v la lb ru rv => iRdL (k := f - 2) (d := .list (formsD[f]?.getD [])) (ru.mono lb) rv (by decide) (by rcases (by omega : f = 2 ∨ f = 3) with rfl | rfl <;> rfl)) fun g2 v l2 r => ⟨[], rfl, r⟩
    have e : ((f - 2 : Nat) : Int) = (f : Int) - 2 := by omega
    rw [e]
    exact bin (nV (.head _) ho rfl) (fun _ _ _ _ => cI) fun g2 g3 u v l2 l3 ru rv => by subst ru; exact oSub hf rv
  refine eIf (b := decide ((f : Int) < 6)) (fun o ho => tCmp (nV (.head _) ho rfl) (fun _ _ _ _ => cI) fun g2 g3 u v l2 l3 ru rv => by subst ru; exact (cLt hf rv).imp fun _ _ _ r => ⟨_, r, rfl⟩) (fun hb3 g3 l3 => ?_) fun hb3 g3 l3 => ?_
  · have hlt : f < 6 := by have := of_decide_eq_true hb3; omega
    have hge : 4 ≤ f := by have := of_decide_eq_false hb2; omega
    refine eRet (fun o ho => subs (R1 := fun g v => Rd g v (.list [.list [wD "RESTORE", .int 0, sD ":", wD "RUN", .int 1], .list [wD "PRINT", .int 0, sD ",", .int 1]])) (R2 := fun _ v => IsI ((f - 4 : Nat) : Int) v) (dList (by decide) (dArgs (dList (by decide) (dArgs (wAt (.head _) ho rfl (rw'.mono ((l1.tr l2).tr l3)) rfl) fun g23 q3 => dArgs dInt fun g24 q4 => dArgs (nm (.head _) ho rfl fun g9 l9 => rz.mono (((((l1.tr l2).tr l3).tr q3).tr q4).tr l9)) fun g25 q5 => dArgs (wAt (.head _) ho rfl (rw'.mono (((((l1.tr l2).tr l3).tr q3).tr q4).tr q5)) rfl) fun g26 q6 => dArgs dInt fun g27 q7 => dArgs0)) fun ge1 e1 => dArgs (dList (by decide) (dArgs (wAt (.head _) ho rfl (rw'.mono (((l1.tr l2).tr l3).tr e1)) rfl) fun g24 q4 => dArgs dInt fun g25 q5 => dArgs (nm (.head _) ho rfl fun g9 l9 => rs'.mono ((((((l1.tr l2).tr l3).tr e1).tr q4).tr q5).tr l9)) fun g26 q6 => dArgs dInt fun g27 q7 => dArgs0)) fun _ _ => dArgs0)) (fun _ _ _ _ => ?_) fun ga gb u v la lb ru rv => iRdL (k := f - 4) (d := .list (formsD[f]?.getD [])) (ru.mono lb) rv (by decide) (by rcases (by omega : f = 4 ∨ f = 5) with rfl | rfl <;> rfl)) fun g2 v l2 r => ⟨[], rfl, r⟩
    have e : ((f - 4 : Nat) : Int) = (f : Int) - 4 := by omega
    rw [e]
    exact bin (nV (.head _) ho rfl) (fun _ _ _ _ => cI) fun g2 g3 u v l2 l3 ru rv => by subst ru; exact oSub hf rv
  have hge : 6 ≤ f := by have := of_decide_eq_false hb3; omega
  refine eRet (fun o ho => subs (R1 := fun g v => Rd g v (.list [.list [wD "GOTO", .int 0, sD "+", .int 1], .list [wD "IF", nD, wD "GOTO", .int 0, wD "ELSE", wD "PRINT", .int 1]])) (R2 := fun _ v => IsI ((f - 6 : Nat) : Int) v) (dList (by decide) (dArgs (dList (by decide) (dArgs (wAt (.head _) ho rfl (rw'.mono ((l1.tr l2).tr l3)) rfl) fun g23 q3 => dArgs dInt fun g24 q4 => dArgs (nm (.head _) ho rfl fun g9 l9 => ry.mono (((((l1.tr l2).tr l3).tr q3).tr q4).tr l9)) fun g25 q5 => dArgs dInt fun g26 q6 => dArgs0)) fun ge1 e1 => dArgs (dList (by decide) (dArgs (wAt (.head _) ho rfl (rw'.mono (((l1.tr l2).tr l3).tr e1)) rfl) fun g24 q4 => dArgs (nm (.head _) ho rfl fun g9 l9 => rx.mono (((((l1.tr l2).tr l3).tr e1).tr q4).tr l9)) fun g25 q5 => dArgs (wAt (.head _) ho rfl (rw'.mono (((((l1.tr l2).tr l3).tr e1).tr q4).tr q5)) rfl) fun g26 q6 => dArgs dInt fun g27 q7 => dArgs (wAt (.head _) ho rfl (rw'.mono (((((((l1.tr l2).tr l3).tr e1).tr q4).tr q5).tr q6).tr q7)) rfl) fun g28 q8 => dArgs (wAt (.head _) ho rfl (rw'.mono ((((((((l1.tr l2).tr l3).tr e1).tr q4).tr q5).tr q6).tr q7).tr q8)) rfl) fun g29 q9 => dArgs dInt fun g30 q10 => dArgs0)) fun _ _ => dArgs0)) (fun _ _ _ _ => ?_) fun ga gb u v la lb ru rv => iRdL (k := f - 6) (d := .list (formsD[f]?.getD [])) (ru.mono lb) rv (by decide) (by rcases (by omega : f = 6 ∨ f = 7) with rfl | rfl <;> rfl)) fun g2 v l2 r => ⟨[], rfl, r⟩
  have e : ((f - 6 : Nat) : Int) = (f : Int) - 6 := by omega
  rw [e]
  exact bin (nV (.head _) ho rfl) (fun _ _ _ _ => cI) fun g2 g3 u v l2 l3 ru rv => by subst ru; exact oSub hf rv
end Mine

/-! Lg15 -/
open PySem PySem.W PyProof.Rows PySem.Spec PySem.Calls
set_option maxRecDepth 100000
set_option linter.unusedVariables false
namespace Mine

abbrev reads (ds : List PyData) (g : Heap) (P : Nat → Value → Prop) : Prop := ∀ i v d, P i v → ds[i]? = some d → Rd g v d
section
variable {w : World} {A : Around} {g : Heap} {hot : Hot} {t : Sem Value}
theorem itXL {ds : List PyData} {n : Nat} (hh : A.handled = none) (hn : ds.length = n) (c : Cn w A g hot t fun g1 v => Rd g1 v (.list ds)) : ItX w A g hot t n (reads ds) [] := fun s Q E g0 l H hQ => by
  refine c s _ E g0 l H fun v g1 h1 tk l1 H1 r1 => ?_
  obtain ⟨a, vs, rfl, ea, ra⟩ := r1.listInv
  have hL : h1.IsList a vs.toArray := by obtain ⟨o, e, q⟩ := ea; exact ⟨o, H1.keep _ _ e, q⟩
  refine wpAny_pyIter_list hL ?_
  have hne : a ≠ h1.objs.size := by obtain ⟨o, e, _⟩ := hL; exact Nat.ne_of_lt (Heap.lt_size e)
  have W := Walks.list (prog := PP) (w := w) hh h1.objs.size a hne vs.toArray
  have e : vs.toArray.size = n := by rw [List.size_toArray, ra.length, hn]
  rw [e] at W
  simp only [List.getElem?_toArray] at W
  refine hQ _ g1 _ tk (fun i v => vs[i]? = some v) l1 (fun i v d hv hd => ?_) ⟨⟨h1.objs.size, _, _, _, [(h1.objs.size, _)], rfl, W, ?_, rfl, H1.push _, ⟨⟨_, Heap.get?_push_size _ rfl, rfl, rfl⟩, hL.push _⟩, ?_⟩⟩
  · obtain ⟨v', hv', r⟩ := ra.get hd
    rw [hv] at hv'; cases hv'; exact r
  · rintro i h ⟨⟨o, e, _⟩, _⟩ b hb
    rw [List.mem_singleton.mp hb]; exact ⟨o, e⟩
  · intro b hb
    rcases List.mem_cons.mp hb with rfl | hb
    · exact .inl (.head _)
    · rw [List.mem_singleton.mp hb]
      obtain ⟨o, e, _⟩ := ea
      exact .inr (.inl ⟨o, e⟩)
end
end Mine

/-! C12 -/
open PySem PySem.W PyProof.Rows PySem.Spec PySem.Calls
set_option maxRecDepth 100000
set_option linter.unusedVariables false
namespace Mine

inductive Fi where
  | t (t : Tk)
  | g (k : Nat)
def Fi.d : Fi → PyData
  | .t x => x.d
  | .g k => .int k
def fw (x : Str) : Fi := .t (.s "word" x)
def fs (x : Str) : Fi := .t (.s "sign" x)
def fn : Fi := .t (.s "name" "A")
def formsT : List (List Fi) :=
  [[fw "GOTO", .g 0], [fw "IF", fn, fw "THEN", .g 0, fw "ELSE", .g 1], [fw "ON", fn, fw "GOTO", .g 0, fs ",", .g 1], [fw "GOSUB", .g 0, fs ":", fw "GOTO", .g 1],
   [fw "RESTORE", .g 0, fs ":", fw "RUN", .g 1], [fw "PRINT", .g 0, fs ",", .g 1], [fw "GOTO", .g 0, fs "+", .g 1], [fw "IF", fn, fw "GOTO", .g 0, fw "ELSE", fw "PRINT", .g 1]]
def formT (f : Nat) : List Fi := formsT[f]?.getD []
theorem forms_eq : formsT.map (fun l => l.map Fi.d) = formsD := rfl
theorem form_eq (f : Nat) : formsD[f]?.getD [] = (formT f).map Fi.d := by
  rw [← forms_eq]
  unfold formT
  rw [List.getElem?_map]
  cases formsT[f]? <;> rfl
def leadsB (f k : Nat) : Bool := decide (f < 5) || (decide (f = 7) && decide (k = 0))
def goalNum (l : Bool) (x : Int) (ns : List Int) : Int := if x.fmod 2 == 1 then x else if l then ns[(x.fdiv 2).toNat]?.getD 0 else 10 + x.fdiv 2 * 2
def fiTk (f : Nat) (gs ns : List Int) : Fi → Tk
  | .t x => x
  | .g k => .n (goalNum (leadsB f k) (gs[k]?.getD 0) ns)
def rowT (f : Nat) (gs ns : List Int) : List Tk := (formT f).map (fiTk f gs ns)
def goodGoals (n : Nat) (gs : List Int) : Prop := gs.length = 2 ∧ ∀ x ∈ gs, x = 2001 ∨ ∃ i : Nat, i < n ∧ x = 2 * (i : Int)
def Fi.ok : Fi → Bool
  | .t x => x.ok
  | .g k => decide (k < 2)
theorem form_ok : ∀ l ∈ formsT, ∀ x ∈ l, x.ok = true := by decide +kernel
theorem form_len : ∀ l ∈ formsT, l.length ≤ 7 := by decide +kernel

theorem formT_mem {f : Nat} {x : Fi} (h : x ∈ formT f) : x.ok = true := by
  unfold formT at h
  cases e : formsT[f]? with
  | none => rw [e] at h; exact nomatch h
  | some l => rw [e] at h; exact form_ok l (List.mem_of_getElem? e) x h
theorem formT_len (f : Nat) : (formT f).length ≤ 7 := by
  unfold formT
  cases e : formsT[f]? with
  | none => exact Nat.zero_le _
  | some l => exact form_len l (List.mem_of_getElem? e)
theorem fi_lay {x : Fi} (h : x.ok = true) : x.d.canLay0 = true := by
  cases x with
  | t x => exact tok_lay x h
  | g k => rfl
section
variable {w : World} {A : Around} {g : Heap} {m : Loc} {hot : Hot} {env : Env} {pos : Pos} {R : Flow → Heap → Loc → Hot → Prop} {rest : List Stmt}
theorem eCont (r : ∀ g0, Le g g0 → R .cont g0 m hot) : Em w A env.locals g m hot (execs (.Continue pos :: rest) env) R := fun o hn s Q E g0 l H hQ =>
  wpAny_execs_cons (wpAny_Continue (hQ .cont g0 m hot o s.heap s.toks (Le.rf _) hn H (r g0 l)))
end
theorem rowT_len (f : Nat) (gs ns : List Int) : (rowT f gs ns).length ≤ 7 := by unfold rowT; rw [List.length_map]; exact formT_len f
theorem rowT_ok {f : Nat} {gs ns : List Int} : ∀ t ∈ rowT f gs ns, t.ok = true := fun t ht => by
  obtain ⟨x, hx, rfl⟩ := List.mem_map.mp ht
  have := formT_mem hx
  cases x with
  | t x => exact this
  | g k => rfl

set_option maxHeartbeats 4000000 in
theorem c_row {w : World} {A : Around} {g : Heap} {hot : Hot} {fv : Value} {f : Nat} {ga na : Addr} {gv nv : List Value} {gn nn : Nat} {gs ns : List Int} (hh : A.handled = none) (hd : A.depth < 880) (hu : A.units + 200 < cLine) (W : Wd w g) (hf : IsI f fv) (hf8 : f < 8) (hg : g.get? ga = some (listO gv gn)) (hgi : IntsV gv gs)
    (hn : g.get? na = some (listO nv nn)) (hni : IntsV nv ns) (hgg : goodGoals ns.length gs) (hz : ns.length ≤ 8) :
    Cn w A g hot (call (.ref 130) [fv, .ref ga, .ref na]) fun g1 v => ∃ a vs n, v = .ref a ∧ g1.get? a = some (listO vs n) ∧ RdAll g1 vs ((rowT f gs ns).map Tk.d) := by
  refine enter W rfl rfl rfl rfl rfl (rlt hd) (fun L => ?_) (by decide) (locs rfl)
  refine eAsg2sH (x := "found") (y := "at") (fun _ new a b => ∃ D, a = .ref D ∧ new = [(D, listO [] 0)]) hh (fun o ho => ?_) fun gA new a b lA r1 => ?_
  · exact (tup2H (R2 := fun _ b => IsI 0 b) chNil (fun g1 new l1 => cI)).imp fun g1 new v l1 ⟨t, a, b, n, e, e2, ⟨D, e3, e4⟩, e5⟩ => ⟨t, a, b, n, e, e2, D, e3, e4⟩
  obtain ⟨D, rfl, rfl⟩ := r1
  refine eForX (x := "one") (n := (formT f).length) [] (reads ((formT f).map Fi.d)) (fun i g1 m1 hot1 => ∃ nD vs, hot1 = (D, listO vs nD) :: hot ∧ m1 "found" = some (.ref D) ∧ m1 "form" = some fv ∧ m1 "goals" = some (.ref ga) ∧ m1 "numbers" = some (.ref na) ∧ RdAll g1 vs (((formT f).take i).map fun x => (fiTk f gs ns x).d))
    (fun o ho => itXL hh (by simp) ?_) (fun g1 l1 => ⟨0, [], rfl, rfl, rfl, rfl, rfl, .nil⟩) (fun _ _ _ _ _ p hp => nomatch hp) ?_ ?_
  · refine calldef (f := 123) (W.up lA) rfl rfl rfl (arg1 (nV (.head _) ho rfl)) fun g1 us l1 r => ?_
    obtain ⟨a, rfl, rfl⟩ := r
    rw [← form_eq]
    exact c_form hh (show A.depth + 1 < 890 from dlt hd (by decide)) (W.up (lA.tr l1)) hf hf8
  · rintro gI P i g1 m1 hot1 v its lI hS l1 hi ⟨nD, vs, rfl, e1, e2, e3, e4, e5⟩ hP
    obtain ⟨x, hx⟩ : ∃ x, (formT f)[i]? = some x := ⟨(formT f)[i], List.getElem?_eq_getElem hi⟩
    have hxo := formT_mem (List.mem_of_getElem? hx)
    have hxr : Rd gI v x.d := hS i v _ hP (by simp [hx])
    have lX := lA.tr (lI.tr l1)
    have hxr1 := hxr.mono l1
    have hvl : vs.length ≤ 100 := by
      have h1 := e5.length
      rw [List.length_map, List.length_take] at h1
      rw [h1]
      exact Nat.le_trans (Nat.min_le_right _ _) (Nat.le_trans (formT_len f) (by decide))
    refine eIf (b := !([PyData.int 0, PyData.int 1].any fun y => PyData.eqv y x.d)) (fun o ho => tCmp (R1 := fun g v => Rd g v x.d) (R2 := fun g v => Rd g v (.tuple [.int 0, .int 1])) (nm (.head _) ho rfl fun g2 l2 => hxr1.mono l2) (fun _ _ _ _ => dTup2 dInt fun _ _ => dInt) fun g2 g3 u v l2 l3 ru rv => (cNotInT rv.h (ru.mono l3).h (by decide +kernel) (fi_lay hxo) (by decide +kernel) (show A.units + 3 + 64 < cLine from ult hu (by decide))).imp fun g4 r _ e => ⟨_, e, rfl⟩) (fun hb g2 l2 => ?_) fun hb g2 l2 => ?_
    · refine eAppend (R1 := fun g u => Rd g u x.d) (fun ob ho => nV (.head _) ho e1) (fun ob ho g3 l3 => nm (.head _) ho rfl fun g4 l4 => hxr1.mono ((l2.tr l3).tr l4)) (Nat.le_trans hvl (by decide)) fun g3 u n' l3 hu => ?_
      refine eCont fun g4 l4 => ⟨.inr rfl, _, rfl, n', _, rfl, e1, e2, e3, e4, ?_⟩
      rw [take_snoc hx, List.map_append]
      refine (e5.mono ((l2.tr l3).tr l4)).snoc ?_
      cases x with
      | t x => exact hu.mono l4
      | g k =>
        have hk : k < 2 := of_decide_eq_true hxo
        rcases lt2 hk with rfl | rfl <;> simp [Fi.d, PyData.eqv] at hb
    · obtain ⟨k, rfl⟩ : ∃ k, x = .g k := by
        cases x with
        | t x => cases x <;> simp [Fi.d, Tk.d, PyData.eqv] at hb
        | g k => exact ⟨k, rfl⟩
      have hk : k < 2 := of_decide_eq_true hxo
      have hki : IsI k v := hxr.int
      have hkl : k < gs.length := by rw [hgg.1]; exact hk
      have hgk : gs[k]? = some gs[k] := List.getElem?_eq_getElem hkl
      obtain ⟨xv, hxv, hxi⟩ := hgi.get hgk
      generalize hxg : gs[k] = xg at *
      have hxg2 := hgg.2 xg (hxg ▸ List.getElem_mem hkl)
      have lX2 := lX.tr l2
      refine eAsg (R1 := fun _ u => u = xv) (fun o ho => subs (nm (R := fun _ u => u = .ref ga) (.head _) ho e3 fun _ _ => rfl) (fun _ _ _ _ => nV (.head _) ho rfl) fun g3 g4 a b l3 l4 ra rb => by
          subst ra rb
          exact iList (HasL.of (((lX2.tr l3).tr l4) _ _ hg)) hki (Int.natCast_nonneg _) (ix62 hk (by decide)) hxv) fun g3 u l3 hu => ?_
      subst hu
      refine eAsg (R1 := fun _ u => u = .bool (leadsB f k)) (fun o ho => vOr (b := decide ((f : Int) < 5)) (cmp (nm (R := fun _ u => u = fv) (.head _) ho e2 fun _ _ => rfl) (fun _ _ _ _ => cI) fun g2 g3 u v l2 l3 ru rv => by subst ru; exact cLt hf rv) (fun hb2 g4 l4 => ?_) fun hb2 g4 l4 => vAnd (b := ((f : Int) == 7)) (cmp (nm (R := fun _ u => u = fv) (.head _) ho e2 fun _ _ => rfl) (fun _ _ _ _ => cI) fun g2 g3 u v l2 l3 ru rv => by subst ru; exact cEq hf rv) (fun hb3 g5 l5 => ?_) fun hb3 g5 l5 => Cn.imp (R := fun _ u => u = .bool ((k : Int) == 0)) (cmp (nV (.head _) ho rfl) (fun _ _ _ _ => cI) fun g2 g3 u v l2 l3 ru rv => by subst ru; exact cEq hki rv) fun g6 u l6 hu => ?_) fun g4 u l4 hu => ?_
      · have h5 : f < 5 := f5 (of_decide_eq_true hb2)
        unfold leadsB; rw [decide_eq_true h5]; rfl
      · have h5 : ¬ f < 5 := f5n (of_decide_eq_false hb2)
        have h7 : ¬ f = 7 := by have := beq_eq_false_iff_ne.mp hb3; omega
        unfold leadsB; rw [decide_eq_false h5, decide_eq_false h7]; rfl
      · have h5 : ¬ f < 5 := f5n (of_decide_eq_false hb2)
        have h7 : f = 7 := by have := beq_iff_eq.mp hb3; omega
        rw [hu]
        unfold leadsB
        rw [decide_eq_false h5, decide_eq_true h7, Bool.false_or, Bool.true_and]
        rcases lt2 hk with rfl | rfl <;> rfl
      subst hu
      have l24 := (l2.tr l3).tr l4
      have lX4 := (lX2.tr l3).tr l4
      refine eAppend (R1 := fun g u => Rd g u (Tk.n (goalNum (leadsB f k) xg ns)).d) (fun ob ho => nm (.head _) ho e1 fun _ _ => rfl) (fun ob ho g5 l5 => dTup2 dStr fun g6 l6 => ?_) (Nat.le_trans hvl (by decide)) fun g5 u n' l5 hu => ?_
      · have lX6 := (lX4.tr l5).tr l6
        refine Cn.imp (R := fun _ u => IsI (goalNum (leadsB f k) xg ns) u) ?_ fun g7 u l7 r => r.rd _
        refine ifexp (b := (xg.fmod 2 == 1)) (tCmp (R1 := fun _ u => IsI (xg.fmod 2) u) (bin (nV (.head _) ho rfl) (fun _ _ _ _ => cI) fun g2 g3 u v l2 l3 ru rv => by subst ru; exact oMod hxi rv (by decide)) (fun _ _ _ _ => cI) fun g2 g3 u v l2 l3 ru rv => (cEq ru rv).imp fun _ _ _ r => ⟨_, r, rfl⟩) (fun hb2 g7 l7 => ?_) fun hb2 g7 l7 => ?_
        · exact nm (.head _) ho rfl fun g8 l8 => by unfold goalNum; rw [if_pos hb2]; exact hxi
        · have hdiv : ∀ {B : Around} {g : Heap} {hot : Hot} {env : Env} {er : Expr} {p1 p2 : Pos} {kk : Nat}, Cn w B g hot (eval er env) (fun _ z => z = u) → Cn w B g hot (eval (.BinOp er .FloorDiv (.Constant (.int 2) kk p1) p2) env) fun _ u => IsI (xg.fdiv 2) u := fun c => bin c (fun _ _ _ _ => cI) fun g2 g3 u v l2 l3 ru rv => by subst ru; exact oDiv hxi rv (by decide) (PyProof.noPylong_small (by decide))
          refine ifexp (b := leadsB f k) (tVal ((nV (.head _) ho rfl).imp fun _ _ _ r => ⟨_, r, rfl⟩)) (fun hb3 g8 l8 => ?_) fun hb3 g8 l8 => ?_
          · obtain ⟨i', hi', rfl⟩ : ∃ i : Nat, i < ns.length ∧ xg = 2 * (i : Int) := by
              rcases hxg2 with rfl | h
              · exact absurd hb2 (by decide)
              · exact h
            have e := fdiv_even i'
            obtain ⟨yv, hyv, hyi⟩ := hni.get (List.getElem?_eq_getElem hi')
            have e2 : goalNum (leadsB f k) (2 * (i' : Int)) ns = ns[i'] := by
              unfold goalNum
              rw [if_neg (by rw [hb2]; decide), if_pos hb3, e]
              simp [hi']
            rw [e2]
            refine subs (nm (R := fun _ u => u = .ref na) (.head _) ho e4 fun _ _ => rfl) (fun _ _ _ _ => hdiv (nV (.head _) ho rfl)) fun g9 g10 a b l9 l10 ra rb => ?_
            subst ra
            rw [e] at rb
            exact (iList (HasL.of ((((lX6.tr l7).tr l8).tr (l9.tr l10)) _ _ hn)) rb (Int.natCast_nonneg _) (ix62 hi' (Nat.le_trans hz (by decide))) hyv).imp fun _ _ _ r => r ▸ hyi
          · have e2 : goalNum (leadsB f k) xg ns = 10 + xg.fdiv 2 * 2 := by
              unfold goalNum
              rw [if_neg (by rw [hb2]; decide), if_neg (by rw [hb3]; decide)]
            rw [e2]
            refine bin cI (fun _ _ _ _ => bin (hdiv (nV (.head _) ho rfl)) (fun _ _ _ _ => cI) fun g2 g3 u v l2 l3 ru rv => oMul ru rv (.of_right (by decide))) fun g2 g3 u v l2 l3 ru rv => oAdd ru rv
      · refine eNil fun g6 l6 => ⟨.inl rfl, _, rfl, n', _, rfl, e1, e2, e3, e4, ?_⟩
        rw [take_snoc hx, List.map_append]
        refine (e5.mono ((l24.tr l5).tr l6)).snoc ?_
        show Rd g6 u (Tk.n (goalNum (leadsB f k) (gs[k]?.getD 0) ns)).d
        rw [hgk]
        exact hu.mono l6
  · rintro g1 m1 hot1 l1 ⟨nD, vs, rfl, e1, e2, e3, e4, e5⟩
    rw [List.take_length] at e5
    refine eFreeze (l1 := []) fun g2 l2 e => ?_
    refine eRet (fun o ho => nV (.head _) ho e1) fun g3 v l3 r => ⟨[], rfl, D, vs, nD, r, l3 _ _ e, ?_⟩
    unfold rowT
    rw [List.map_map]
    exact e5.mono (l2.tr l3)
end Mine

/-! C13 -/
open PySem PySem.W PyProof.Rows PySem.Spec PySem.Calls
set_option maxRecDepth 100000
set_option linter.unusedVariables false
namespace Mine

structure GoalsV (g : Heap) (gv : List Value) (goals : List (List Int)) : Prop where
  len : gv.length = goals.length
  at' : ∀ (i : Nat) v gs, gv[i]? = some v → goals[i]? = some gs → ∃ a us n, v = .ref a ∧ g.get? a = some (listO us n) ∧ IntsV us gs
theorem GoalsV.up {g g' : Heap} {gv : List Value} {goals : List (List Int)} (h : GoalsV g gv goals) (l : Le g g') : GoalsV g' gv goals := ⟨h.len, fun i v gs h1 h2 => by
  obtain ⟨a, us, n, e1, e2, e3⟩ := h.at' i v gs h1 h2
  exact ⟨a, us, n, e1, l _ _ e2, e3⟩⟩
def isOdd (f : Nat) (gs : List Int) (k : Nat) : Bool := (gs[k]?.getD 0).fmod 2 == 1 && leadsB f k
def lfRow (f : Nat) (gs : List Int) (n : Int) (k : Nat) : List (Int × Int) := ((List.range k).filter (isOdd f gs)).map fun k => (n, gs[k]?.getD 0)
def ones (f : Nat) : Nat := if f = 0 then 1 else 2
def lwTo (forms : List Nat) (goals : List (List Int)) (ns : List Int) : Nat → List (Int × Int)
  | 0 => []
  | i + 1 => lwTo forms goals ns i ++ (match forms[i]?, goals[i]?, ns[i]? with | some f, some gs, some n => lfRow f gs n (ones f) | _, _, _ => [])
theorem lfRow_len (f : Nat) (gs : List Int) (n : Int) (k : Nat) : (lfRow f gs n k).length ≤ k := by
  unfold lfRow
  rw [List.length_map]
  exact Nat.le_trans (List.length_filter_le _ _) (by simp)
theorem ones_le (f : Nat) : ones f ≤ 2 := by unfold ones; split <;> omega
theorem lwTo_len (forms : List Nat) (goals : List (List Int)) (ns : List Int) : ∀ i, (lwTo forms goals ns i).length ≤ 2 * i
  | 0 => Nat.le_refl _
  | i + 1 => by
    have ih := lwTo_len forms goals ns i
    unfold lwTo
    rw [List.length_append]
    have : (match forms[i]?, goals[i]?, ns[i]? with | some f, some gs, some n => lfRow f gs n (ones f) | _, _, _ => []).length ≤ 2 := by
      split
      · rename_i f gs n _ _ _
        exact Nat.le_trans (lfRow_len f gs n _) (ones_le f)
      · exact Nat.zero_le _
    omega

/-- goals[at][one] -/
theorem goalAt {w : World} {A : Around} {g : Heap} {hot : Hot} {env : Env} {e1 e2 e3 : Expr} {p1 p2 : Pos} {ga : Addr} {gv : List Value} {gn : Nat} {goals : List (List Int)} {gs : List Int} {i k : Nat} {iv kv : Value} {x : Int} (hg : g.get? ga = some (listO gv gn)) (hgv : GoalsV g gv goals) (hi : goals[i]? = some gs) (hx : gs[k]? = some x) (hz : gs.length ≤ 8) (hz2 : goals.length ≤ 8) (hii : IsI i iv) (hki : IsI k kv)
    (c1 : Cn w A g hot (eval e1 env) fun _ v => v = .ref ga) (c2 : ∀ g1, Le g g1 → Cn w A g1 hot (eval e2 env) fun _ v => v = iv) (c3 : ∀ g1, Le g g1 → Cn w A g1 hot (eval e3 env) fun _ v => v = kv)
    (hs2 : ∀ a u, subscripted e2 false (.ref a) (.int i u) = operate [.ref a, .int i u] (getItem (.ref a) (.int i u)) := by intro _ _; with_unfolding_all rfl)
    (hs3 : ∀ a u, subscripted e3 false (.ref a) (.int k u) = operate [.ref a, .int k u] (getItem (.ref a) (.int k u)) := by intro _ _; with_unfolding_all rfl) :
    Cn w A g hot (eval (.Subscript (.Subscript e1 e2 p1) e3 p2) env) fun _ v => IsI x v := by
  have hil : i < goals.length := (List.getElem?_eq_some_iff.mp hi).1
  obtain ⟨v, hv⟩ : ∃ v, gv[i]? = some v := ⟨gv[i]'(by rw [hgv.len]; exact hil), List.getElem?_eq_getElem (by rw [hgv.len]; exact hil)⟩
  obtain ⟨a, us, n, rfl, ea, hus⟩ := hgv.at' i v gs hv hi
  obtain ⟨xv, hxv, hxi⟩ := hus.get hx
  have hkl : k < gs.length := (List.getElem?_eq_some_iff.mp hx).1
  refine subs (R1 := fun _ v => v = .ref a) (subs c1 (fun g1 _ l1 _ => c2 g1 l1) fun g1 g2 u v l1 l2 ru rv => ?_) (fun g1 _ l1 _ => c3 g1 l1) fun g1 g2 u v l1 l2 ru rv => ?_
  · subst ru rv
    exact iList (HasL.of ((l1.tr l2) _ _ hg)) hii (Int.natCast_nonneg _) (ix62 hil (Nat.le_trans hz2 (by decide))) hv (hs2 ga)
  · subst ru rv
    exact (iList (HasL.of ((l1.tr l2) _ _ ea)) hki (Int.natCast_nonneg _) (ix62 hkl (Nat.le_trans hz (by decide))) hxv (hs3 a)).imp fun _ _ _ r => r ▸ hxi

set_option maxHeartbeats 4000000 in
theorem c_lawlost {w : World} {A : Around} {g : Heap} {hot : Hot} {fa ga na : Addr} {fv gv nv : List Value} {fn gn nn : Nat} {forms : List Nat} {goals : List (List Int)} {ns : List Int} (hh : A.handled = none) (hd : A.depth < 880) (W : Wd w g) (hf : g.get? fa = some (listO fv fn)) (hfi : IntsV fv (natI forms)) (hg : g.get? ga = some (listO gv gn)) (hgv : GoalsV g gv goals)
    (hn : g.get? na = some (listO nv nn)) (hni : IntsV nv ns) (hgg : ∀ gs ∈ goals, gs.length = 2) (hz : forms.length ≤ 8) (hlg : goals.length = forms.length) (hln : ns.length = forms.length) :
    Cn w A g hot (call (.ref 137) [.ref fa, .ref ga, .ref na]) fun g1 v => ∃ a vs n, v = .ref a ∧ g1.get? a = some (listO vs n) ∧ RdAll g1 vs ((lwTo forms goals ns forms.length).map prD) := by
  refine enter W rfl rfl rfl rfl rfl (rlt hd) (fun L => ?_) (by decide) (locs rfl)
  have hfl : fv.length = forms.length := by have := hfi.1; simpa [natI] using this
  refine eAsgH (x := "found") (R1 := fun _ new v => ∃ D, v = .ref D ∧ new = [(D, listO [] 0)]) (fun o ho => chNil) fun gA new v lA r1 => ?_
  obtain ⟨D, rfl, rfl⟩ := r1
  refine eForT (x := "at") (y := "form") (n := fv.length) (P := fun i x y => IsI i x ∧ fv[i]? = some y) hh [] (fun i g1 m1 hot1 => ∃ nD vs, hot1 = (D, listO vs nD) :: hot ∧ m1 "found" = some (.ref D) ∧ m1 "goals" = some (.ref ga) ∧ m1 "numbers" = some (.ref na) ∧ RdAll g1 vs ((lwTo forms goals ns i).map prD))
    (fun o ho => itEnum [] hh (W.up lA) rfl rfl (nV (.head _) ho rfl) (Or.inr (lA _ _ hf)) (Or.inr ⟨_, lA _ _ hf⟩)) (fun g1 l1 => ⟨0, [], rfl, rfl, rfl, rfl, .nil⟩) (fun _ _ _ _ _ p hp => nomatch hp) ?_ ?_
  · rintro i g1 m1 hot1 a b its l1 hi ⟨nD, vs, rfl, e1, e2, e3, e4⟩ ⟨ha, hb⟩
    have hil : i < forms.length := hfl ▸ hi
    obtain ⟨f, hfx⟩ : ∃ f, forms[i]? = some f := ⟨_, List.getElem?_eq_getElem hil⟩
    obtain ⟨gs, hgx⟩ : ∃ gs, goals[i]? = some gs := ⟨_, List.getElem?_eq_getElem (hlg.symm ▸ hil : i < goals.length)⟩
    obtain ⟨n, hnx⟩ : ∃ n, ns[i]? = some n := ⟨_, List.getElem?_eq_getElem (hln.symm ▸ hil : i < ns.length)⟩
    have hg2 := hgg gs (List.mem_of_getElem? hgx)
    have hbi : IsI f b := hfi.2 i b f hb (by simp [natI, hfx])
    obtain ⟨xn, hxn, hxni⟩ := hni.get hnx
    have lA1 := lA.tr l1
    have hst : lwTo forms goals ns (i + 1) = lwTo forms goals ns i ++ lfRow f gs n (ones f) := by
      conv => lhs; unfold lwTo
      rw [hfx, hgx, hnx]
    refine eFor (x := "one") (n := ones f) (P := fun k v => IsI k v) [] (fun k g2 m2 hot2 => ∃ nD vs, hot2 = its ++ (D, listO vs nD) :: hot ∧ m2 "found" = some (.ref D) ∧ m2 "goals" = some (.ref ga) ∧ m2 "numbers" = some (.ref na) ∧ m2 "at" = some a ∧ m2 "form" = some b ∧ RdAll g2 vs ((lwTo forms goals ns i ++ lfRow f gs n k).map prD))
      (fun o ho => itRange hh (W.up lA1) (Nat.lt_of_le_of_lt (ones_le f) (by decide)) rfl rfl ?_) (fun g2 l2 => ⟨nD, vs, rfl, e1, e2, e3, rfl, rfl, by simpa [lfRow] using e4.mono l2⟩) (fun _ _ _ _ _ p hp => nomatch hp) ?_ ?_
    · refine ifexp (b := decide ((f : Int) > 0)) (tCmp (nV (.head _) ho rfl) (fun _ _ _ _ => cI) fun g2 g3 u v l2 l3 ru rv => by subst ru; exact (cGt hbi rv).imp fun _ _ _ r => ⟨_, r, rfl⟩) (fun hb2 g2 l2 => ?_) fun hb2 g2 l2 => ?_
      · have : ones f = 2 := by have h := of_decide_eq_true hb2; unfold ones; rw [if_neg (fun q => by rw [q] at h; exact absurd h (by decide))]
        rw [this]; exact cI
      · have : ones f = 1 := by have h := of_decide_eq_false hb2; unfold ones; rw [if_pos (Nat.eq_zero_of_not_pos fun z => h (Int.natCast_pos.mpr z))]
        rw [this]; exact cI
    · rintro k g2 m2 hot2 v its2 l2 hk ⟨nD', vs', rfl, d1, d2, d3, d4, d5, d6⟩ hv
      have hk2 : k < 2 := Nat.lt_of_lt_of_le hk (ones_le f)
      have hkl : k < gs.length := hg2.symm ▸ hk2
      have hx : gs[k]? = some gs[k] := List.getElem?_eq_getElem hkl
      generalize hxg : gs[k] = x at *
      have lA2 := lA1.tr l2
      have hvl : vs'.length ≤ 100 := by
        have h1 := d6.length
        have h2 := lwTo_len forms goals ns i
        have h3 := lfRow_len f gs n k
        rw [List.length_map, List.length_append] at h1
        omega
      have heq : ((x.fmod 2 == 1) && ((decide ((f : Int) < 5) || ((((f : Int) == 7) && (((k : Int) == 0) && true)) || false)) && true)) = isOdd f gs k := by
        unfold isOdd leadsB
        rw [hx, Bool.and_true, Bool.and_true, Bool.or_false]
        have a1 : decide ((f : Int) < 5) = decide (f < 5) := decide_eq_decide.mpr (by omega)
        have a2 : ((f : Int) == 7) = decide (f = 7) := by rw [Bool.eq_iff_iff]; simp; omega
        have a3 : ((k : Int) == 0) = decide (k = 0) := by rw [Bool.eq_iff_iff]; simp
        rw [a1, a2, a3]; rfl
      have hst2 : lfRow f gs n (k + 1) = lfRow f gs n k ++ (if isOdd f gs k then [(n, x)] else []) := by
        unfold lfRow
        rw [List.range_succ, List.filter_append, List.map_append]
        congr 1
        simp only [List.filter_cons, List.filter_nil]
        split
        · simp [hx]
        · rfl
      refine eIf (b := (x.fmod 2 == 1) && ((decide ((f : Int) < 5) || ((((f : Int) == 7) && (((k : Int) == 0) && true)) || false)) && true)) (fun o ho => tBool (tAnd (tCmp (R1 := fun _ u => IsI (x.fmod 2) u) (bin (goalAt (lA2 _ _ hg) (hgv.up lA2) hgx hx (hg2.symm ▸ (by decide : 2 ≤ 8)) (hlg.symm ▸ hz) ha hv (nm (R := fun _ u => u = .ref ga) (.head _) ho d2 fun _ _ => rfl) (fun _ _ => nm (R := fun _ u => u = a) (.head _) ho d4 fun _ _ => rfl) fun _ _ => nV (.head _) ho rfl) (fun _ _ _ _ => cI) fun g2 g3 u v l2 l3 ru rv => oMod ru rv (by decide)) (fun _ _ _ _ => cI) fun g2 g3 u v l2 l3 ru rv => (cEq ru rv).imp fun _ _ _ r => ⟨_, r, rfl⟩)
        fun hb3 g3 l3 => tAnd (tBool (tOr (tCmp (nm (R := fun _ u => u = b) (.head _) ho d5 fun _ _ => rfl) (fun _ _ _ _ => cI) fun g2 g3 u v l2 l3 ru rv => by subst ru; exact (cLt hbi rv).imp fun _ _ _ r => ⟨_, r, rfl⟩) fun hb4 g4 l4 => tOr (tBool (tAnd (tCmp (nm (R := fun _ u => u = b) (.head _) ho d5 fun _ _ => rfl) (fun _ _ _ _ => cI) fun g2 g3 u v l2 l3 ru rv => by subst ru; exact (cEq hbi rv).imp fun _ _ _ r => ⟨_, r, rfl⟩) fun hb5 g5 l5 => tAnd (tCmp (nV (.head _) ho rfl) (fun _ _ _ _ => cI) fun g2 g3 u v' l2 l3 ru rv => by subst ru; exact (cEq hv rv).imp fun _ _ _ r => ⟨_, r, rfl⟩) fun _ _ _ => tAnd0)) fun _ _ _ => tOr0)) fun _ _ _ => tAnd0)) (fun hb3 g3 l3 => ?_) fun hb3 g3 l3 => ?_
      · rw [heq] at hb3
        have sh : its2 ++ (its ++ (D, listO vs' nD') :: hot) = (its2 ++ its) ++ (D, listO vs' nD') :: hot := by simp
        rw [sh]
        refine eAppend (R1 := fun g u => Rd g u (prD (n, x))) (fun ob ho => nm (.head _) ho d1 fun _ _ => rfl) (fun ob ho g4 l4 => dTup2 (d := .int n) (d2 := .int x) (Cn.imp (R := fun _ u => IsI n u) (subs (nm (R := fun _ u => u = .ref na) (.head _) ho d3 fun _ _ => rfl) (fun _ _ _ _ => nm (R := fun _ u => u = a) (.head _) ho d4 fun _ _ => rfl) fun g5 g6 u v l5 l6 ru rv => by
            subst ru rv
            exact (iList (HasL.of ((((lA2.tr l3).tr l4).tr (l5.tr l6)) _ _ hn)) ha (Int.natCast_nonneg _) (ix62 hil (Nat.le_trans hz (by decide))) hxn).imp fun _ _ _ r => r ▸ hxni) fun g5 u l5 r => r.rd _) fun g5 l5 => Cn.imp (R := fun _ u => IsI x u) (goalAt ((((lA2.tr l3).tr l4).tr l5) _ _ hg) (hgv.up (((lA2.tr l3).tr l4).tr l5)) hgx hx (hg2.symm ▸ (by decide : 2 ≤ 8)) (hlg.symm ▸ hz) ha hv (nm (R := fun _ u => u = .ref ga) (.head _) ho d2 fun _ _ => rfl) (fun _ _ => nm (R := fun _ u => u = a) (.head _) ho d4 fun _ _ => rfl) fun _ _ => nV (.head _) ho rfl) fun g6 u l6 r => r.rd _) (Nat.le_trans hvl (by decide)) fun g4 u n' l4 hu => ?_
        refine eNil fun g5 l5 => ⟨.inl rfl, its ++ (D, listO (vs' ++ [u]) n') :: hot, by simp, n', _, rfl, d1, d2, d3, d4, d5, ?_⟩
        rw [hst2, if_pos hb3, ← List.append_assoc, List.map_append]
        exact (d6.mono ((l3.tr l4).tr l5)).snoc (hu.mono l5)
      · rw [heq] at hb3
        refine eNil fun g5 l5 => ⟨.inl rfl, its ++ (D, listO vs' nD') :: hot, rfl, nD', _, rfl, d1, d2, d3, d4, d5, ?_⟩
        rw [hst2, if_neg (by rw [hb3]; decide), List.append_nil]
        exact d6.mono (l3.tr l5)
    · rintro g2 m2 hot2 l2 ⟨nD', vs', rfl, d1, d2, d3, d4, d5, d6⟩
      exact eNil fun g3 l3 => ⟨.inl rfl, _, rfl, nD', vs', rfl, d1, d2, d3, hst ▸ d6.mono l3⟩
  · rintro g1 m1 hot1 l1 ⟨nD, vs, rfl, e1, e2, e3, e4⟩
    rw [hfl] at e4
    refine eFreeze (l1 := []) fun g2 l2 e => ?_
    exact eRet (fun o ho => nV (.head _) ho e1) fun g3 v l3 r => ⟨[], rfl, D, vs, nD, r, l3 _ _ e, e4.mono (l2.tr l3)⟩
end Mine

/-! C14 -/
open PySem PySem.W PyProof.Rows PySem.Spec PySem.Calls
set_option maxRecDepth 100000
set_option linter.unusedVariables false
namespace Mine

theorem RdH.ofP {g : Heap} {hot : Hot} {a : Addr} {vs : List Value} {n : Nat} {ds : List PyData} (h : HasP g hot a vs n) (r : RdAll g vs ds) : RdH g hot (.ref a) (.list ds) := by
  rcases h with h | h
  · exact RdH.ofHot h r
  · exact (Rd.ofList ⟨_, h, rfl, n, rfl⟩ r).h
theorem lay_intsZ (f : List Int) : PyData.canLayAll0 (f.map PyData.int) = true := by
  induction f with
  | nil => rfl
  | cons a r ih => simpa [PyData.canLayAll0, PyData.canLay0] using ih
theorem depth_intsZ (f : List Int) : PyData.depthAll (f.map PyData.int) ≤ 1 := by
  induction f with
  | nil => exact Nat.zero_le _
  | cons a r ih => simp only [List.map_cons, PyData.depthAll, PyData.depth]; omega
theorem shaped_intsZ (f : List Int) : SeqAt.shaped (.list (f.map PyData.int)) = true := by
  have := depth_intsZ f
  have h2 : (PyData.list (f.map PyData.int)).depth ≤ 64 := by simp only [PyData.depth]; omega
  simp only [SeqAt.shaped, PyData.canLay0, lay_intsZ f, Bool.true_and]
  exact decide_eq_true h2
theorem depth_tok (t : Tk) : t.d.depth ≤ 3 := by cases t <;> simp [Tk.d, PyData.depth, PyData.depthAll]
def rowD (ts : List Tk) : PyData := .list (ts.map Tk.d)
theorem lay_toks : ∀ (ts : List Tk), (∀ t ∈ ts, t.ok = true) → PyData.canLayAll0 (ts.map Tk.d) = true ∧ PyData.depthAll (ts.map Tk.d) ≤ 3
  | [], _ => ⟨rfl, by simp [PyData.depthAll]⟩
  | t :: ts, h => by
    have ih := lay_toks ts fun x hx => h x (.tail _ hx)
    have h1 := tok_lay t (h t (.head _))
    have h2 := depth_tok t
    refine ⟨by simp [PyData.canLayAll0, h1, ih.1], ?_⟩
    simp only [List.map_cons, PyData.depthAll]
    omega
theorem lay_rows : ∀ (rows : List (List Tk)), (∀ ts ∈ rows, ∀ t ∈ ts, t.ok = true) → PyData.canLayAll0 (rows.map rowD) = true ∧ PyData.depthAll (rows.map rowD) ≤ 4
  | [], _ => ⟨rfl, by simp [PyData.depthAll]⟩
  | ts :: rows, h => by
    have ih := lay_rows rows fun x hx => h x (.tail _ hx)
    have h1 := lay_toks ts (h ts (.head _))
    refine ⟨by simp [PyData.canLayAll0, rowD, PyData.canLay0, h1.1, ih.1], ?_⟩
    simp only [List.map_cons, PyData.depthAll, rowD, PyData.depth]
    have := h1.2
    have := ih.2
    unfold rowD at this
    omega
theorem shaped_rows (rows : List (List Tk)) (h : ∀ ts ∈ rows, ∀ t ∈ ts, t.ok = true) : SeqAt.shaped (.list (rows.map rowD)) = true := by
  have := lay_rows rows h
  have h2 : (PyData.list (rows.map rowD)).depth ≤ 64 := by simp only [PyData.depth]; omega
  simp only [SeqAt.shaped, PyData.canLay0, this.1, Bool.true_and]
  exact decide_eq_true h2
theorem RowsV.rdAll {g : Heap} {vs : List Value} {rows : List (List Tk)} (h : RowsV g vs rows) : RdAll g vs (rows.map rowD) := by
  induction rows generalizing vs with
  | nil =>
    have : vs = [] := List.length_eq_zero_iff.mp (by simpa using h.len)
    subst this; exact .nil
  | cons ts rows ih =>
    cases vs with
    | nil => have := h.len; simp at this
    | cons v vs =>
      obtain ⟨a, us, n, rfl, e, r⟩ := h.at' 0 v ts rfl rfl
      exact .cons (Rd.ofList ⟨_, e, rfl, n, rfl⟩ r) (ih ⟨by simpa using h.len, fun i v ts h1 h2 => h.at' (i + 1) v ts (by simpa using h1) (by simpa using h2)⟩)
def rowsOf (forms : List Nat) (goals : List (List Int)) (ns : List Int) : Nat → List (List Tk)
  | 0 => []
  | i + 1 => rowsOf forms goals ns i ++ (match forms[i]?, goals[i]? with | some f, some gs => [rowT f gs ns] | _, _ => [])
theorem rowsOf_ok (forms : List Nat) (goals : List (List Int)) (ns : List Int) : ∀ i, ∀ ts ∈ rowsOf forms goals ns i, ts.length < 100 ∧ ∀ t ∈ ts, t.ok = true
  | 0 => fun ts h => nomatch h
  | i + 1 => fun ts h => by
    unfold rowsOf at h
    rcases List.mem_append.mp h with h | h
    · exact rowsOf_ok forms goals ns i ts h
    · split at h
      · rename_i f gs _ _
        rw [List.mem_singleton.mp h]
        exact ⟨Nat.lt_of_le_of_lt (rowT_len f gs ns) (by decide), rowT_ok⟩
      · exact nomatch h

set_option maxHeartbeats 4000000 in
theorem c_same {w : World} {A : Around} {g : Heap} {hot : Hot} (p : Pg) {fa ga na : Addr} {fv gv nv : List Value} {fn gn nn : Nat} {forms : List Nat} {goals : List (List Int)} {ns : List Int} (hh : A.handled = none) (hd : A.depth < 870) (hu : A.units + 300 < cLine) (P : PgIn p w g hot) (W : Wd w g) (hf : g.get? fa = some (listO fv fn)) (hfi : IntsV fv (natI forms)) (hf8 : ∀ f ∈ forms, f < 8)
    (hg : g.get? ga = some (listO gv gn)) (hgv : GoalsV g gv goals) (hn : g.get? na = some (listO nv nn)) (hni : IntsV nv ns) (hgg : ∀ gs ∈ goals, goodGoals ns.length gs) (hz : forms.length ≤ 8) (hlg : goals.length = forms.length) (hln : ns.length = forms.length)
    (hpn : IntsV p.nv ns) (hpr : RowsV g p.rv (rowsOf forms goals ns forms.length)) :
    Cn w A g hot (call (.ref 142) [.ref p.pa, .ref fa, .ref ga, .ref na]) fun _ v => v = .bool true := by
  refine enterC W rfl rfl rfl rfl rfl (rlt hd) (fun L cells hc => ?_) rfl (by decide +kernel) rfl
  obtain ⟨on, og, rfl, hon, hog⟩ := hc.two
  have hfl : fv.length = forms.length := by have := hfi.1; simpa [natI] using this
  refine eAsgC (x := "rows") (n := fv.length) (B := fun i m => ∃ a b, (IsI i a ∧ fv[i]? = some b) ∧ m "at" = some a ∧ m "form" = some b) (keep := []) (cl := [("numbers", L + 2), ("goals", L + 1)]) (fun o ho => Src.pair hh (itEnum [] hh W rfl rfl (nV (.head _) ho rfl) (Or.inr hf) (Or.inr ⟨_, hf⟩)) (by decide)) (fun _ hq => nomatch hq) (fun C => ⟨rfl, rfl, rfl⟩)
    (fun i g ys => RowsV g ys (rowsOf forms goals ns i)) (fun _ => true) (by omega) (fun _ _ => RowsV.nil) (fun _ _ _ _ l h => h.up l) (fun _ _ _ _ _ _ _ _ _ _ => tests0) ?_ (fun _ _ _ h => nomatch h) (fun gA ra ys nr lA era hra => ?_) rfl (by decide) rfl (by decide)
  · rintro i C oC mC ext g3 ys l3 hil ⟨a, b, ⟨ha, hb⟩, hma, hmb⟩ _ hoC hA
    have hil' : i < forms.length := by omega
    obtain ⟨f, hfx⟩ : ∃ f, forms[i]? = some f := ⟨_, List.getElem?_eq_getElem hil'⟩
    obtain ⟨gs, hgx⟩ : ∃ gs, goals[i]? = some gs := ⟨_, List.getElem?_eq_getElem (by omega : i < goals.length)⟩
    have hbi : IsI f b := hfi.2 i b f hb (by simp [natI, hfx])
    have hig : i < goals.length := by omega
    obtain ⟨v, hv⟩ : ∃ v, gv[i]? = some v := ⟨gv[i]'(by rw [hgv.len]; exact hig), List.getElem?_eq_getElem (by rw [hgv.len]; exact hig)⟩
    obtain ⟨gsa, us, gsn, rfl, ea, hus⟩ := hgv.at' i v gs hv hgx
    refine Cn.imp (R := fun g v => ∃ a vs n, v = .ref a ∧ g.get? a = some (listO vs n) ∧ RdAll g vs ((rowT f gs ns).map Tk.d)) ?_ fun g4 v l4 ⟨a, us, n, e, e2, e3⟩ => ?_
    · refine calldef (f := 130) (W.up l3) rfl rfl rfl (arg3 (R2 := fun _ v => v = .ref gsa) (nV (.head _) hoC hmb) (fun g4 l4 => subs (nmc (c := L + 1) (R := fun _ v => v = .ref ga) rfl (by first | exact mem1 | exact mem2 | exact mem3 | exact mem4 | exact memB mem0 | exact memB mem1 | exact memB mem2 | exact memB mem3 | exact memB mem4 | simp) hog fun _ _ => rfl) (fun _ _ _ _ => nV (.head _) hoC hma) fun g5 g6 u v l5 l6 ru rv => by
          subst ru rv
          exact iList (HasL.of (((l3.tr l4).tr (l5.tr l6)) _ _ hg)) ha (by omega) (by omega) (by simpa using hv)) fun g4 l4 => nmc (c := L + 2) (R := fun _ v => v = .ref na) rfl (by first | exact mem1 | exact mem2 | exact mem3 | exact mem4 | exact memB mem0 | exact memB mem1 | exact memB mem2 | exact memB mem3 | exact memB mem4 | simp) hon fun _ _ => rfl) fun g4 vs l4 r => ?_
      obtain ⟨x, y, z, rfl, rfl, rfl, rfl⟩ := r
      exact c_row hh (show A.depth + 1 < 880 from dlt hd (by decide)) (show A.units + 3 + 200 < cLine from ult hu (by decide)) (W.up (l3.tr l4)) hbi (hf8 f (List.mem_of_getElem? hfx)) ((l3.tr l4) _ _ ea) hus ((l3.tr l4) _ _ hn) hni (hgg gs (List.mem_of_getElem? hgx)) (by omega)
    · subst e
      have e : rowsOf forms goals ns (i + 1) = rowsOf forms goals ns i ++ [rowT f gs ns] := by
        conv => lhs; unfold rowsOf
        rw [hfx, hgx]
      rw [e]
      exact (hA.up l4).snoc e2 e3
  rw [hfl] at hra
  have hrk := fun ts h => (rowsOf_ok forms goals ns forms.length ts h).2
  have mem : ∀ (o : Obj), ∀ q ∈ hot, q ∈ (L, o) :: (L + 2, on) :: (L + 1, og) :: hot := fun o q hq => .tail _ (.tail _ (.tail _ hq))
  refine eRet (R1 := fun _ v => v = .bool true) (fun o ho => vAnd (b := true) (cmp (attrNm (nm (R := fun _ v => v = .ref p.pa) (.head _) ho rfl fun _ _ => rfl) fun g2 v l2 r2 => by subst r2; exact getNumbers (W.up (lA.tr l2)) (mem _ _ P.i) (mem _ _ P.d)) (fun g2 _ l2 _ => nmc (c := L + 2) (R := fun _ v => v = .ref na) rfl (by first | exact mem1 | exact mem2 | exact mem3 | exact mem4 | exact memB mem0 | exact memB mem1 | exact memB mem2 | exact memB mem3 | exact memB mem4 | simp) hon fun _ _ => rfl) fun g2 g3 u v l2 l3 ru rv => by
      subst ru rv
      refine Cn.imp (cEqD (RdH.ofP (P.to (lA.tr (l2.tr l3)) (mem o)).n (hpn.rdAll _)) (RdH.ofP (Or.inr ((lA.tr (l2.tr l3)) _ _ hn)) (hni.rdAll _)) (shaped_intsZ ns) (shaped_intsZ ns) (show A.units + 3 + 64 < cLine from ult hu (by decide))) fun g4 r l4 e => ?_
      rw [e, PySem.SeqAt.eqv_refl _ (by simpa [PyData.canLay0] using lay_intsZ ns)]) (fun h => nomatch h) fun _ g2 l2 => ?_) fun g2 v l2 r => ⟨[(L + 2, on), (L + 1, og)], rfl, r⟩
  refine cmp (R2 := fun _ v => v = .ref ra) (attrNm (nm (R := fun _ v => v = .ref p.pa) (.head _) ho rfl fun _ _ => rfl) fun g3 v l3 r2 => by subst r2; exact getRows (W.up ((lA.tr l2).tr l3)) (mem _ _ P.i) (mem _ _ P.d)) (fun g3 _ l3 _ => nV (.head _) ho rfl) fun g3 g4 u v l3 l4 ru rv => ?_
  subst ru rv
  have lX := (lA.tr l2).tr (l3.tr l4)
  refine Cn.imp (cEqD (RdH.ofP (P.to lX (mem o)).r (hpr.up lX).rdAll) (RdH.ofP (Or.inr ((l2.tr (l3.tr l4)) _ _ era)) (hra.up (l2.tr (l3.tr l4))).rdAll) (shaped_rows _ hrk) (shaped_rows _ hrk) (show A.units + 3 + 64 < cLine from ult hu (by decide))) fun g5 r l5 e => ?_
  rw [e, PySem.SeqAt.eqv_refl _ (by simpa [PyData.canLay0] using (lay_rows _ hrk).1)]
end Mine

/-! Lg16 -/
open PySem PySem.W PyProof.Rows PySem.Spec PySem.Calls
set_option maxRecDepth 100000
set_option linter.unusedVariables false
namespace Mine

abbrev sKind : Str := Str.ofString "kind"
abbrev excO (fs : Array Value) (dd : Option Addr) : Obj := { cls := .ref 31, dict := dd, data := .fields fs }
theorem mro31 (w : World) : ∃ cd, clsIn (KK w.params) 31 = some cd ∧ cd.mro = [.ref 31, .type "Exception", .type "BaseException", .type "object"] ∧ cd.hasDict = true := ⟨_, rfl, rfl, rfl⟩
theorem refuse31 (self : Value) : refuseLoop self "__setattr__" [.ref 31, .type "Exception", .type "BaseException", .type "object"] = pure () := by
  rw [refuseLoop_ref]
  have e : refuseLoop self "__setattr__" [.type "Exception", .type "BaseException", .type "object"] = refuseLoop self "__setattr__" [.type "object"] := by kernel_rfl
  rw [e]
  exact PySem.F.store_object.passes self

set_option maxHeartbeats 1000000 in
theorem exc_store {w : World} {A : Around} {e : Addr} {fs : Array Value} {v : Value} {s : Shared} {Q : Unit → Shared → Prop} {E : Value → Shared → Prop} (X : (KK w.params).In s.heap) (he : s.heap.get? e = some (excO fs none))
    (h : ∀ h' tk, h'.get? e = some (excO fs (some s.heap.objs.size)) → (∃ hsh k, h'.get? s.heap.objs.size = some (dictOf [⟨hsh, .str sKind k, v⟩] 1)) → (∀ b o, b ≠ e → s.heap.get? b = some o → h'.get? b = some o) → Q () { s with heap := h', toks := tk }) :
    wpAny (MM w) A (setAttr (.ref e) sKind v) Q E s := by
  obtain ⟨cd, hc, hm, hd⟩ := mro31 w
  obtain ⟨hh, gg, dd, tt, oo⟩ := s
  dsimp only at X he h
  have I : InstAt hh e (excO fs none) 31 none := ⟨he, rfl, rfl, trivial⟩
  refine set_plain (s := ⟨hh, gg, dd, tt, oo⟩) X I rfl ?_
  have SF := PySem.F.store_object
  have sub : Looks (MM w) hh (isInstance (.ref e) (.type "object")) true := I.type.andThen (looks_mroIn X (by unfold mroIn; rw [hc, Option.bind_some, hm]; rfl))
  refine codeAny_call_builtin SF.slot.plain SF.entry (@check_slot (MM w) _ _ ⟨hh, gg, dd, tt + 1, oo⟩ "object.__setattr__" "object" "__setattr__" (.ref e) [.str sKind tt, v] [] _ SF.kind SF.split sub (SF.args (.ref e) (.str sKind tt) v) ?_)
  have hmro : Looks (MM w) hh (mroOf (.ref 31)) cd.mro := (looks_clsIn X hc).andThen .now
  rw [osa_eq, refuse_eq]
  refine wpAny_bind (wpAny_bind (I.type.here (wpAny_bind (hmro.here ?_))))
  rw [hm, refuse31]
  have ha : findIn (KK w.params) (.ref 31) sKind = some none := rfl
  have L3 : Looks (MM w) hh (Builtin.ObjectAttr.storeTaker? none) none := .now
  refine wpAny_pure (wpAny_bind (I.type.here (wpAny_bind ((looks_findIn X ha).here (wpAny_bind (L3.here ?_))))))
  show wpAny _ _ (Builtin.ObjectAttr.storeInOwnDict (.ref e) (.ref 31) (.str sKind tt) sKind v false) _ _ _
  unfold Builtin.ObjectAttr.storeInOwnDict
  refine wpAny_bind (wpAny_pure ?_)
  dsimp only
  rw [if_neg (by decide)]
  refine wpAny_bind ?_
  show wpAny _ _ (instanceDict e true) _ _ _
  unfold instanceDict
  refine wpAny_bind (wpAny_loadPart he ?_)
  refine wpAny_bind ((looks_clsIn X hc).here ?_)
  rw [hd]
  have he1 : (hh.push (dictOf [] 0)).get? e = some (excO fs none) := Heap.get?_push_of_some _ he
  have hne : e ≠ hh.objs.size := Nat.ne_of_lt (Heap.lt_size he)
  have hD1 : (hh.push (dictOf [] 0)).get? hh.objs.size = some (dictOf [] 0) := Heap.get?_push_size _ rfl
  show wpAny _ _ (alloc (dictOf [] 0) >>= fun d => update e (fun o => { o with dict := some d }) >>= fun _ => pure (some d)) _ _ _
  refine wpAny_bind (wpAny_alloc (wpAny_bind (wpAny_update (s := ⟨hh.push (dictOf [] 0), gg, dd, tt + 1, oo⟩) he1 (wpAny_pure ?_))))
  have he2 : ((hh.push (dictOf [] 0)).update e fun o => { o with dict := some hh.objs.size }).get? e = some (excO fs (some hh.objs.size)) := Heap.get?_update_self _ he1 rfl
  have hD2 : ((hh.push (dictOf [] 0)).update e fun o => { o with dict := some hh.objs.size }).get? hh.objs.size = some (dictOf [] 0) := (Heap.get?_update_other _ _ hne).trans hD1
  have hO2 : ∀ b o, b ≠ e → hh.get? b = some o → ((hh.push (dictOf [] 0)).update e fun o => { o with dict := some hh.objs.size }).get? b = some o := fun b o hb eb => (Heap.get?_update_other _ _ (Ne.symm hb)).trans (Heap.get?_push_of_some _ eb)
  dsimp only
  generalize ((hh.push (dictOf [] 0)).update e fun o => { o with dict := some hh.objs.size }) = h2 at he2 hD2 hO2 ⊢
  show wpAny _ _ (nsSet hh.objs.size sKind v >>= fun _ => lookBehind hh.objs.size (some (.str sKind 0)) >>= fun _ => ret .none) _ _ _
  unfold nsSet
  refine wpAny_bind (wpAny_bind (wpAny_bind (wpAny_askSetting (wpAny_pure (wpAny_bind (wpAny_mkText (wpAny_bind (wpAny_loadPart hD2 ?_))))))))
  dsimp only
  rw [if_neg (show ¬ aRefKeyMayBeTheName sKind #[] = true by decide)]
  refine wpAny_updatePart hD2 ?_
  generalize (if sKind.cps.isEmpty = true then 0 else reduceHash ((model PP w).w.params.strHash sKind.cps)) = hsh
  have hD3 := Heap.get?_update_self (Obj.putName sKind hsh (.str sKind (tt + 1)) v) hD2 rfl
  rw [putName_dict] at hD3
  have hD4 : (h2.update hh.objs.size (Obj.putName sKind hsh (.str sKind (tt + 1)) v)).get? hh.objs.size = some (dictOf [⟨hsh, .str sKind (tt + 1), v⟩] 1) := hD3
  refine wpAny_bind (wpAny_lookBehind hD4 (pastItsLine_dict (show 1 ≤ sizeLine + 1 by decide)) ?_)
  refine wpAny_pure ?_
  exact h _ _ ((Heap.get?_update_other _ _ hne.symm).trans he2) ⟨hsh, _, hD4⟩ fun b o hb eb => (Heap.get?_update_other _ _ (Ne.symm (Nat.ne_of_lt (Heap.lt_size eb)))).trans (hO2 b o hb eb)

theorem ga31 (w : World) : findIn (KK w.params) (.ref 31) "__getattribute__" = some (some (.builtin "BaseException.__getattribute__")) := by rfl
theorem canonBE : (Manifest.canonical "BaseException.__getattribute__" != "object.__getattribute__") = false := by decide +kernel
set_option maxHeartbeats 1000000 in
theorem exc_get {w : World} {A : Around} {e D : Addr} {fs : Array Value} {v : Value} {hsh : Int} {k n : Nat} {s : Shared} {Q : Value → Shared → Prop} {E : Value → Shared → Prop} (X : (KK w.params).In s.heap) (he : ∃ fs sl, s.heap.get? e = some { excO fs (some D) with slots := sl }) (hD : ∃ sl, s.heap.get? D = some { dictOf [⟨hsh, .str sKind k, v⟩] n with slots := sl }) (hv : handedIn v = true)
    (h : ∀ tk, Q v { s with toks := tk }) : wpAny (MM w) A (getAttr (.ref e) sKind true) Q E s := by
  obtain ⟨fs, sl, he⟩ := he
  obtain ⟨sl2, hD⟩ := hD
  obtain ⟨hh, g, d, t, os⟩ := s
  have I : InstAt hh e { excO fs (some D) with slots := sl } 31 (some { dictOf [⟨hsh, .str sKind k, v⟩] n with slots := sl2 }) := ⟨he, rfl, rfl, hD⟩
  have L0 := I.type (M := MM w)
  have L1 := looks_findIn (M := MM w) X (ga31 w)
  unfold getAttr getAttrBy
  refine wpAny_bind (wpAny_mkText (wpAny_holding (wpAny_bind (L0.at (wpAny_bind (L1.at ?_))))))
  have hx2 : (onTheHeap (Value.ref 31) && Value.builtin "BaseException.__getattribute__" == Value.builtin "object.__getattribute__") = false := by decide +kernel
  dsimp only
  rw [if_neg (by rw [hx2]; decide)]
  have L2 : Looks (MM w) hh (typeLookup (.ref 31) "__getattr__") none := looks_findIn X rfl
  unfold getAttrByItsOwn hookBefore
  rw [if_pos (show onTheHeap (Value.ref 31) = true by decide +kernel)]
  refine wpAny_bind (L2.at (wpAny_bind (wpAny_attempt (wpAny_holding ?_))))
  unfold callGetattribute
  rw [if_neg (show ¬ (true && onTheHeap (Value.builtin "BaseException.__getattribute__")) = true by decide +kernel)]
  unfold boundAndCalled
  have SG := PySem.F.attr_ValueError.ga
  rw [SG.bind (.ref e)]
  refine wpAny_bind (wpAny_pure ?_)
  have hk : builtinKind "BaseException.__getattribute__" = some .slot := by decide +kernel
  have hsplit : splitId "BaseException.__getattribute__" = some ("BaseException", "__getattribute__") := by decide +kernel
  obtain ⟨cd, hc, hm, hd⟩ := mro31 w
  have sub : Looks (MM w) hh (isInstance (.ref e) (.type "BaseException")) true := L0.andThen (looks_mroIn X (by unfold mroIn; rw [hc, Option.bind_some, hm]; rfl))
  refine wpAny_call (codeAny_call_builtin SG.plain PySem.F.entry_bexc_ga (@check_slot (MM w) _ _ ⟨hh, g, d, t + 1, os⟩ "BaseException.__getattribute__" "BaseException" "__getattribute__" (.ref e) [.str sKind t] [] _ hk hsplit sub (PySem.F.args_bexc_ga (.ref e) (.str sKind t)) ?_))
  have L3 := looks_find (M := MM w) X I (name := sKind) (findObj_own (od := { dictOf [⟨hsh, .str sKind k, v⟩] n with slots := sl2 }) (attr := none) rfl rfl rfl rfl)
  show wpAny _ _ (typeOf (.ref e) >>= fun tp => Builtin.ObjectAttr.find (.ref e) tp sKind >>= _) _ _ _
  refine wpAny_bind (L0.at (wpAny_bind (L3.at ?_)))
  refine wpAny_pure ?_
  show wpAny _ _ (handedOut v) _ _ _
  rw [handedOut_of hv]
  exact wpAny_pure (h _)
end Mine

/-! Lg17 -/
open PySem PySem.W PyProof.Rows PySem.Spec PySem.Calls
set_option maxRecDepth 100000
set_option linter.unusedVariables false
namespace Mine
theorem init31 (w : World) : findIn (KK w.params) (.ref 31) "__init__" = some (some (.ref 28)) := rfl
theorem At.turn2 {g h h' : Heap} {hot : Hot} {e : Addr} {o o' od : Obj} (H : At g ((e, o) :: hot) h) (f1 : h'.get? e = some o') (f2 : h'.get? h.objs.size = some od) (f3 : ∀ b o, b ≠ e → h.get? b = some o → h'.get? b = some o) : At g ((h.objs.size, od) :: (e, o') :: hot) h' := by
  have nd := List.nodup_cons.mp (show (e :: hot.map (·.1)).Nodup from by simpa using H.nd)
  have ne : ∀ q ∈ hot, q.1 ≠ e := fun q hq z => nd.1 (z ▸ List.mem_map_of_mem hq)
  have lt : ∀ b, b ∈ e :: hot.map (·.1) → b ≠ h.objs.size := fun b hb => by
    rcases List.mem_cons.mp hb with rfl | hb
    · exact Nat.ne_of_lt (Heap.lt_size (H.on (b, o) (.head _)))
    · obtain ⟨q, hq, rfl⟩ := List.mem_map.mp hb
      exact Nat.ne_of_lt (Heap.lt_size (H.on q (.tail _ hq)))
  refine ⟨fun b ob eb => f3 b ob (fun z => ?_) (H.keep _ _ eb), fun q hq => ?_, fun q hq => ?_, ?_⟩
  · rw [z, H.sep (e, o) (.head _)] at eb; cases eb
  · rcases List.mem_cons.mp hq with rfl | hq
    · exact f2
    · rcases List.mem_cons.mp hq with rfl | hq
      · exact f1
      · exact f3 _ _ (ne q hq) (H.on q (.tail _ hq))
  · rcases List.mem_cons.mp hq with rfl | hq
    · cases z : g.get? h.objs.size with
      | none => rfl
      | some o' => have := H.keep _ _ z; rw [get_size] at this; cases this
    · rcases List.mem_cons.mp hq with rfl | hq
      · exact H.sep (e, o) (.head _)
      · exact H.sep q (.tail _ hq)
  · rw [List.map_cons, List.map_cons]
    exact List.nodup_cons.mpr ⟨fun hm => lt _ hm rfl, List.nodup_cons.mpr nd⟩
section
variable {w : World} {A : Around} {g : Heap} {m : Loc} {hot : Hot} {env : Env} {pos : Pos} {R : Flow → Heap → Loc → Hot → Prop} {rest : List Stmt}
/-- o.kind = x, o a hot exception without a dict -/
theorem eSetX {o x : Expr} {pos' : Pos} {e : Addr} {fs : Array Value} {v : Value} {l1 l2 : Hot} (W : Wd w g) (c : ∀ ob, ObjNs ob m → Cn w A g ((env.locals, ob) :: (l1 ++ (e, excO fs none) :: l2)) (eval x env) fun _ u => u = v)
    (ho : ∀ ob, ObjNs ob m → ∀ g1, Le g g1 → Cn w A g1 ((env.locals, ob) :: (l1 ++ (e, excO fs none) :: l2)) (eval o env) fun _ u => u = .ref e)
    (kk : ∀ g1 D hsh k, Le g g1 → Em w A env.locals g1 m ((D, dictOf [⟨hsh, .str sKind k, v⟩] 1) :: (l1 ++ (e, excO fs (some D)) :: l2)) (execs rest env) R)
    (hsw : swapsWith x (some (.Attribute o sKind pos')) pos.line env = pure false := by rfl) :
    Em w A env.locals g m (l1 ++ (e, excO fs none) :: l2) (execs (.Assign [.Attribute o sKind pos'] x pos :: rest) env) R := fun ob hn s Q E g0 l H hQ =>
  wpAny_execs_cons (plainObj_wpAny_Assign_Attribute (c ob hn s _ E g0 l H fun u1 g1 h1 tk l1' H1 r1 => ho ob hn g1 (l.tr l1') _ _ E g1 (Le.rf _) H1 fun u g2 h2 tk2 l2' H2 r2 => by
    subst r1 r2
    have X : (KK w.params).In h2 := fun a o e => ((l.tr l1').tr l2').tr H2.keep _ _ (W.X a o e)
    have e3 := H2.on _ (.tail _ (List.mem_append_right l1 (.head _)))
    refine exc_store X e3 fun h' tk3 f1 ⟨hsh, k, f2⟩ f3 => ?_
    have q : ((env.locals, ob) :: (l1 ++ (e, excO fs none) :: l2)).Perm ((e, excO fs none) :: (env.locals, ob) :: (l1 ++ l2)) := (List.perm_middle.cons _).trans (List.Perm.swap ..)
    have H3 := (H2.perm q).turn2 f1 f2 f3
    have q2 : ((h2.objs.size, dictOf [⟨hsh, .str sKind k, u1⟩] 1) :: (e, excO fs (some h2.objs.size)) :: (env.locals, ob) :: (l1 ++ l2)).Perm ((env.locals, ob) :: (h2.objs.size, dictOf [⟨hsh, .str sKind k, u1⟩] 1) :: (l1 ++ (e, excO fs (some h2.objs.size)) :: l2)) :=
      (((List.Perm.swap _ _ _).cons _).trans (List.Perm.swap _ _ _)).trans ((List.perm_middle.symm.cons _).cons _)
    exact kk g2 _ hsh k ((l.tr l1').tr l2') ob hn _ Q E g2 (Le.rf _) (H3.perm q2) fun f g4 m4 hot4 o4 h4 tk4 l4 hn4 H4 r4 => hQ f g4 m4 hot4 o4 h4 tk4 ((l1'.tr l2').tr l4) hn4 H4 r4) hsw)
end

theorem c_init {w : World} {A : Around} {g : Heap} {hot : Hot} {e : Addr} {fs : Array Value} {v : Value} (hd : A.depth < 900) (W : Wd w g) :
    Cc w A g ((e, excO fs none) :: hot) (call (.ref 28) [.ref e, v]) fun g1 hot1 r => r = .none ∧ ∃ D hsh k, hot1 = (D, dictOf [⟨hsh, .str sKind k, v⟩] 1) :: (e, excO fs (some D)) :: hot := by
  refine enterCc W rfl rfl rfl rfl rfl (rlt hd) (fun L cells hc => ?_) rfl (by decide +kernel) rfl
  have : cells = [] := by cases hc; rfl
  subst this
  refine eSetX (l1 := []) (v := v) W (fun ob ho => nV (.head _) ho rfl) (fun ob ho g1 l1 => nV (.head _) ho rfl) fun g1 D hsh k l1 => ?_
  exact eNil fun g2 l2 => ⟨[], _, rfl, rfl, D, hsh, k, rfl⟩
end Mine

/-! Lg18 -/
open PySem PySem.W PyProof.Rows PySem.Spec PySem.Calls
set_option maxRecDepth 100000
set_option linter.unusedVariables false
namespace Mine
theorem cls31 (w : World) : ∃ nm q N bs hdct sn sub ab col dd k0 k1 k2 k3 k5 mN, (KK w.params).lookup 31 = some (excClassObj nm q 31 N bs [.type "Exception", .type "BaseException", .type "object"] hdct sn sub ab col dd k0 k1 k2 k3 k5 "Exception.__new__") ∧ (∀ g, Wd w g → g.Ns N mN) ∧ mN "__init__" = some (.ref 28) :=
  ⟨_, _, _, _, _, _, _, _, _, _, _, _, _, _, _, _, rfl, fun g W => ns_of W rfl rfl, rfl⟩
abbrev fresh5 (t : Addr) : Array Value := #[.ref t, .none, .none, .none, .bool false, .none]
theorem At.plus {g h h' : Heap} {hot : Hot} {e : Addr} {o : Obj} (H : At g hot h) (k : Le h h') (f : h'.get? e = some o) (n : h.get? e = none) : At g ((e, o) :: hot) h' := by
  refine ⟨H.keep.tr k, fun q hq => ?_, fun q hq => ?_, ?_⟩
  · rcases List.mem_cons.mp hq with rfl | hq
    · exact f
    · exact k _ _ (H.on q hq)
  · rcases List.mem_cons.mp hq with rfl | hq
    · cases z : g.get? e with
      | none => rfl
      | some o' => have := H.keep _ _ z; rw [n] at this; cases this
    · exact H.sep q hq
  · rw [List.map_cons]
    exact List.nodup_cons.mpr ⟨H.notLt n, H.nd⟩
/-- BasicError(v) -/
theorem c_exc {w : World} {A : Around} {g : Heap} {hot : Hot} {v : Value} (hd : A.depth < 880) (W : Wd w g) :
    Cc w A g hot (call (.ref 31) [v]) fun g1 hot1 r => ∃ e t D hsh k, r = .ref e ∧ hot1 = (D, dictOf [⟨hsh, .str sKind k, v⟩] 1) :: (e, excO (fresh5 t) (some D)) :: hot := fun s Q E g0 l H hQ => by
  obtain ⟨nm, q, N, bs, hdct, sn, sub, ab, col, dd, k0, k1, k2, k3, k5, mN, hC, hn, hi⟩ := cls31 w
  obtain ⟨hh, gg, d, t, os⟩ := s
  have X : (KK w.params).In hh := fun a o e => (l.tr H.keep) _ _ (W.X a o e)
  have f28 : ∃ o, (KK w.params).lookup 28 = some o ∧ o.cls = .type "function" := ⟨_, rfl, rfl⟩
  obtain ⟨o28, h28, hc28⟩ := f28
  refine wpAny_call_exc_init (h := hh) PySem.F.excBase_Exception (X _ _ hC) (hn hh (W.up (l.tr H.keep))) hi (X _ _ h28) hc28 (fun h' e hm => ?_) (by show 1 ≤ sizeLine; decide)
  obtain ⟨t0, he, htn, ht⟩ := hm.there
  have H1 : At g0 ((e, excO (fresh5 t0) none) :: hot) h' := H.plus hm.keeps he hm.new
  have hw : (Code.builtin "type.__call__" ⟨[.ref 31, v], []⟩).weight = 1 := by rfl
  refine c_init (by show A.depth + (Code.builtin "type.__call__" ⟨[.ref 31, v], []⟩).weight < 900; rw [hw]; omega) W _ _ E g0 l H1 fun r g1 hot1 h1 tk l1 H2 r1 => ?_
  obtain ⟨rfl, D, hsh, k, rfl⟩ := r1
  exact ⟨rfl, hQ _ g1 _ h1 tk l1 H2 ⟨e, t0, D, hsh, k, rfl, rfl⟩⟩
end Mine

/-! Lg19 -/
open PySem PySem.W PyProof.Rows PySem.Spec PySem.Calls
set_option maxRecDepth 100000
set_option linter.unusedVariables false
namespace Mine
set_option maxHeartbeats 4000000 in
theorem raise31 {w : World} {A : Around} {env : Env} {x : Sem Value} {s : Shared} {Q : Flow → Shared → Prop} {E : Value → Shared → Prop} (hh : A.handled = none)
    (h : wpAny (MM w) A x (fun v s1 => ∃ e t dd, v = .ref e ∧ (KK w.params).In s1.heap ∧ s1.heap.get? e = some (excO (fresh5 t) dd) ∧ E (.ref e) s1) E s) : wpAny (MM w) A (raiseStmt env (some x) none) Q E s := by
  obtain ⟨nm, q, N, bs, hdct, sn, sub, ab, col, dd0, k0, k1, k2, k3, k5, mN, hC', hn, hi⟩ := cls31 w
  have hcB : (Value.ref 31 :: [.type "Exception", .type "BaseException", .type "object"]).contains (.type "BaseException") = true := by rfl
  unfold raiseStmt
  refine wpAny_bind (wpAny_mono h (fun v s1 h1 => ?_) fun _ _ x => x)
  obtain ⟨e, t, dd, rfl, X, he, hE⟩ := h1
  have hC := X _ _ hC'
  obtain ⟨hp, g, d, tk, os⟩ := s1
  repeat (first | with_reducible refine wpAny_loadPart_at he ?_ | with_reducible refine wpAny_loadPart_at hC ?_ | (with_reducible refine wpAny_isSubtype_exc hC ?_; rw [hcB]) | wp_step)
  exact wpAny_raiseNew_none hh hE
end Mine

/-! Lg20 -/
open PySem PySem.W PyProof.Rows PySem.Spec PySem.Calls
set_option maxRecDepth 100000
set_option linter.unusedVariables false
namespace Mine

/-- what a raise leaves: e points to its newest entry, the frames' own objects may have turned their slots -/
structure Lft (fs : List Addr) (e : Addr) (oe : Obj) (vs : Array Value) (old : Addr → Prop) (h h' : Heap) (T : Addr) : Prop where
  fe : h'.get? e = some { oe with data := .fields (vs.setIfInBounds 1 (.ref T)) }
  new : h.get? T = none
  t : ∃ oT ts, h'.get? T = some oT ∧ oT.data = .fields ts ∧ ts[3]? = some .none
  rest : ∀ b o, b ≠ e → ¬ old b → h.get? b = some o → ∃ sl, h'.get? b = some { o with slots := sl } ∧ (b ∉ fs → h'.get? b = some o)

theorem mapF {oe : Obj} {vs : Array Value} (hd : oe.data = .fields vs) (f : Array Value → Array Value) : Obj.mapFields f oe = { oe with data := .fields (f vs) } := by
  obtain ⟨c, d, dt, sl⟩ := oe
  dsimp only at hd
  subst hd
  rfl
theorem noBase (b : Addr) : ({} : Heap).get? b = none := by simp [Heap.get?]

section
variable {M : Model} {A : Around} {E : Value → Shared → Prop} {s : Shared}
theorem entry_raw {env : Env} {outer : List Env} {L e : Addr} {oe : Obj} {vs : Array Value} {head : Value} {hadNext : Bool} {Q : Unit → Shared → Prop}
    (hfr : A.frames = some (env :: outer)) (hl : s.heap.FunFrames {} (env :: outer)) (hf : env.frame = some L)
    (he : s.heap.get? e = some oe) (hd : oe.data = .fields vs) (hsz : 1 < vs.size)
    (h : ∀ h' T, Lft ((env :: outer).filterMap (·.frame)) e oe vs (fun _ => False) s.heap h' T → Q () { s with heap := h' }) :
    wpAny M A (do let a ← frameOf env; let pl ← entryPlaceOf L hadNext; let b ← EntryCells.newEntry head a .none (rawInt L) .none pl; setField (.ref e) 1 b) (fun _ s' => wpAny M A (setFlight (.ref e) none) Q E s') E s := by
  have hene : e ∉ (env :: outer).filterMap (·.frame) := fun hm => by
    obtain ⟨_, o, ho, hnf⟩ := hl.mem hm
    rw [he] at ho; injection ho with ho; subst ho; exact hnf vs hd
  refine wpAny_bind (wpAny_frameOf_fun hfr hl hf fun h₁ hs₁ => ?_)
  refine wpAny_bind (wpAny_entryPlaceOf fun pl hpl => ?_)
  unfold EntryCells.newEntry newFields
  refine wpAny_bind (wpAny_newObj_type ?_ (hpl.sizeOk5 _ _ _ _ _))
  have he₁ : h₁.get? e = some oe := (hs₁.2.1 e hene).trans he
  generalize hob : ({ cls := .type "traceback", dict := none, data := .fields ([head, .ref L, .none, rawInt L, .none] ++ (if pl.isEmpty then List.replicate 6 Value.none else pl)).toArray } : Obj) = ob
  have hobd : ob.data = .fields ([head, .ref L, .none, rawInt L, .none] ++ (if pl.isEmpty then List.replicate 6 Value.none else pl)).toArray := by rw [← hob]
  have hobf : ob.isFreed = false := by rw [← hob]; rfl
  have he₂ := Heap.get?_push_of_some (h := h₁) ob he₁
  refine wpAny_setField he₂ hd hsz ?_
  have hTe : h₁.objs.size ≠ e := Nat.ne_of_gt (Heap.lt_size he₁)
  have hd₃ := Obj.data_mapFields hd (·.setIfInBounds 1 (Value.ref h₁.objs.size))
  have he₃ := Heap.get?_update_self (Obj.mapFields (·.setIfInBounds 1 (Value.ref h₁.objs.size))) he₂ (Obj.isFreed_of_fields hd₃)
  have hT₃ := (Heap.get?_update_other (h₁.push ob) (Obj.mapFields (·.setIfInBounds 1 (Value.ref h₁.objs.size))) (Ne.symm hTe)).trans (Heap.get?_push_size h₁ hobf)
  unfold setFlight
  refine wpAny_bind (wpAny_field he₃ hd₃ (x := .ref h₁.objs.size) (by simp [hsz]) ?_)
  rw [if_pos (show (Value.ref h₁.objs.size != Value.none) = true from by simp)]
  have h3 : 3 < ([head, .ref L, .none, rawInt L, .none] ++ (if pl.isEmpty then List.replicate 6 Value.none else pl)).toArray.size := by
    simp only [List.size_toArray, List.length_append, List.length_cons, List.length_nil] <;> omega
  refine wpAny_setField hT₃ hobd h3 (h _ h₁.objs.size ?_)
  have keep : ∀ b o, b ≠ e → h₁.get? b = some o → (((h₁.push ob).update e (Obj.mapFields (·.setIfInBounds 1 (Value.ref h₁.objs.size)))).update h₁.objs.size (Obj.mapFields (·.setIfInBounds 3 ((none : Option Addr).elim Value.none fun f => rawInt f)))).get? b = some o := fun b o hbe hb => by
    have hbT : h₁.objs.size ≠ b := Nat.ne_of_gt (Heap.lt_size hb)
    rw [Heap.get?_update_other _ _ hbT, Heap.get?_update_other _ _ (Ne.symm hbe)]
    exact Heap.get?_push_of_some _ hb
  refine ⟨?_, ?_, ⟨_, _, Heap.get?_update_self _ hT₃ (Obj.isFreed_of_fields (Obj.data_mapFields hobd _)), Obj.data_mapFields hobd _, by simp [h3]⟩, fun b o hbe _ hb => ?_⟩
  · rw [Heap.get?_update_other _ _ hTe, he₃, mapF hd]
  · rw [hs₁.1]; exact get_size _
  · obtain ⟨sl, hs⟩ := hs₁.2.2 b o hb
    exact ⟨sl, keep b _ hbe hs, fun hn => keep b o hbe ((hs₁.2.1 b hn).trans hb)⟩

/-- a frame is left, or a try looks on -/
theorem leave_raw {env : Env} {outer : List Env} {L e : Addr} {oe : Obj} {vs : Array Value} {Q : Unit → Shared → Prop}
    (hfr : A.frames = some (env :: outer)) (hl : s.heap.FunFrames {} (env :: outer)) (hf : env.frame = some L)
    (he : s.heap.get? e = some oe) (hd : oe.data = .fields vs)
    (h1 : vs[1]? = some .none ∨ ∃ T oT ts, vs[1]? = some (.ref T) ∧ T ≠ e ∧ s.heap.get? T = some oT ∧ oT.data = .fields ts ∧ ts[3]? = some .none)
    (h : ∀ h' T, Lft ((env :: outer).filterMap (·.frame)) e oe vs (fun b => vs[1]? = some (.ref b)) s.heap h' T → Q () { s with heap := h' }) :
    wpAny M A (noteFrame (.ref e) env) (fun _ s' => wpAny M A (setFlight (.ref e) none) Q E s') E s := by
  unfold noteFrame
  simp only [hf]
  rcases h1 with h1 | ⟨T, oT, ts, h1, hTe, hT, hdT, h3⟩
  · refine wpAny_bind (wpAny_field he hd h1 ?_)
    rw [if_neg (by decide)]
    exact entry_raw hfr hl hf he hd (Array.getElem?_eq_some_iff.mp h1).1 fun h' T x => h h' T ⟨x.fe, x.new, x.t, fun b o hbe _ hb => x.rest b o hbe id hb⟩
  · refine wpAny_bind (wpAny_field he hd h1 ?_)
    rw [if_pos (show (Value.ref T != Value.none) = true from by simp)]
    refine wpAny_bind (wpAny_field hT hdT h3 ?_)
    rw [if_neg (show ¬ ((Value.none == rawInt L) = true) from by simp [rawInt])]
    refine wpAny_bind (wpAny_setField hT hdT (Array.getElem?_eq_some_iff.mp h3).1 ?_)
    have other : ∀ b, b ≠ T → (s.heap.update T (Obj.mapFields (·.setIfInBounds 3 Value.none))).get? b = s.heap.get? b := fun b hb => Heap.get?_update_other _ _ (Ne.symm hb)
    have noRecord : ∀ b o, s.heap.get? b = some o → (∀ vs, o.data ≠ .fields vs) → b ≠ T := fun b o hb hnf q => by
      rw [q, hT] at hb; injection hb with hb; subst hb; exact hnf ts hdT
    refine entry_raw hfr (hl.of_keeps fun b o hb hnf => ⟨o, (other b (noRecord b o hb hnf)).trans hb, rfl⟩) hf ((other e (Ne.symm hTe)).trans he) hd (Array.getElem?_eq_some_iff.mp h1).1
      fun h' T' x => h h' T' ⟨x.fe, ?_, x.t, fun b o hbe ho hb => ?_⟩
    · by_cases q : T' = T
      · have := x.new
        rw [q, Heap.get?_update_self _ hT (Obj.isFreed_of_fields (Obj.data_mapFields hdT _))] at this; cases this
      · exact (other T' q).symm.trans x.new
    · have hbT : b ≠ T := fun q => ho (q ▸ h1)
      exact x.rest b o hbe id ((other b hbT).trans hb)
end

/-- the frames' own objects, all hot -/
structure Fs (A : Around) (hot : Hot) (fs : List Addr) : Prop where
  ex : ∃ l, A.frames = some l ∧ l.filterMap (·.frame) = fs ∧ ∀ env ∈ l, env.scope.kind ≠ .module ∧ ∃ L o m, env.frame = some L ∧ (L, o) ∈ hot ∧ ObjNs o m
theorem Fs.up {A : Around} {hot hot' : Hot} {fs : List Addr} (F : Fs A hot fs) (h : ∀ p ∈ hot, p ∈ hot') : Fs A hot' fs := by
  obtain ⟨l, e, q, k⟩ := F.ex
  exact ⟨l, e, q, fun env hm => ⟨(k env hm).1, let ⟨L, o, m, a, b, c⟩ := (k env hm).2; ⟨L, o, m, a, h _ b, c⟩⟩⟩
theorem Fs.push {A : Around} {hot : Hot} {fs : List Addr} {env : Env} {L : Addr} {o : Obj} {m : Loc} (F : Fs A hot fs) (hf : env.frame = some L) (hk : env.scope.kind ≠ .module) (hn : ObjNs o m) : Fs (A.deeper env) ((L, o) :: hot) (L :: fs) := by
  obtain ⟨l, e, q, k⟩ := F.ex
  refine ⟨env :: l, Around.frames_deeper e, by rw [List.filterMap_cons, hf, q], fun env' hm => ?_⟩
  rcases List.mem_cons.mp hm with rfl | hm
  · exact ⟨hk, L, o, m, hf, .head _, hn⟩
  · exact ⟨(k env' hm).1, let ⟨L, o, m, a, b, c⟩ := (k env' hm).2; ⟨L, o, m, a, .tail _ b, c⟩⟩
theorem Fs.fun {A : Around} {hot : Hot} {fs : List Addr} {g h : Heap} (F : Fs A hot fs) (H : At g hot h) : ∃ l, A.frames = some l ∧ l.filterMap (·.frame) = fs ∧ h.FunFrames {} l := by
  obtain ⟨l, e, q, k⟩ := F.ex
  refine ⟨l, e, q, ?_⟩
  clear e q
  induction l with
  | nil => trivial
  | cons env l ih =>
    obtain ⟨hk, L, o, m, hf, hm, hn⟩ := k env (.head _)
    refine ⟨hk, ⟨L, o, hf, noBase L, H.on _ hm, ?_⟩, ih fun env' hm' => k env' (.tail _ hm')⟩
    obtain ⟨es, ep, e, _⟩ := hn
    intro vs q
    rw [e] at q; cases q

/-- hot objects, of which the frames' may have turned their slots -/
abbrev SlR (fs : List Addr) (p q : Addr × Obj) : Prop := q.1 = p.1 ∧ (∃ sl, q.2 = { p.2 with slots := sl }) ∧ (p.1 ∉ fs → q.2 = p.2)
inductive Slt (fs : List Addr) : Hot → Hot → Prop where
  | nil : Slt fs [] []
  | cons {a b : Addr × Obj} {l l' : Hot} (x : SlR fs a b) (xs : Slt fs l l') : Slt fs (a :: l) (b :: l')
theorem Slt.rf {fs : List Addr} : ∀ {hot : Hot}, Slt fs hot hot
  | [] => .nil
  | p :: r => .cons ⟨rfl, ⟨p.2.slots, rfl⟩, fun _ => rfl⟩ Slt.rf
theorem Slt.tr {fs gs : List Addr} (hs : ∀ b ∈ fs, b ∈ gs) : ∀ {a b c : Hot}, Slt fs a b → Slt gs b c → Slt gs a c
  | _, _, _, .nil, .nil => .nil
  | _, _, _, .cons x xs, .cons y ys => by
    refine .cons ⟨y.1.trans x.1, ?_, fun hn => ?_⟩ (Slt.tr hs xs ys)
    · obtain ⟨s1, e1⟩ := x.2.1
      obtain ⟨s2, e2⟩ := y.2.1
      exact ⟨s2, by rw [e2, e1]⟩
    · rw [y.2.2 (fun h => hn (x.1 ▸ h)), x.2.2 fun h => hn (hs _ h)]
theorem Slt.mem {fs : List Addr} {p : Addr × Obj} : ∀ {hot hot' : Hot}, Slt fs hot hot' → p ∈ hot → ∃ sl, (p.1, { p.2 with slots := sl }) ∈ hot' ∧ (p.1 ∉ fs → p ∈ hot')
  | _, _, .cons (a := a) (b := b) x xs, hp => by
    rcases List.mem_cons.mp hp with rfl | hp
    · obtain ⟨sl, e⟩ := x.2.1
      obtain ⟨b1, b2⟩ := b
      have e1 : b1 = p.1 := x.1
      subst e1
      dsimp only at e
      subst e
      exact ⟨sl, .head _, fun hn => by
        have := x.2.2 hn
        dsimp only at this
        rw [this]; exact .head _⟩
    · obtain ⟨sl, m, k⟩ := Slt.mem xs hp
      exact ⟨sl, .tail _ m, fun hn => .tail _ (k hn)⟩
theorem Slt.app {fs : List Addr} : ∀ {a b c : Hot}, Slt fs (a ++ b) c → ∃ a' b', c = a' ++ b' ∧ Slt fs a a' ∧ Slt fs b b'
  | [], b, c, h => ⟨[], c, rfl, .nil, h⟩
  | p :: a, b, _, .cons x xs => by
    obtain ⟨a', b', rfl, h1, h2⟩ := Slt.app xs
    exact ⟨_ :: a', b', rfl, .cons x h1, h2⟩
theorem Slt.same {fs : List Addr} : ∀ {a b : Hot}, Slt fs a b → (∀ p ∈ a, p.1 ∉ fs) → b = a
  | _, _, .nil, _ => rfl
  | _, _, .cons (a := p) (b := q) x xs, h => by
    rw [Slt.same xs fun p hp => h p (.tail _ hp)]
    congr 1
    exact Prod.ext x.1 (x.2.2 (h p (.head _)))
theorem ObjNs.slots {o : Obj} {m : Loc} (x : ObjNs o m) (sl : Array (Option Value)) : ObjNs { o with slots := sl } m := x
theorem Slt.ns {fs : List Addr} {L : Addr} {o : Obj} {m : Loc} {hot c : Hot} (h : Slt fs ((L, o) :: hot) c) (hn : ObjNs o m) : ∃ o' hot', c = (L, o') :: hot' ∧ ObjNs o' m ∧ Slt fs hot hot' := by
  cases h with
  | cons x xs =>
    rename_i b c
    obtain ⟨b1, b2⟩ := b
    obtain ⟨e1, ⟨sl, e2⟩, _⟩ := x
    dsimp only at e1 e2
    subst e1 e2
    exact ⟨_, _, rfl, hn, xs⟩

/-- the hot objects looked up anew -/
theorem At.slt {g h h' : Heap} {X X' hot : Hot} {fs : List Addr} (H : At g (X ++ hot) h) (k : ∀ b o, b ∉ X.map (·.1) → h.get? b = some o → ∃ sl, h'.get? b = some { o with slots := sl } ∧ (b ∉ fs → h'.get? b = some o)) (hfs : ∀ b ∈ fs, b ∈ hot.map (·.1))
    (hX : ∀ p ∈ X', h'.get? p.1 = some p.2) (hn : ∀ p ∈ X', p.1 ∈ X.map (·.1) ∨ h.get? p.1 = none) (nd : (X'.map (·.1)).Nodup) : ∃ hot', Slt fs hot hot' ∧ At g (X' ++ hot') h' := by
  have apart : ∀ p ∈ hot, p.1 ∉ X.map (·.1) := fun p hp hm => by
    have nd := H.nd
    rw [List.map_append, List.nodup_append] at nd
    exact nd.2.2 _ hm _ (List.mem_map_of_mem hp) rfl
  have look : ∀ hot0 : Hot, (∀ p ∈ hot0, p ∈ hot) → ∃ hot', Slt fs hot0 hot' ∧ hot'.map (·.1) = hot0.map (·.1) ∧ ∀ p ∈ hot', h'.get? p.1 = some p.2 := by
    intro hot0 hs
    induction hot0 with
    | nil => exact ⟨[], .nil, rfl, fun p hp => nomatch hp⟩
    | cons p r ih =>
      obtain ⟨r', h1, h2, h3⟩ := ih fun q hq => hs q (.tail _ hq)
      obtain ⟨sl, e1, e2⟩ := k p.1 p.2 (apart p (hs p (.head _))) (H.on p (List.mem_append_right _ (hs p (.head _))))
      refine ⟨(p.1, { p.2 with slots := sl }) :: r', .cons ⟨rfl, ⟨sl, rfl⟩, fun hnn => ?_⟩ h1, by simp [h2], fun q hq => ?_⟩
      · have := e2 hnn
        rw [e1] at this
        exact Option.some.inj this
      · rcases List.mem_cons.mp hq with rfl | hq
        · exact e1
        · exact h3 q hq
  obtain ⟨hot', h1, h2, h3⟩ := look hot fun _ h => h
  refine ⟨hot', h1, fun b o eb => ?_, fun p hp => ?_, fun p hp => ?_, ?_⟩
  · have hb : b ∉ (X ++ hot).map (·.1) := fun hm => by
      obtain ⟨p, hp, rfl⟩ := List.mem_map.mp hm
      rw [H.sep p hp] at eb; cases eb
    rw [List.map_append, List.mem_append, not_or] at hb
    obtain ⟨sl, _, e2⟩ := k b o hb.1 (H.keep _ _ eb)
    exact e2 fun hm => hb.2 (hfs b hm)
  · rcases List.mem_append.mp hp with hp | hp
    · exact hX p hp
    · exact h3 p hp
  · have old : ∀ a, a ∈ (X ++ hot).map (·.1) → g.get? a = none := fun a ha => by
      obtain ⟨p, hp, rfl⟩ := List.mem_map.mp ha
      exact H.sep p hp
    rcases List.mem_append.mp hp with hp | hp
    · rcases hn p hp with hm | hm
      · exact old _ (by rw [List.map_append]; exact List.mem_append_left _ hm)
      · cases q : g.get? p.1 with
        | none => rfl
        | some o => have := H.keep _ _ q; rw [hm] at this; cases this
    · exact old _ (by rw [List.map_append]; exact List.mem_append_right _ (h2 ▸ List.mem_map_of_mem hp))
  · have nd0 := H.nd
    rw [List.map_append, List.nodup_append] at nd0
    rw [List.map_append, List.nodup_append, h2]
    refine ⟨nd, nd0.2.1, fun a ha b hb e => ?_⟩
    subst e
    obtain ⟨p, hp, rfl⟩ := List.mem_map.mp ha
    rcases hn p hp with hm | hm
    · exact nd0.2.2 _ hm _ hb rfl
    · obtain ⟨q, hq, e⟩ := List.mem_map.mp hb
      have := H.on q (List.mem_append_right _ hq)
      rw [e, hm] at this; cases this
end Mine

/-! Lg21 -/
open PySem PySem.W PyProof.Rows PySem.Spec PySem.Calls
set_option maxRecDepth 100000
set_option linter.unusedVariables false
namespace Mine

theorem Fs.sub {A : Around} {hot : Hot} {fs : List Addr} (F : Fs A hot fs) : ∀ b ∈ fs, b ∈ hot.map (·.1) := fun b hb => by
  obtain ⟨l, _, q, k⟩ := F.ex
  rw [← q] at hb
  obtain ⟨env, he, hf⟩ := List.mem_filterMap.mp hb
  obtain ⟨_, L, o, m, hf', hm, _⟩ := k env he
  rw [hf] at hf'; cases hf'
  exact List.mem_map.mpr ⟨_, hm, rfl⟩
theorem Fs.slt {A : Around} {hot hot' : Hot} {fs gs : List Addr} (F : Fs A hot fs) (h : Slt gs hot hot') : Fs A hot' fs := by
  obtain ⟨l, e, q, k⟩ := F.ex
  refine ⟨l, e, q, fun env hm => ⟨(k env hm).1, ?_⟩⟩
  obtain ⟨L, o, m, a, b, c⟩ := (k env hm).2
  obtain ⟨sl, m', _⟩ := h.mem b
  exact ⟨L, _, m, a, m', c.slots sl⟩
theorem Slt.weak {fs : List Addr} {L : Addr} : ∀ {a b : Hot}, Slt (L :: fs) a b → (∀ p ∈ a, p.1 ≠ L) → Slt fs a b
  | _, _, .nil, _ => .nil
  | _, _, .cons x xs, h => .cons ⟨x.1, x.2.1, fun hn => x.2.2 fun hm => by
      rcases List.mem_cons.mp hm with q | q
      · exact h _ (.head _) q
      · exact hn q⟩ (Slt.weak xs fun p hp => h p (.tail _ hp))
theorem Slt.fst {fs : List Addr} : ∀ {a b : Hot}, Slt fs a b → b.map (·.1) = a.map (·.1)
  | _, _, .nil => rfl
  | _, _, .cons x xs => by rw [List.map_cons, List.map_cons, Slt.fst xs, x.1]
theorem Slt.mono {fs gs : List Addr} (hs : ∀ b ∈ fs, b ∈ gs) : ∀ {a b : Hot}, Slt fs a b → Slt gs a b
  | _, _, .nil => .nil
  | _, _, .cons x xs => .cons ⟨x.1, x.2.1, fun hn => x.2.2 fun hm => hn (hs _ hm)⟩ (Slt.mono hs xs)

abbrev xO (vs : Array Value) (dd : Option Addr) (sl : Array (Option Value)) : Obj := { cls := .ref 31, dict := dd, data := .fields vs, slots := sl }
/-- an exception in flight, its own objects hot; v is its kind -/
inductive Fly (v : Value) (e : Addr) : Hot → Prop where
  | fresh {D : Addr} {vs : Array Value} {sl : Array (Option Value)} {hsh : Int} {k : Nat} (hz : 1 < vs.size) (h1 : vs[1]? = some .none) : Fly v e [(e, xO vs (some D) sl), (D, dictOf [⟨hsh, .str sKind k, v⟩] 1)]
  | traced {D T : Addr} {vs ts : Array Value} {sl : Array (Option Value)} {hsh : Int} {k : Nat} {oT : Obj} (hz : 1 < vs.size) (h1 : vs[1]? = some (.ref T)) (hd : oT.data = .fields ts) (h3 : ts[3]? = some .none) :
      Fly v e [(e, xO vs (some D) sl), (D, dictOf [⟨hsh, .str sKind k, v⟩] 1), (T, oT)]

theorem leave_fin {g h h' : Heap} {X hot : Hot} {fs : List Addr} {e D T : Addr} {oe oD oT oe' : Obj} (H : At g (X ++ hot) h) (he : (e, oe) ∈ X) (hD : (D, oD) ∈ X) (hDe : D ≠ e)
    (rest : ∀ b o, b ∉ X.map (·.1) → h.get? b = some o → ∃ sl, h'.get? b = some { o with slots := sl } ∧ (b ∉ fs → h'.get? b = some o)) (sub : ∀ b ∈ fs, b ∈ hot.map (·.1)) (fe : h'.get? e = some oe') (fD : h'.get? D = some oD) (fT : h'.get? T = some oT) (new : h.get? T = none) :
    ∃ hot', Slt fs hot hot' ∧ At g ([(e, oe'), (D, oD), (T, oT)] ++ hot') h' := by
  have off : ∀ b o, (b, o) ∈ X → b ≠ T := fun b o hm q => by
    have := H.on (b, o) (List.mem_append_left _ hm)
    rw [q] at this
    rw [new] at this
    cases this
  refine H.slt rest sub (fun p hp => ?_) (fun p hp => ?_) ?_
  · rcases List.mem_cons.mp hp with rfl | hp
    · exact fe
    · rcases List.mem_cons.mp hp with rfl | hp
      · exact fD
      · exact List.mem_singleton.mp hp ▸ fT
  · rcases List.mem_cons.mp hp with rfl | hp
    · exact .inl (List.mem_map.mpr ⟨_, he, rfl⟩)
    · rcases List.mem_cons.mp hp with rfl | hp
      · exact .inl (List.mem_map.mpr ⟨_, hD, rfl⟩)
      · exact .inr (List.mem_singleton.mp hp ▸ new)
  · show [e, D, T].Nodup
    simp [hDe.symm, off e oe he, off D oD hD]

section
variable {M : Model} {A : Around} {E : Value → Shared → Prop} {s : Shared}
theorem leave_at {g : Heap} {X hot : Hot} {fs : List Addr} {v : Value} {e L : Addr} {env : Env} {outer : List Env} {Q : Unit → Shared → Prop} (F : Fs A hot fs) (hfr : A.frames = some (env :: outer)) (hf : env.frame = some L) (Y : Fly v e X) (H : At g (X ++ hot) s.heap)
    (h : ∀ X' hot' h', Fly v e X' → Slt fs hot hot' → At g (X' ++ hot') h' → Q () { s with heap := h' }) : wpAny M A (noteFrame (.ref e) env) (fun _ s' => wpAny M A (setFlight (.ref e) none) Q E s') E s := by
  obtain ⟨l, el, ef, FF⟩ := F.fun (H.sub (List.sublist_append_right X hot))
  rw [hfr] at el
  obtain rfl := Option.some.inj el
  have sub := F.sub
  have nd := H.nd
  have off : ∀ b, b ∈ X.map (·.1) → b ∉ fs := fun b hb hm => by
    rw [List.map_append, List.nodup_append] at nd
    exact nd.2.2 b hb b (sub b hm) rfl
  cases Y with
  | fresh hz h1 =>
    rename_i D vs sl hsh k
    refine leave_raw hfr FF hf (H.on (e, xO vs (some D) sl) (.head _)) rfl (.inl h1) fun h' T x => ?_
    rw [ef] at x
    obtain ⟨oT, ts, hT, hTd, h3⟩ := x.t
    have hDe : D ≠ e := fun q => by
      rw [List.map_append, List.nodup_append] at nd
      have := nd.1
      simp only [List.map_cons, List.map_nil, List.nodup_cons, List.mem_singleton] at this
      exact this.1 q.symm
    obtain ⟨_, _, hD⟩ := x.rest D _ hDe (by rw [h1]; intro q; cases q) (H.on (D, dictOf [⟨hsh, .str sKind k, v⟩] 1) (.tail _ (.head _)))
    obtain ⟨hot', q1, q2⟩ := leave_fin H (.head _) (.tail _ (.head _)) hDe (fun b o hb hbo => x.rest b o (fun q => hb (q ▸ .head _)) (by rw [h1]; intro q; cases q) hbo) sub x.fe (hD (off D (.tail _ (.head _)))) hT x.new
    exact h _ hot' h' (.traced (by simpa using hz) (by simp [hz]) hTd h3) q1 q2
  | traced hz h1 hd h3 =>
    rename_i D T0 vs ts0 sl hsh k oT0
    have ndx := nd
    rw [List.map_append, List.nodup_append] at ndx
    have ndx := ndx.1
    simp only [List.map_cons, List.map_nil, List.nodup_cons, List.mem_cons, List.mem_singleton, List.not_mem_nil, or_false, not_or] at ndx
    refine leave_raw hfr FF hf (H.on (e, xO vs (some D) sl) (.head _)) rfl (.inr ⟨T0, oT0, ts0, h1, fun q => ndx.1.2 q.symm, H.on (T0, oT0) (.tail _ (.tail _ (.head _))), hd, h3⟩) fun h' T x => ?_
    rw [ef] at x
    obtain ⟨oT, ts, hT, hTd, h3'⟩ := x.t
    have hDe : D ≠ e := fun q => ndx.1.1 q.symm
    have hold : ∀ b, vs[1]? = some (.ref b) → b = T0 := fun b q => by rw [h1] at q; cases q; rfl
    obtain ⟨_, _, hD⟩ := x.rest D _ hDe (fun q => ndx.2.1 (hold D q)) (H.on (D, dictOf [⟨hsh, .str sKind k, v⟩] 1) (.tail _ (.head _)))
    obtain ⟨hot', q1, q2⟩ := leave_fin H (.head _) (.tail _ (.head _)) hDe (fun b o hb hbo => x.rest b o (fun q => hb (q ▸ .head _)) (fun q => hb (hold b q ▸ .tail _ (.tail _ (.head _)))) hbo) sub x.fe (hD (off D (.tail _ (.head _)))) hT x.new
    exact h _ hot' h' (.traced (by simpa using hz) (by simp [hz]) hTd h3') q1 q2
/-- the flight's mark is wiped once more -/
theorem wipe_at {g : Heap} {X hot : Hot} {v : Value} {e : Addr} {Q : Unit → Shared → Prop} (Y : Fly v e X) (H : At g (X ++ hot) s.heap) (h : ∀ X' h', Fly v e X' → At g (X' ++ hot) h' → Q () { s with heap := h' }) : wpAny M A (setFlight (.ref e) none) Q E s := by
  unfold setFlight
  cases Y with
  | fresh hz h1 =>
    rename_i D vs sl hsh k
    refine wpAny_bind (wpAny_field (H.on (e, xO vs (some D) sl) (.head _)) rfl h1 ?_)
    rw [if_neg (by decide)]
    exact wpAny_pure (h _ _ (.fresh hz h1) H)
  | traced hz h1 hd h3 =>
    rename_i D T0 vs ts0 sl hsh k oT0
    refine wpAny_bind (wpAny_field (H.on (e, xO vs (some D) sl) (.head _)) rfl h1 ?_)
    rw [if_pos (show (Value.ref T0 != Value.none) = true from by simp)]
    have hT := H.on (T0, oT0) (.tail _ (.tail _ (.head _)))
    have hsz := (Array.getElem?_eq_some_iff.mp h3).1
    refine wpAny_setField hT hd hsz ?_
    have e' := Heap.get?_update_self (Obj.mapFields (·.setIfInBounds 3 ((none : Option Addr).elim Value.none fun f => rawInt f))) hT (Obj.isFreed_of_fields (Obj.data_mapFields hd _))
    have H' : At g ([(e, xO vs (some D) sl), (D, dictOf [⟨hsh, .str sKind k, v⟩] 1)] ++ (T0, _) :: hot) _ := At.setAt (l1 := [(e, xO vs (some D) sl), (D, dictOf [⟨hsh, .str sKind k, v⟩] 1)]) H (Heap.SameBut.update ..) e'
    exact h [(e, xO vs (some D) sl), (D, dictOf [⟨hsh, .str sKind k, v⟩] 1), (T0, _)] _ (.traced hz h1 (Obj.data_mapFields hd _) (by simp [hsz])) H'
end

/-- statements that end in a raise of our own exception -/
def Ex {α : Type} (w : World) (A : Around) (L : Addr) (g : Heap) (m : Loc) (hot : Hot) (t : Sem α) (V : Value → Prop) (S : Heap → Loc → Hot → Prop) : Prop :=
  ∀ (o : Obj), ObjNs o m → ∀ (s : Shared) (Q : α → Shared → Prop) (E : Value → Shared → Prop) (g0 : Heap), Le g g0 → At g0 ((L, o) :: hot) s.heap →
    (∀ v e X g1 m1 hot1 o1 h1 tk, Le g0 g1 → ObjNs o1 m1 → V v → Fly v e X → At g1 (X ++ (L, o1) :: hot1) h1 → S g1 m1 hot1 → E (.ref e) { s with heap := h1, toks := tk }) → wpAny (MM w) A t Q E s
/-- a call that ends so -/
def Rz {α : Type} (w : World) (A : Around) (g : Heap) (hot : Hot) (t : Sem α) (fs : List Addr) (V : Value → Prop) : Prop :=
  ∀ (s : Shared) (Q : α → Shared → Prop) (E : Value → Shared → Prop) (g0 : Heap), Le g g0 → At g0 hot s.heap →
    (∀ v e X g1 hot1 h1 tk, Le g0 g1 → V v → Fly v e X → Slt fs hot hot1 → At g1 (X ++ hot1) h1 → E (.ref e) { s with heap := h1, toks := tk }) → wpAny (MM w) A t Q E s

section
variable {w : World} {A : Around} {g : Heap} {m : Loc} {hot : Hot} {env : Env} {pos : Pos} {rest : List Stmt} {V : Value → Prop} {S : Heap → Loc → Hot → Prop}
theorem exAsg {x : Str} {np : Pos} {e : Expr} {R1 : Heap → Value → Prop} (c : ∀ o, ObjNs o m → Cn w A g ((env.locals, o) :: hot) (eval e env) R1)
    (k : ∀ g1 u, Le g g1 → R1 g1 u → Ex w A env.locals g1 (up m x u) hot (execs rest env) V S)
    (hs : swapsWith e (some (.Name x np)) pos.line env = pure false := by rfl) (hl : env.kindOf x = some .local := by rfl) (hp : plainB env := by rfl) :
    Ex w A env.locals g m hot (execs (.Assign [.Name x np] e pos :: rest) env) V S := fun o hn s Q E g0 l H hE =>
  wpAny_execs_cons (wpAny_Assign_Name (c o hn s _ E g0 l H fun u g1 h1 tk l1 H1 r1 => store hn H1 (fun o' h' tk' hn' H' =>
    k g1 u (l.tr l1) r1 o' hn' _ Q E g1 (Le.rf _) H' fun v e X g2 m2 hot2 o2 h2 tk2 l2 hn2 hv Y H2 r2 => hE v e X g2 m2 hot2 o2 h2 tk2 (l1.tr l2) hn2 hv Y H2 r2) hl hp) hs)
theorem exIf {test : Expr} {body orelse : List Stmt} (c : ∀ o, ObjNs o m → Ts w A g ((env.locals, o) :: hot) test env true)
    (k : ∀ g1, Le g g1 → Ex w A env.locals g1 m hot (execs body env) V S) :
    Ex w A env.locals g m hot (execs (.If test body orelse pos :: rest) env) V S := fun o hn s Q E g0 l H hE => by
  refine wpAny_execs_cons (wpAny_If (c o hn s _ E g0 l H fun u g1 h1 tk l1 H1 r1 => ?_))
  subst r1
  rw [if_pos rfl]
  exact k g1 (l.tr l1) o hn _ _ E g1 (Le.rf _) H1 fun v e X g2 m2 hot2 o2 h2 tk2 l2 hn2 hv Y H2 r2 => hE v e X g2 m2 hot2 o2 h2 tk2 (l1.tr l2) hn2 hv Y H2 r2
end
end Mine

/-! Lg22 -/
open PySem PySem.W PyProof.Rows PySem.Spec PySem.Calls
set_option maxRecDepth 100000
set_option linter.unusedVariables false
namespace Mine

section
variable {w : World} {A : Around} {g : Heap} {m : Loc} {hot : Hot} {env : Env} {pos : Pos} {rest : List Stmt} {V : Value → Prop} {S : Heap → Loc → Hot → Prop} {fs : List Addr}
/-- raise BasicError(e1) -/
theorem exRaise {x : Str} {np cpos : Pos} {e1 : Expr} (hh : A.handled = none) (W : Wd w g) (hd : A.depth < 880) (en : nsIn (KK w.params) mainGlobals x = some (some (.ref 31)))
    (c : ∀ o, ObjNs o m → Cn w A g ((env.locals, o) :: hot) (eval e1 env) fun _ u => V u) (r : ∀ g1, Le g g1 → S g1 m hot)
    (he : starEach [e1] env = [(false, eval e1 env)] := by rfl) (hgl : env.globals = mainGlobals := by rfl)
    (hk : env.scope.kind = .function := by rfl) (hl : env.kindOf x = some .globalImplicit := by rfl) (hdb : (x == ("__debug__" : Str)) = false := by decide) :
    Ex w A env.locals g m hot (execs (.Raise (some (.Call (.Name x np) [e1] [] cpos)) none pos :: rest) env) V S := fun o hn s Q E g0 l H hE => by
  refine wpAny_execs_cons ?_
  rw [arm_exec_Raise, arm_evalOpt_some, show evalOpt none env = none from rfl]
  dsimp only [Option.map]
  refine wpAny_bind (wpAny_standAt (raise31 hh (wpAny_bind ?_)))
  refine wpAny_Call_NameR (nmg (R := fun _ v => v = .ref 31) W en (fun _ _ => rfl) hgl hk hl hdb s _ E g0 l H fun v g1 h1 tk l1 H1 r1 => ?_)
  subst r1
  have X1 : (KK w.params).In h1 := fun a o e => ((l.tr l1).tr H1.keep) _ _ (W.X a o e)
  refine callWith_K (K := KK w.params) (f := .ref 31) (first := []) X1 rfl (arg1 (c o hn) (fun _ _ _ _ h => h) he _ _ E g1 (l.tr l1) H1 fun vs g2 h2 tk2 l2 H2 r2 => ?_) he
  obtain ⟨a, rfl, ra⟩ := r2
  have X2 : (KK w.params).In h2 := fun a o e => (((l.tr l1).tr l2).tr H2.keep) _ _ (W.X a o e)
  refine ⟨X2, ?_⟩
  refine c_exc hd (W.up ((l.tr l1).tr l2)) _ _ E g2 (Le.rf _) H2 fun v g3 hot3 h3 tk3 l3 H3 r3 => ?_
  obtain ⟨e, t, D, hsh, k, rfl, rfl⟩ := r3
  have l3' := ((l.tr l1).tr l2).tr l3
  refine wpAny_bind (wpAny_standAt (wpAny_pure ⟨e, t, _, rfl, fun a o e => (l3'.tr H3.keep) _ _ (W.X a o e), H3.on _ (.tail _ (.head _)), ?_⟩))
  exact hE a e _ g3 m hot o h3 tk3 ((l1.tr l2).tr l3) hn ra (.fresh (vs := fresh5 t) (sl := #[]) (by simp) rfl) H3.swap (r g3 l3')

theorem Rz.perm {α : Type} {t : Sem α} {hot' : Hot} (c : Rz w A g hot t fs V) (q : hot' = hot) : Rz w A g hot' t fs V := q ▸ c
/-- a def whose body raises -/
theorem enterX {f : Addr} {fo : Obj} {fd : FuncData} {body : List Stmt} {binds : List (Str × Value)} {vs : List Value} (W : Wd w g) (F : Fs A hot fs) (ho : (KK w.params).lookup f = some fo) (hd : fo.data = .func fd) (hb : fd.body = .stmts body) (hcd : codeIn (KK w.params) fd.code fd.qualname = true) (hbind : bindArgs fd ⟨vs, []⟩ = pure binds)
    (hroom : A.depth < recursionLimit)
    (k : ∀ L cells, CellsAre (bindC (callEnvC fd L f).kindOf binds fun _ => none) (cellsFrom (L + 1) fd.scope.names []) cells → (∀ o m, ObjNs o m → Fs (A.deeper (callEnvC fd L f)) ((L, o) :: (cells ++ hot)) (L :: fs)) →
      Ex w (A.deeper (callEnvC fd L f)) (callEnvC fd L f).locals g (bindL (callEnvC fd L f).kindOf binds fun _ => none) (cells ++ hot) (execs body (callEnvC fd L f)) V fun g1 m1 hot1 => ∃ ex hot2, hot1 = ex ++ hot2 ∧ Slt (L :: fs) hot hot2)
    (hkind : (binds.all fun y => fd.scope.names.lookup y.1 == some .local || fd.scope.names.lookup y.1 == some .cell) = true) (hnd : ((cellsFrom 0 fd.scope.names []).map (·.1)).Nodup) (hclo : fd.closure = [])
    (hco : fd.scope.isCoroutine = false := by rfl) (hgen : fd.scope.isGenerator = false := by rfl) (hk : fd.scope.kind = .function := by rfl) : Rz w A g hot (call (.ref f) vs) fs V := fun s Q E g0 l H hE => by
  refine wpAny_call (codeAny_call_cells hroom ((l.tr H.keep) _ _ (W.X _ _ ho)) hd ((limit_ns w W).keeps (l.tr H.keep)) (codeRec_of (fun a o e => (l.tr H.keep) _ _ (W.X a o e)) hcd) hb hbind hclo (kindsX hkind _) (fun s1 x => ?_) hco hgen hk)
  obtain ⟨h0, tk0, rfl⟩ := x.toInCall.same
  obtain ⟨o, ho', hn⟩ := ObjNs.of x.toInCall.ns
  have H' : At g0 hot h0 := H.grow x.toInCall.keep
  obtain ⟨cells, NC, Y⟩ := Cl.news (h₀ := s.heap) (Nat.le_refl _) fun n c hm => ⟨x.cell n c (lookup_of_mem_nodup (cellsFrom_names fd.scope.names 0 (s.heap.objs.size + 1) [] [] rfl ▸ hnd) hm), x.above n c hm⟩
  have nlt : ∀ b, s.heap.objs.size ≤ b → g0.get? b = none := fun b hb => by
    cases q : g0.get? b with
    | none => rfl
    | some o' => exact absurd (Heap.lt_size (H.keep _ _ q)) (Nat.not_lt.mpr hb)
  have labove : ∀ p ∈ cells, s.heap.objs.size < p.1 := fun p hp => by
    have : p.1 ∈ cells.map (·.1) := List.mem_map_of_mem hp
    rw [cells_addrs Y] at this
    obtain ⟨⟨n, c⟩, hc, e⟩ := List.mem_map.mp this
    rw [← e]
    exact x.above n c hc
  have cnd : (cells.map (·.1)).Nodup := by
    rw [cells_addrs Y]
    exact (List.pairwise_map.mpr x.apart)
  have hotlt : ∀ p ∈ hot, p.1 < s.heap.objs.size := fun p hp => Heap.lt_size (H.on p hp)
  have H0 : At g0 ((s.heap.objs.size, o) :: (cells ++ hot)) h0 := by
    refine ⟨H'.keep, fun p hp => ?_, fun p hp => ?_, ?_⟩
    · rcases List.mem_cons.mp hp with rfl | hp
      · exact ho'
      · rcases List.mem_append.mp hp with hp | hp
        · exact (NC p hp).1
        · exact H'.on p hp
    · rcases List.mem_cons.mp hp with rfl | hp
      · exact nlt _ (Nat.le_refl _)
      · rcases List.mem_append.mp hp with hp | hp
        · exact nlt _ (Nat.le_of_lt (labove p hp))
        · exact H'.sep p hp
    · have lt : ∀ b ∈ hot.map (·.1), b < s.heap.objs.size := fun b hb => by
        obtain ⟨p, hp, rfl⟩ := List.mem_map.mp hb
        exact hotlt p hp
      rw [List.map_cons, List.map_append, List.nodup_cons, List.nodup_append]
      refine ⟨fun hm => ?_, cnd, H.nd, fun a ha b hb e => ?_⟩
      · rcases List.mem_append.mp hm with hm | hm
        · obtain ⟨p, hp, e⟩ := List.mem_map.mp hm
          have := labove p hp
          rw [e] at this
          exact Nat.lt_irrefl _ this
        · exact Nat.lt_irrefl _ (lt _ hm)
      · obtain ⟨p, hp, rfl⟩ := List.mem_map.mp ha
        subst e
        exact Nat.lt_irrefl _ (Nat.lt_trans (labove p hp) (lt _ hb))
  have hkm : (callEnvC fd s.heap.objs.size f).scope.kind ≠ .module := by show fd.scope.kind ≠ .module; rw [hk]; decide
  have FF : ∀ o m, ObjNs o m → Fs (A.deeper (callEnvC fd s.heap.objs.size f)) ((s.heap.objs.size, o) :: (cells ++ hot)) (s.heap.objs.size :: fs) := fun o m hn => (F.up fun p hp => List.mem_append_right _ hp).push rfl hkm hn
  refine k _ cells Y FF o hn _ _ _ g0 l H0 fun v e X g1 m1 hot1 o1 h1 tk l1 hn1 hv YF H1 r1 => ?_
  obtain ⟨ex, hot2, rfl, r1⟩ := r1
  obtain ⟨lf, elf, _⟩ := F.ex
  have F1 : Fs (A.deeper (callEnvC fd s.heap.objs.size f)) ((s.heap.objs.size, o1) :: (ex ++ hot2)) (s.heap.objs.size :: fs) := ((F.slt r1).up fun p hp => List.mem_append_right _ hp).push rfl hkm hn1
  refine wpAny_bind (leave_at F1 (Around.frames_deeper elf) rfl YF H1 fun X' hot' h' Y' q1 H2 => ?_)
  cases q1 with
  | cons x1 q1 =>
    obtain ⟨ex', hot3, rfl, _, q3⟩ := q1.app
    have q4 : Slt (s.heap.objs.size :: fs) hot hot3 := r1.tr (fun _ h => h) q3
    have q5 : Slt fs hot hot3 := q4.weak fun p hp => Nat.ne_of_lt (hotlt p hp)
    refine hE v e X' g1 hot3 h' tk l1 hv Y' q5 (H2.sub ?_)
    exact (List.Sublist.refl X').append ((List.sublist_append_right ex' hot3).cons _)
end
end Mine

/-! Lg23 -/
open PySem PySem.W PyProof.Rows PySem.Spec PySem.Calls
set_option maxRecDepth 100000
set_option linter.unusedVariables false
namespace Mine

theorem Fly.at {v : Value} {e : Addr} {X : Hot} (Y : Fly v e X) : ∃ vs D sl hsh k, (e, xO vs (some D) sl) ∈ X ∧ (D, dictOf [⟨hsh, .str sKind k, v⟩] 1) ∈ X := by
  cases Y <;> exact ⟨_, _, _, _, _, .head _, .tail _ (.head _)⟩

section
variable {w : World} {A : Around} {g : Heap} {m : Loc} {hot : Hot} {env : Env} {pos : Pos} {rest : List Stmt} {V : Value → Prop} {S : Heap → Loc → Hot → Prop} {fs : List Addr}
theorem rzCall {x : Str} {np : Pos} {e : Expr} {rest : List Expr} {f : Addr} {fo : Obj} {fd : FuncData} {S : Heap → List Value → Prop} (W : Wd w g) (en : nsIn (KK w.params) mainGlobals x = some (some (.ref f))) (ho : (KK w.params).lookup f = some fo) (hd : fo.data = .func fd)
    (c : Cn w A g hot (spliced (backTo pos (starEach (e :: rest) env))) S) (k : ∀ g1 vs, Le g g1 → S g1 vs → Rz w A g1 hot (call (.ref f) vs) fs V)
    (he : starEach (e :: rest) env = (false, eval e env) :: starEach rest env := by rfl) (hgl : env.globals = mainGlobals := by rfl)
    (hk : env.scope.kind = .function := by rfl) (hl : env.kindOf x = some .globalImplicit := by rfl) (hdb : (x == ("__debug__" : Str)) = false := by decide) :
    Rz w A g hot (eval (.Call (.Name x np) (e :: rest) [] pos) env) fs V := fun s Q E g0 l H hE => by
  refine wpAny_Call_NameR (nmg (R := fun _ v => v = .ref f) W en (fun _ _ => rfl) hgl hk hl hdb s _ E g0 l H fun v g1 h1 tk l1 H1 r1 => ?_)
  subst r1
  refine callWith_def hd (c _ _ E g1 (l.tr l1) H1 fun vs g2 h2 tk2 l2 H2 r2 => ⟨(((l.tr l1).tr l2).tr H2.keep) _ _ (W.X _ _ ho), ?_⟩) he
  exact k g2 vs ((l.tr l1).tr l2) r2 _ _ E g2 (Le.rf _) H2 fun v e X g3 hot3 h3 tk3 l3 hv Y q H3 => hE v e X g3 hot3 h3 tk3 ((l1.tr l2).tr l3) hv Y q H3
theorem rzTup {e e2 : Expr} {k : Nat} (c : Rz w A g hot (eval e env) fs V) (he : starEach [e, e2] env = [(false, eval e env), (false, eval e2 env)] := by rfl) : Rz w A g hot (eval (.Tuple [e, e2] k pos) env) fs V := fun s Q E g0 l H hE =>
  Tuple_ (by rw [he]; exact spliced_cons (c s _ E g0 l H hE))
theorem exAsgT {elts : List Expr} {kk : Nat} {tp : Pos} {e : Expr} (c : ∀ o, ObjNs o m → Rz w A g ((env.locals, o) :: hot) (eval e env) fs V) (k : ∀ g1 hot1, Le g g1 → Slt fs hot hot1 → S g1 m hot1)
    (hs : swapsWithSole [.Tuple elts kk tp] e pos.line env = pure false := by rfl) (hw : swappedStores [.Tuple elts kk tp] e env = pure none := by rfl) :
    Ex w A env.locals g m hot (execs (.Assign [.Tuple elts kk tp] e pos :: rest) env) V S := fun o hn s Q E g0 l H hE =>
  wpAny_execs_cons (Assign_Tuple (c o hn s _ E g0 l H fun v e X g1 hot1 h1 tk l1 hv Y q H1 => by
    obtain ⟨o', hot', rfl, hn', q'⟩ := q.ns hn
    exact hE v e X g1 m hot' o' h1 tk l1 hn' hv Y H1 (k g1 hot' (l.tr l1) q')) hs hw)
theorem exRet {e : Expr} (c : ∀ o, ObjNs o m → Rz w A g ((env.locals, o) :: hot) (eval e env) fs V) (k : ∀ g1 hot1, Le g g1 → Slt fs hot hot1 → S g1 m hot1) :
    Ex w A env.locals g m hot (execs (.Return (some e) pos :: rest) env) V S := fun o hn s Q E g0 l H hE =>
  wpAny_execs_cons (wpAny_Return_some (c o hn s _ E g0 l H fun v e X g1 hot1 h1 tk l1 hv Y q H1 => by
    obtain ⟨o', hot', rfl, hn', q'⟩ := q.ns hn
    exact hE v e X g1 m hot' o' h1 tk l1 hn' hv Y H1 (k g1 hot' (l.tr l1) q')))

variable {R : Flow → Heap → Loc → Hot → Prop}
/-- a try whose body ends well -/
theorem eTryN {body : List Stmt} {h₀ : ExceptHandler} {hs : List ExceptHandler} (c : Em w A env.locals g m hot (execs body env) fun fl g1 m1 hot1 => (∃ v, fl = .ret v) ∧ R fl g1 m1 hot1) :
    Em w A env.locals g m hot (execs (.Try body (h₀ :: hs) [] [] pos :: rest) env) R := fun o hn s Q E g0 l H hQ =>
  wpAny_execs_cons (wpAny_Try_except (c o hn s _ _ g0 l H fun fl g1 m1 hot1 o1 h1 tk l1 hn1 H1 r1 => by
    obtain ⟨⟨v, rfl⟩, r1⟩ := r1
    exact hQ _ g1 m1 hot1 o1 h1 tk l1 hn1 H1 r1))
/-- a try whose body raises: except BasicError as n: return n.kind -/
theorem eTryX {body : List Stmt} {x n : Str} {np p1 p2 p3 hp : Pos} (W : Wd w g) (en : nsIn (KK w.params) mainGlobals x = some (some (.ref 31))) (hV : ∀ v, V v → handedIn v = true) (c : Ex w A env.locals g m hot (execs body env) V S)
    (F : ∀ g1 m1 hot1 o1, S g1 m1 hot1 → ObjNs o1 m1 → Fs A ((env.locals, o1) :: hot1) fs) (hfr : ∃ outer, A.frames = some (env :: outer)) (hf : env.frame = some env.locals)
    (r : ∀ g1 g2 m1 m2 hot1 hot2 X v, Le g g1 → Le g1 g2 → S g1 m1 hot1 → V v → Slt fs hot1 hot2 → R (.ret v) g2 m2 (X ++ hot2))
    (hgl : env.globals = mainGlobals := by rfl) (hk : env.scope.kind = .function := by rfl) (hl : env.kindOf x = some .globalImplicit := by rfl) (hdb : (x == ("__debug__" : Str)) = false := by decide) (hdn : (n == ("__debug__" : Str)) = false := by decide)
    (hn : env.kindOf n = some .local := by rfl) (hp' : plainB env := by rfl)
    (he : eval (.Attribute (.Name n p1) sKind p2) env = (do
      let o ← eval (.Name n p1) env
      standAt p2.atName
      let r ← holding [o] (getAttr o sKind true)
      letTemporaryGo (.Name n p1) o r
      pure r) := by with_unfolding_all rfl) :
    Em w A env.locals g m hot (execs (.Try body [.ExceptHandler (some (.Name x np)) (some n) [.Return (some (.Attribute (.Name n p1) sKind p2)) p3] hp] [] [] pos :: rest) env) R := fun o hno s Q E g0 l H hQ => by
  refine wpAny_execs_cons (wpAny_Try_except (c o hno s _ _ g0 l H fun v e X g1 m1 hot1 o1 h1 tk l1 hn1 hv Y H1 hS => ?_))
  obtain ⟨outer, hfr⟩ := hfr
  refine leave_at (F g1 m1 hot1 o1 hS hn1) hfr hf Y H1 fun X2 hot2 h2 Y2 q2 H2 => ?_
  have X2' : (KK w.params).In h2 := fun a o e => ((l.tr l1).tr H2.keep) _ _ (W.X a o e)
  refine wpAny_handleBy_cons (codeAny_handlers_test ?_) (by intro q; cases q)
  refine nmg (R := fun _ v => v = .ref 31) (W.up (l.tr l1)) en (fun _ _ => rfl) hgl hk hl hdb _ _ _ g1 (Le.rf _) H2 fun u g3 h3 tk3 l3 H3 r3 => ?_
  subst r3
  obtain ⟨nm, q, N, bs, hdct, sn, sub, ab, col, dd0, k0, k1, k2, k3, k5, mN, hC', _, _⟩ := cls31 w
  have hC := (fun a o e => (((l.tr l1).tr l3).tr H3.keep) _ _ (W.X a o e) : (KK w.params).In h3) _ _ hC'
  obtain ⟨vs2, D2, sl2, hs2, j2, n2, _⟩ := Y2.at
  have he1 := H3.on _ (List.mem_append_left _ n2)
  refine wpAny_excMatches_sub_self hC he1 rfl rfl ?_
  refine codeAny_handlers_suite_as ?_
  refine wipe_at Y2 H3 fun X4 h4 Y4 H4 => ?_
  obtain ⟨o2, hot2', rfl, hn2, q2'⟩ := q2.ns hn1
  have H4' : At g3 ((env.locals, o2) :: (X4 ++ hot2')) h4 := H4.perm List.perm_middle
  refine store hn2 H4' (fun o5 h5 tk5 hn5 H5 => ?_) hn hp'
  refine wpAny_execs_cons (wpAny_Return_some (Attribute_Name_ ?_ he))
  refine nV (v := .ref e) (.head _) hn5 (if_pos rfl) hk hn hdn _ _ _ g3 (Le.rf _) H5 fun u g6 h6 tk6 l6 H6 r6 => ?_
  subst r6
  have X6 : (KK w.params).In h6 := fun a o e => ((((l.tr l1).tr l3).tr l6).tr H6.keep) _ _ (W.X a o e)
  have fin : ∀ tk, wpAny (MM w) A (do bindName env n .none; unbindBehindTheSuite env n hp) (fun _ s₃ => Q (.ret v) s₃) E { s with heap := h6, toks := tk } := fun tk =>
    wpAny_nameGoes hn (hn5.ns (H6.on _ (.head _))) hp' fun h7 m7 hns hsb => by
      obtain ⟨o7, e7, hn7⟩ := ObjNs.of hns
      have H7 := H6.set hsb e7
      exact hQ (.ret v) g6 m7 (X4 ++ hot2') o7 h7 _ ((l1.tr l3).tr l6) hn7 H7 (r g1 g6 m1 m7 hot1 hot2' X4 v (l.tr l1) (l3.tr l6) hS hv q2')
  obtain ⟨vs4, D4, sl4, hs4, j4, n4, n5⟩ := Y4.at
  exact exc_get (fs := #[]) X6 ⟨_, _, H6.on _ (.tail _ (List.mem_append_left _ n4))⟩ ⟨_, H6.on _ (.tail _ (List.mem_append_left _ n5))⟩ (hV v hv) fin
end
end Mine

/-! C15 -/
open PySem PySem.W PyProof.Rows PySem.Spec PySem.Calls
set_option maxRecDepth 100000
set_option linter.unusedVariables false
namespace Mine

def isFC (v : Value) : Prop := ∃ t, v = .str "FC" t
theorem Cc.imp {w : World} {A : Around} {g : Heap} {hot : Hot} {t : Sem Value} {R R' : Heap → Hot → Value → Prop} (c : Cc w A g hot t R) (h : ∀ g1 hot1 v, Le g g1 → R g1 hot1 v → R' g1 hot1 v) : Cc w A g hot t R' := fun s Q E g0 l H hQ =>
  c s Q E g0 l H fun v g1 hot1 h1 tk l1 H1 r => hQ v g1 hot1 h1 tk l1 H1 (h g1 hot1 v (l.tr l1) r)
theorem Em.apart {α : Type} {w : World} {A : Around} {L : Addr} {g : Heap} {m : Loc} {hot : Hot} {t : Sem α} {R : α → Heap → Loc → Hot → Prop} (k : (∀ p ∈ hot, p.1 ≠ L) → Em w A L g m hot t R) : Em w A L g m hot t R := fun o hn s Q E g0 l H =>
  k (fun p hp q => (List.nodup_cons.mp (show (L :: hot.map (·.1)).Nodup from by simpa using H.nd)).1 (q ▸ List.mem_map_of_mem hp)) o hn s Q E g0 l H

set_option maxHeartbeats 4000000 in
theorem c_newX {w : World} {A : Around} {g : Heap} {hot : Hot} {fs : List Addr} (p : Pg) {ns : List Int} {k : Nat} {new old step : Int} {vn vo vs : Value} (F : Fs A hot fs) (hh : A.handled = none) (hd : A.depth < 850) (P : PgIn p w g hot) (W : Wd w g) (hi : IntsV p.nv ns) (hs : ns.Pairwise (· < ·)) (hz : ns.length < 100)
    (h1 : IsI new vn) (h2 : IsI old vo) (h3 : IsI step vs) (hk : PlaceAt ns old k) (hb : badNs ns k new step = true) (hm1 : IntMulOk step (((ns.length - k : Nat) : Int) - 1)) :
    Rz w A g hot (call (.ref 99) [.ref p.pa, vn, vo, vs]) fs isFC := by
  refine enterX W F rfl rfl rfl rfl rfl (rlt hd) (fun L cells hc FF => ?_) rfl (by decide +kernel) rfl
  obtain ⟨os, on, rfl, hos, hon⟩ := hc.two
  have mem : ∀ (o : Obj), ∀ q ∈ hot, q ∈ ((L, o) :: (L + 2, os) :: (L + 1, on) :: hot) := fun o q hq => .tail _ (.tail _ (.tail _ hq))
  refine exAsg (R1 := fun _ v => IsI k v) (fun o ho => ?_) fun gA vk lA hvk => ?_
  · refine calldef (f := 63) W rfl rfl rfl (arg2 (nV (.head _) ho rfl) fun _ _ => nV (.head _) ho rfl) fun g1 us l1 r => ?_
    obtain ⟨a, b, rfl, rfl, rfl⟩ := r
    exact Cn.imp (c_place p hh (show A.depth + 1 < 900 from dlt hd (by decide)) (P.to l1 (mem _)) (W.up l1) hi hs hz h2) fun g2 v l2 ⟨k', e1, e2⟩ => hk.uniq e2 ▸ e1
  have hkl := hk.1
  refine exAsg (R1 := fun _ v => IsI ((ns.length - k : Nat) : Int) v) (fun o ho => ?_) fun gB vm lB hvm => ?_
  · have e : ((ns.length - k : Nat) : Int) = (ns.length : Int) - k := Int.ofNat_sub hkl
    rw [e]
    refine bin (R1 := fun _ v => IsI ns.length v) (callbi (id := "len") (W.up lA) rfl rfl (arg1 (attrNm (nV (.head _) ho rfl) fun g2 v l2 r2 => by subst r2; exact getNumbers (W.up (lA.tr l2)) (mem _ _ P.i) (mem _ _ P.d))) fun g2 us l2 r2 => ?_) (fun _ _ _ _ => nV (.head _) ho rfl) fun g2 g3 u v l2 l3 ru rv => by subst rv; exact oSub ru hvk
    obtain ⟨a, rfl, rfl⟩ := r2
    exact hi.1 ▸ bLen (P.to (lA.tr l2) (mem _)).n.l (by rw [hi.1]; exact Nat.lt_trans hz (by decide))
  have lAB := lA.tr lB
  refine exAsg (R1 := fun _ v => IsI (leastOf ns k) v) (fun o ho => ?_) fun gC vl lC hvl => ?_
  · refine ifexp (b := decide ((k : Int) > 0)) (tCmp (nV (.head _) ho rfl) (fun _ _ _ _ => cI) fun g2 g3 u v l2 l3 ru rv => by subst ru; exact (cGt hvk rv).imp fun _ _ _ r => ⟨_, r, rfl⟩) (fun hb g2 l2 => ?_) fun hb g2 l2 => ?_
    · have hk0 : 0 < k := Int.natCast_pos.mp (of_decide_eq_true hb)
      have hk1 : k - 1 < ns.length := Nat.lt_of_lt_of_le (Nat.sub_lt hk0 Nat.one_pos) hkl
      obtain ⟨x, hx⟩ : ∃ x, ns[k - 1]? = some x := ⟨_, List.getElem?_eq_getElem hk1⟩
      obtain ⟨xv, hxv, hxi⟩ := hi.get hx
      have e : leastOf ns k = x + 1 := by unfold leastOf; rw [if_neg (Nat.ne_of_gt hk0), hx]; rfl
      rw [e]
      refine bin (R1 := fun _ v => IsI x v) (subs (R2 := fun _ v => IsI ((k - 1 : Nat) : Int) v) (attrNm (nV (.head _) ho rfl) fun g3 v l3 r2 => by subst r2; exact getNumbers (W.up ((lAB.tr l2).tr l3)) (mem _ _ P.i) (mem _ _ P.d)) (fun g3 _ l3 _ => ?_) fun g3 g4 u v l3 l4 ru rv => ?_) (fun _ _ _ _ => cI) fun g3 g4 u v l3 l4 ru rv => oAdd ru rv
      · have e : ((k - 1 : Nat) : Int) = (k : Int) - 1 := Int.ofNat_sub hk0
        rw [e]
        exact bin (nV (.head _) ho rfl) (fun _ _ _ _ => cI) fun g4 g5 u v l4 l5 ru rv => by subst ru; exact oSub hvk rv
      · subst ru
        exact (iList (P.to (((lAB.tr l2).tr l3).tr l4) (mem _)).n.l rv (Int.natCast_nonneg _) (ix62 hk1 (Nat.le_of_lt hz)) hxv).imp fun _ _ _ r => r ▸ hxi
    · have hk0 : k = 0 := Nat.eq_zero_of_not_pos fun z => of_decide_eq_false hb (Int.natCast_pos.mpr z)
      have e : leastOf ns k = 0 := by unfold leastOf; rw [if_pos hk0]
      rw [e]
      exact cI
  have lABC := lAB.tr lC
  refine exIf (fun o ho => ?_) fun gD lD => ?_
  · have hbe : (decide (step < 1) || (decide (new < leastOf ns k) || ((decide (((ns.length - k : Nat) : Int) > 0) && (decide (new + step * (((ns.length - k : Nat) : Int) - 1) > 65529) && true)) || false))) = true := by
      rw [Bool.and_true, Bool.or_false]; exact hb
    refine Cn.imp (R := fun _ v => v = (decide (step < 1) || (decide (new < leastOf ns k) || ((decide (((ns.length - k : Nat) : Int) > 0) && (decide (new + step * (((ns.length - k : Nat) : Int) - 1) > 65529) && true)) || false)))) ?_ fun _ v _ r => r.trans hbe
    exact tBool (tOr (tCmp (R1 := fun _ v => IsI step v) (nmc (c := L + 2) rfl (by first | exact mem1 | exact mem2 | exact mem3 | exact mem4 | exact memB mem0 | exact memB mem1 | exact memB mem2 | exact memB mem3 | exact memB mem4 | simp) hos fun _ _ => h3) (fun _ _ _ _ => cI) fun g2 g3 u v l2 l3 ru rv => (cLt ru rv).imp fun _ _ _ r => ⟨_, r, rfl⟩)
      fun hb g2 l2 => tOr (tCmp (R1 := fun _ v => IsI new v) (nmc (c := L + 1) rfl (by first | exact mem1 | exact mem2 | exact mem3 | exact mem4 | exact memB mem0 | exact memB mem1 | exact memB mem2 | exact memB mem3 | exact memB mem4 | simp) hon fun _ _ => h1) (fun _ _ _ _ => nV (.head _) ho rfl) fun g2 g3 u v l2 l3 ru rv => by subst rv; exact (cLt ru hvl).imp fun _ _ _ r => ⟨_, r, rfl⟩)
      fun hb g3 l3 => tOr (tBool (tAnd (tCmp (nV (.head _) ho rfl) (fun _ _ _ _ => cI) fun g2 g3 u v l2 l3 ru rv => by subst ru; exact (cGt hvm rv).imp fun _ _ _ r => ⟨_, r, rfl⟩)
        fun hb g4 l4 => tAnd (tCmp (R1 := fun _ v => IsI (new + step * (((ns.length - k : Nat) : Int) - 1)) v) (R2 := fun _ v => IsI 65529 v) (bin (R1 := fun _ v => IsI new v) (nmc (c := L + 1) rfl (by first | exact mem1 | exact mem2 | exact mem3 | exact mem4 | exact memB mem0 | exact memB mem1 | exact memB mem2 | exact memB mem3 | exact memB mem4 | simp) hon fun _ _ => h1) (fun g5 _ l5 _ => bin (R1 := fun _ v => IsI step v) (R2 := fun _ v => IsI (((ns.length - k : Nat) : Int) - 1) v) (nmc (c := L + 2) rfl (by first | exact mem1 | exact mem2 | exact mem3 | exact mem4 | exact memB mem0 | exact memB mem1 | exact memB mem2 | exact memB mem3 | exact memB mem4 | simp) hos fun _ _ => h3) (fun _ _ _ _ => bin (nV (.head _) ho rfl) (fun _ _ _ _ => cI) fun g2 g3 u v l2 l3 ru rv => by subst ru; exact oSub hvm rv) fun g2 g3 u v l2 l3 ru rv => oMul ru rv hm1) fun g2 g3 u v l2 l3 ru rv => oAdd ru rv)
          (fun g5 _ l5 _ => nmg (W.up ((((lABC.tr l2).tr l3).tr l4).tr l5)) rfl fun _ _ => ⟨_, rfl⟩) fun g2 g3 u v l2 l3 ru rv => (cGt ru rv).imp fun _ _ _ r => ⟨_, r, rfl⟩) fun _ _ _ => tAnd0)) fun _ _ _ => tOr0)
  · exact exRaise hh (W.up (lABC.tr lD)) (show A.depth + 1 < 880 from dlt hd (by decide)) rfl (fun o ho => cS) fun g1 l1 => ⟨[(L + 2, os), (L + 1, on)], hot, rfl, Slt.rf⟩

set_option maxHeartbeats 4000000 in
theorem c_renumX {w : World} {A : Around} {g : Heap} {hot : Hot} {fs : List Addr} (p : Pg) {ns : List Int} {k : Nat} {new old step : Int} {vn vo vs : Value} (F : Fs A hot fs) (hh : A.handled = none) (hd : A.depth < 800) (P : PgIn p w g hot) (W : Wd w g) (hi : IntsV p.nv ns) (hs : ns.Pairwise (· < ·)) (hz : ns.length < 100)
    (h1 : IsI new vn) (h2 : IsI old vo) (h3 : IsI step vs) (hk : PlaceAt ns old k) (hb : badNs ns k new step = true) (hm1 : IntMulOk step (((ns.length - k : Nat) : Int) - 1)) :
    Rz w A g hot (call (.ref 111) [.ref p.pa, vn, vo, vs]) fs isFC := by
  refine enterX W F rfl rfl rfl rfl rfl (rlt hd) (fun L cells hc FF => ?_) rfl (by decide +kernel) rfl
  refine exAsgT (fs := L :: fs) (fun o ho => rzTup ?_) fun g1 hot1 l1 q => ?_
  · refine rzCall (f := 99) W rfl rfl rfl (arg4 (nV (.head _) ho rfl) (fun _ _ => nV (.head _) ho rfl) (fun _ _ => nV (.head _) ho rfl) fun _ _ => nV (.head _) ho rfl) fun g1 us l1 r => ?_
    obtain ⟨a, b, c, d, rfl, rfl, rfl, rfl, rfl⟩ := r
    exact c_newX p (FF o _ ho) hh (show A.depth + 1 < 850 from dlt hd (by decide)) (P.to l1 fun q hq => .tail _ (List.mem_append_right _ hq)) (W.up l1) hi hs hz h1 h2 h3 hk hb hm1
  · obtain ⟨ex, hot2, rfl, _, q2⟩ := q.app
    exact ⟨ex, hot2, rfl, q2⟩

/-- _law_told where the new numbers are too small -/
theorem c_toldX {w : World} {A : Around} {g : Heap} {hot : Hot} {fs : List Addr} (p : Pg) {ns : List Int} {k : Nat} {new old step : Int} {vn vo vs : Value} (F : Fs A hot fs) (hh : A.handled = none) (hd : A.depth < 780) (P : PgIn p w g hot) (W : Wd w g) (hi : IntsV p.nv ns) (hs : ns.Pairwise (· < ·)) (hz : ns.length < 100)
    (h1 : IsI new vn) (h2 : IsI old vo) (h3 : IsI step vs) (hk : PlaceAt ns old k) (hb : badNs ns k new step = true) (hm1 : IntMulOk step (((ns.length - k : Nat) : Int) - 1)) :
    Cc w A g hot (call (.ref 149) [.ref p.pa, vn, vo, vs]) fun g1 hot1 v => Slt fs hot hot1 ∧ isFC v := by
  refine enterCc W rfl rfl rfl rfl rfl (rlt hd) (fun L cells hc => ?_) rfl (by decide +kernel) rfl
  have : cells = [] := by cases hc; rfl
  subst this
  refine Em.apart fun hap => ?_
  obtain ⟨lf, elf, _⟩ := F.ex
  refine eTryX (fs := L :: fs) (V := isFC) (S := fun g1 m1 hot1 => Slt (L :: fs) hot hot1) W rfl (fun v ⟨t, e⟩ => e ▸ rfl) (exRet (fs := L :: fs) (fun o ho => ?_) fun g1 hot1 l q => q) (fun g1 m1 hot1 o1 q hn => (F.slt q).push rfl (show (ScopeKind.function : ScopeKind) ≠ .module by decide) hn) ⟨_, Around.frames_deeper elf⟩ rfl fun g1 g2 m1 m2 hot1 hot2 X v l l2 hS hv q => ⟨X, hot2, rfl, (hS.tr (fun _ h => h) q).weak hap, hv⟩
  refine rzCall (f := 111) W rfl rfl rfl (arg4 (nV (.head _) ho rfl) (fun _ _ => nV (.head _) ho rfl) (fun _ _ => nV (.head _) ho rfl) fun _ _ => nV (.head _) ho rfl) fun g1 us l1 r => ?_
  obtain ⟨a, b, c, d, rfl, rfl, rfl, rfl, rfl⟩ := r
  exact c_renumX p (F.push rfl (show (ScopeKind.function : ScopeKind) ≠ .module by decide) ho) hh (show A.depth + 1 < 800 from dlt hd (by decide)) (P.to l1 fun q hq => .tail _ hq) (W.up l1) hi hs hz h1 h2 h3 hk hb hm1

/-- _law_told where they are not -/
theorem c_told {w : World} {A : Around} {g : Heap} {l1 l2 : Hot} (p : Pg) {ns : List Int} {rows : List (List Tk)} {k : Nat} {new old step : Int} {vn vo vs : Value} (hh : A.handled = none) (hd : A.depth < 780) (hu : A.units + 500 < cLine) (P : PgIn p w g (l1 ++ (p.da, dictOf (p.es w) p.ke) :: l2)) (hpa : (p.pa, instObj 52 p.da) ∈ l1 ++ l2)
    (W : Wd w g) (hi : IntsV p.nv ns) (hs : ns.Pairwise (· < ·)) (hr : RowsV g p.rv rows) (hg : goodRows rows) (hnr : ns.length = rows.length)
    (h1 : IsI new vn) (h2 : IsI old vo) (h3 : IsI step vs) (hk : PlaceAt ns old k) (hb : badNs ns k new step = false) (hmul : ∀ i : Nat, i ≤ 100 → IntMulOk step i) (hm1 : IntMulOk step (((ns.length - k : Nat) : Int) - 1)) :
    Cc w A g (l1 ++ (p.da, dictOf (p.es w) p.ke) :: l2) (call (.ref 149) [.ref p.pa, vn, vo, vs]) (Renumd w p l1 l2 (newNs ns k new step) (rows.map (led (mapTo ns (newNs ns k new step)))) ((lostTo ns rows ns.length).map (movedD ns (newNs ns k new step)))) := by
  refine enterCc W rfl rfl rfl rfl rfl (rlt hd) (fun L cells hc => ?_) rfl (by decide +kernel) rfl
  have : cells = [] := by cases hc; rfl
  subst this
  refine eTryN (eRetE (mCall (f := 111) W rfl rfl rfl (fun o ho => arg4 (nV (.head _) ho rfl) (fun _ _ => nV (.head _) ho rfl) (fun _ _ => nV (.head _) ho rfl) fun _ _ => nV (.head _) ho rfl) fun o ho g1 us l r => ?_))
  obtain ⟨a, b, c, d, rfl, rfl, rfl, rfl, rfl⟩ := r
  refine Cc.imp (c_renum (l1 := (L, o) :: l1) (l2 := l2) p hh (show A.depth + 1 < 800 from dlt hd (by decide)) (show A.units + 3 + 400 < cLine from ult hu (by decide)) (P.to l fun q hq => .tail _ hq) (.tail _ hpa) (W.up l) hi hs (hr.up l) hg hnr h1 h2 h3 hk hb hmul hm1) fun g2 hot2 v l2' r => ?_
  obtain ⟨p', e1, e2, e3, h1', h2', h3', h4', a, us, n, h5', h6'⟩ := r
  exact ⟨_, rfl, ⟨_, rfl⟩, [], _, rfl, .mk p' e1 e2 e3 h1' h2' h3' h4' a us n h5' h6'⟩
end Mine

/-! Lg24 -/
open PySem PySem.W PyProof.Rows PySem.Spec PySem.Calls
set_option maxRecDepth 100000
set_option linter.unusedVariables false
namespace Mine

section
variable {w : World} {A : Around} {g : Heap} {m : Loc} {hot : Hot} {env : Env} {pos : Pos} {R : Flow → Heap → Loc → Hot → Prop} {rest : List Stmt}
/-- o.attr = e, e's value new -/
theorem eSetAH {o e : Expr} {attr : Str} {pos' : Pos} {pa da C : Addr} {es : List DictEntry} {n n' : Nat} {l1 l2 : Hot} {R1 : Heap → Hot → Value → Prop} (es' : Nat → Value → List DictEntry) (W : Wd w g) (c : ∀ ob, ObjNs ob m → Ch w A g ((env.locals, ob) :: (l1 ++ (da, dictOf es n) :: l2)) (eval e env) R1)
    (ho : ∀ ob, ObjNs ob m → ∀ g1 new, Le g g1 → Cn w A g1 ((env.locals, ob) :: (new ++ (l1 ++ (da, dictOf es n) :: l2))) (eval o env) fun _ u => u = .ref pa)
    (hpa : (pa, instObj C da) ∈ l1 ++ l2)
    (hs : findIn (KK w.params) (.ref C) "__setattr__" = some (some (.builtin "object.__setattr__"))) (hp : plainOver (KK w.params) C = true) (ht : takerIn (KK w.params) C attr = some none) (hh : hasDictIn (KK w.params) C = true) (hl : (getL attr es).isSome = true)
    (he : ∀ t v, putL attr (PyData.keyHash w.params attr) (.str attr t) v es = es' t v) (hn' : putN attr es n = n') (hz : ∀ t v, (es' t v).length ≤ 1000)
    (kk : ∀ g1 g2 new v t, Le g g1 → Le g1 g2 → R1 g1 new v → Em w A env.locals g2 m (new ++ (l1 ++ (da, dictOf (es' t v) n') :: l2)) (execs rest env) R)
    (hsw : swapsWith e (some (.Attribute o attr pos')) pos.line env = pure false := by rfl) :
    Em w A env.locals g m (l1 ++ (da, dictOf es n) :: l2) (execs (.Assign [.Attribute o attr pos'] e pos :: rest) env) R := fun ob hn s Q E g0 l H hQ =>
  wpAny_execs_cons (plainObj_wpAny_Assign_Attribute (c ob hn s _ E g0 l H fun v new g1 h1 tk l1' H1 r1 => ho ob hn g1 new (l.tr l1') _ _ E g1 (Le.rf _) H1.front fun u g2 h2 tk2 l2' H2 r2 => by
    subst r2
    have e : new ++ (l1 ++ (da, dictOf es n) :: l2) = (new ++ l1) ++ (da, dictOf es n) :: l2 := by simp
    rw [e] at H2
    refine setA_at (fun t => es' t v) (W.up ((l.tr l1').tr l2')) hn H2 (by
      rcases List.mem_append.mp hpa with q | q
      · exact List.mem_append_left _ (List.mem_append_right _ q)
      · exact List.mem_append_right _ q) hs hp ht hh hl (fun t => he t v) hn' (fun t => hz t v) fun o' h' t tk' hno' H3 => ?_
    have e2 : (new ++ l1) ++ (da, dictOf (es' t v) n') :: l2 = new ++ (l1 ++ (da, dictOf (es' t v) n') :: l2) := by simp
    rw [e2] at H3
    exact kk g1 g2 new v t (l.tr l1') l2' r1 o' hno' _ Q E g2 (Le.rf _) H3 fun f g4 m4 hot4 o4 h4 tk4 l4 hn4 H4 r4 => hQ f g4 m4 hot4 o4 h4 tk4 ((l1'.tr l2').tr l4) hn4 H4 r4) hsw)
end

section
variable {w : World} {A : Around} {g : Heap} {hot : Hot} {f : Addr} {fo : Obj} {fd : FuncData} {body : List Stmt} {binds : List (Str × Value)} {vs : List Value}
theorem enterCcC {R : Heap → Hot → Value → Prop} (W : Wd w g) (ho : (KK w.params).lookup f = some fo) (hd : fo.data = .func fd) (hb : fd.body = .stmts body) (hcd : codeIn (KK w.params) fd.code fd.qualname = true) (hbind : bindArgs fd ⟨vs, []⟩ = pure binds)
    (hroom : A.depth < recursionLimit)
    (k : ∀ L cells, CellsAre (bindC (callEnvC fd L f).kindOf binds fun _ => none) (cellsFrom (L + 1) fd.scope.names []) cells → Em w (A.deeper (callEnvC fd L f)) (callEnvC fd L f).locals g (bindL (callEnvC fd L f).kindOf binds fun _ => none) (cells ++ hot) (execs body (callEnvC fd L f)) fun fl g1 m1 hot1 => ∃ ex hot2, hot1 = ex ++ hot2 ∧ R g1 hot2 (match fl with | .ret v => v | _ => .none))
    (hkind : (binds.all fun y => fd.scope.names.lookup y.1 == some .local || fd.scope.names.lookup y.1 == some .cell) = true) (hnd : ((cellsFrom 0 fd.scope.names []).map (·.1)).Nodup) (hclo : fd.closure = [])
    (hco : fd.scope.isCoroutine = false := by rfl) (hgen : fd.scope.isGenerator = false := by rfl) (hk : fd.scope.kind = .function := by rfl) {s : Shared} {Q : Result → Shared → Prop} {g0 : Heap} (l : Le g g0) (H : At g0 hot s.heap) (hQ : ∀ v g1 hot1 h1 tk, Le g0 g1 → At g1 hot1 h1 → R g1 hot1 v → Q (.ok (.ret v)) { s with heap := h1, toks := tk }) : codeAny (MM w) A (.call (.ref f) ⟨vs, []⟩) Q s := by
  refine (codeAny_call_cells hroom ((l.tr H.keep) _ _ (W.X _ _ ho)) hd ((limit_ns w W).keeps (l.tr H.keep)) (codeRec_of (fun a o e => (l.tr H.keep) _ _ (W.X a o e)) hcd) hb hbind hclo (kindsX hkind _) (fun s1 x => ?_) hco hgen hk)
  obtain ⟨h0, tk0, rfl⟩ := x.toInCall.same
  obtain ⟨o, ho', hn⟩ := ObjNs.of x.toInCall.ns
  have H' : At g0 hot h0 := H.grow x.toInCall.keep
  obtain ⟨cells, NC, Y⟩ := Cl.news (h₀ := s.heap) (Nat.le_refl _) fun n c hm => ⟨x.cell n c (lookup_of_mem_nodup (cellsFrom_names fd.scope.names 0 (s.heap.objs.size + 1) [] [] rfl ▸ hnd) hm), x.above n c hm⟩
  have nlt : ∀ b, s.heap.objs.size ≤ b → g0.get? b = none := fun b hb => by
    cases q : g0.get? b with
    | none => rfl
    | some o' => exact absurd (Heap.lt_size (H.keep _ _ q)) (Nat.not_lt.mpr hb)
  have labove : ∀ p ∈ cells, s.heap.objs.size < p.1 := fun p hp => by
    have : p.1 ∈ cells.map (·.1) := List.mem_map_of_mem hp
    rw [cells_addrs Y] at this
    obtain ⟨⟨n, c⟩, hc, e⟩ := List.mem_map.mp this
    rw [← e]
    exact x.above n c hc
  have cnd : (cells.map (·.1)).Nodup := by
    rw [cells_addrs Y]
    exact (List.pairwise_map.mpr x.apart)
  have H0 : At g0 ((s.heap.objs.size, o) :: (cells ++ hot)) h0 := by
    refine ⟨H'.keep, fun p hp => ?_, fun p hp => ?_, ?_⟩
    · rcases List.mem_cons.mp hp with rfl | hp
      · exact ho'
      · rcases List.mem_append.mp hp with hp | hp
        · exact (NC p hp).1
        · exact H'.on p hp
    · rcases List.mem_cons.mp hp with rfl | hp
      · exact nlt _ (Nat.le_refl _)
      · rcases List.mem_append.mp hp with hp | hp
        · exact nlt _ (Nat.le_of_lt (labove p hp))
        · exact H'.sep p hp
    · have lt : ∀ b ∈ hot.map (·.1), b < s.heap.objs.size := fun b hb => by
        obtain ⟨p, hp, rfl⟩ := List.mem_map.mp hb
        exact Heap.lt_size (H.on p hp)
      rw [List.map_cons, List.map_append, List.nodup_cons, List.nodup_append]
      refine ⟨fun hm => ?_, cnd, H.nd, fun a ha b hb e => ?_⟩
      · rcases List.mem_append.mp hm with hm | hm
        · obtain ⟨p, hp, e⟩ := List.mem_map.mp hm
          have := labove p hp
          rw [e] at this
          exact Nat.lt_irrefl _ this
        · exact Nat.lt_irrefl _ (lt _ hm)
      · obtain ⟨p, hp, rfl⟩ := List.mem_map.mp ha
        subst e
        exact Nat.lt_irrefl _ (Nat.lt_trans (labove p hp) (lt _ hb))
  refine k _ cells Y o hn _ _ _ g0 l H0 fun fl g1 m1 hot1 o1 h1 tk l1 hn1 H1 r1 => ?_
  obtain ⟨ex, hot2, rfl, r1⟩ := r1
  refine hQ _ g1 hot2 h1 tk l1 ?_ r1
  exact H1.drop.sub (List.sublist_append_right _ _)
end
theorem c_pinit {w : World} {A : Around} {g : Heap} {hot : Hot} {x dx : Addr} (hd : A.depth < 900) (W : Wd w g) {s : Shared} {Q : Result → Shared → Prop} {g0 : Heap} (l : Le g g0) (H : At g0 ((x, instObj 52 dx) :: (dx, dictOf [] 0) :: hot) s.heap)
    (hQ : ∀ (p : Pg) g1 h1 tk, Le g0 g1 → p.pa = x → p.da = dx → p.nv = [] → p.rv = [] → At g1 ((p.ra, listO p.rv p.re) :: (p.na, listO p.nv p.ne) :: (x, instObj 52 dx) :: (dx, dictOf (p.es w) p.ke) :: hot) h1 → Q (.ok (.ret .none)) { s with heap := h1, toks := tk }) :
    codeAny (MM w) A (.call (.ref 49) ⟨[.ref x], []⟩) Q s := by
  refine enterCcC (R := fun g1 hot1 v => v = .none ∧ ∃ p : Pg, p.pa = x ∧ p.da = dx ∧ p.nv = [] ∧ p.rv = [] ∧ hot1 = (p.ra, listO p.rv p.re) :: (p.na, listO p.nv p.ne) :: (x, instObj 52 dx) :: (dx, dictOf (p.es w) p.ke) :: hot) W rfl rfl rfl rfl rfl (rlt hd) (fun L cells hc => ?_) rfl (by decide +kernel) rfl rfl rfl rfl l H fun v g1 hot1 h1 tk l1 H1 r1 => by
    obtain ⟨rfl, p, e1, e2, e3, e4, rfl⟩ := r1
    exact hQ p g1 h1 tk l1 e1 e2 e3 e4 H1
  have : cells = [] := by cases hc; rfl
  subst this
  refine eSetAH (l1 := [(x, instObj 52 dx)]) (attr := sNumbers) (pa := x) (da := dx) (n' := 1) (fun t v => [⟨PyData.keyHash w.params sNumbers, .str sNumbers t, v⟩]) W (fun ob ho => chNil) (fun ob ho g1 new l1 => nV (.head _) ho rfl) (.head _) rfl rfl rfl rfl rfl (fun _ _ => rfl) rfl (fun _ _ => by show 1 ≤ 1000; decide) fun g1 g2 new v t l1 l2 r => ?_
  obtain ⟨a, rfl, rfl⟩ := r
  refine eSetAH (l1 := [(a, listO [] 0), (x, instObj 52 dx)]) (attr := sRows) (pa := x) (da := dx) (n' := 2) (fun t2 v => [⟨PyData.keyHash w.params sNumbers, .str sNumbers t, .ref a⟩, ⟨PyData.keyHash w.params sRows, .str sRows t2, v⟩]) (W.up (l1.tr l2)) (fun ob ho => chNil) (fun ob ho g1 new l1 => nV (.head _) ho rfl) (.tail _ (.head _)) rfl rfl rfl rfl rfl (fun _ _ => rfl) rfl (fun _ _ => by show 2 ≤ 1000; decide) fun g3 g4 new v t2 l3 l4 r => ?_
  obtain ⟨b, rfl, rfl⟩ := r
  exact eNil fun g5 l5 => ⟨[], _, rfl, rfl, ⟨x, dx, a, b, [], [], t, t2, 2, 0, 0⟩, rfl, rfl, rfl, rfl, rfl⟩
/-- Program() -/
theorem c_prog {w : World} {A : Around} {g : Heap} {hot : Hot} (hd : A.depth < 880) (W : Wd w g) :
    Ch w A g hot (call (.ref 52) []) fun g1 new v => ∃ p : Pg, v = .ref p.pa ∧ p.nv = [] ∧ p.rv = [] ∧ new = [(p.ra, listO p.rv p.re), (p.na, listO p.nv p.ne), (p.pa, instObj 52 p.da), (p.da, dictOf (p.es w) p.ke)] := fun s Q E g0 l H hQ => by
  obtain ⟨hh, gg, d, t, os⟩ := s
  have X : (KK w.params).In hh := fun a o e => (l.tr H.keep) _ _ (W.X a o e)
  have hm : makesIn (KK w.params) 52 = true := rfl
  have hi : findIn (KK w.params) (.ref 52) "__init__" = some (some (.ref 49)) := rfl
  have hf : typeIn (KK w.params) (.ref 49) = some (.type "function") := rfl
  refine wpAny_call (make_core (makes_of X hm) (looks_findIn X hi) (fun self => bind_fn X self hf) (.inl rfl) ?_)
  have H1 := (H.push emptyDict).push (instObj 52 hh.objs.size)
  rw [Heap.size_push] at H1
  have hw : (Code.builtin "type.__call__" ⟨[.ref 52], []⟩).weight = 1 := by rfl
  refine c_pinit (x := hh.objs.size + 1) (dx := hh.objs.size) (hot := hot) (by show A.depth + (Code.builtin "type.__call__" ⟨[.ref 52], []⟩).weight < 900; rw [hw]; omega) W l H1 fun p g1 h1 tk l1 e1 e2 e3 e4 H2 => ?_
  exact ⟨rfl, hQ _ [(p.ra, listO p.rv p.re), (p.na, listO p.nv p.ne), (hh.objs.size + 1, instObj 52 hh.objs.size), (hh.objs.size, dictOf (p.es w) p.ke)] g1 h1 tk l1 H2 ⟨p, by rw [e1], e3, e4, by rw [e1, e2]⟩⟩
end Mine

/-! P1 -/
open PySem PySem.W PyProof.Rows PySem.Spec PySem.Calls
set_option maxRecDepth 100000
set_option linter.unusedVariables false
namespace Mine

/-- numbers of lines as the law draws them -/
structure Lin (ns : List Int) : Prop where
  up : ns.Pairwise (· < ·)
  ev : ∀ x ∈ ns, 0 ≤ x ∧ x % 2 = 0

theorem Lin.odd {ns : List Int} (h : Lin ns) : (2001 : Int) ∉ ns := fun hm => by
  have := (h.ev _ hm).2
  omega
theorem mapTo_out {ns ms : List Int} {x : Int} (h : x ∉ ns) : mapTo ns ms x = x := by
  unfold mapTo
  have : (ns.zip ms).find? (fun q => decide (q.1 = x)) = none := by
    rw [List.find?_eq_none]
    intro q hq
    have := (List.of_mem_zip hq).1
    simp only [decide_eq_true_eq]
    rintro rfl
    exact h this
  rw [this]
theorem mapTo_at : ∀ {ns ms : List Int} {i : Nat} {x y : Int}, ns.Pairwise (· < ·) → ns[i]? = some x → ms[i]? = some y → mapTo ns ms x = y
  | [], _, _, _, _, _, h, _ => by simp at h
  | _ :: _, [], _, _, _, _, _, h => by simp at h
  | n :: ns, m :: ms, 0, x, y, hp, h1, h2 => by
    simp at h1 h2
    subst h1 h2
    simp [mapTo]
  | n :: ns, m :: ms, i + 1, x, y, hp, h1, h2 => by
    have h1' : ns[i]? = some x := by simpa using h1
    have h2' : ms[i]? = some y := by simpa using h2
    have ih := mapTo_at (List.pairwise_cons.mp hp).2 h1' h2'
    have hne : ¬ n = x := by
      have := (List.pairwise_cons.mp hp).1 x (List.mem_of_getElem? h1')
      omega
    unfold mapTo at ih ⊢
    rw [List.zip_cons_cons, List.find?_cons]
    simp only [hne, decide_false]
    exact ih

section
variable {ns ms : List Int} {x : Int}
/-- a goal as the law draws them -/
def okGoal (n : Nat) (x : Int) : Prop := x = 2001 ∨ ∃ i : Nat, i < n ∧ x = 2 * (i : Int)
theorem okGoal.far (h : okGoal ns.length x) : goalNum false x ns = goalNum false x ms := by
  unfold goalNum
  simp
theorem fmod_even (i : Nat) : (2 * (i : Int)).fmod 2 = 0 := by rw [Int.fmod_eq_emod_of_nonneg _ (by decide)]; omega
theorem goalNum_even {l : Bool} {i : Nat} (hl : l = true) : goalNum l (2 * (i : Int)) ns = ns[i]?.getD 0 := by
  unfold goalNum
  rw [fmod_even, fdiv_even, hl]
  rfl
theorem goalNum_odd {l : Bool} : goalNum l 2001 ns = 2001 := rfl
theorem okGoal.near (hl : ms.length = ns.length) (hN : Lin ns) (h : okGoal ns.length x) : mapTo ns ms (goalNum true x ns) = goalNum true x ms := by
  rcases h with rfl | ⟨i, hi, rfl⟩
  · rw [goalNum_odd, goalNum_odd]; exact mapTo_out hN.odd
  · rw [goalNum_even rfl, goalNum_even rfl]
    have e1 : ns[i]? = some ns[i] := List.getElem?_eq_getElem hi
    have e2 : ms[i]? = some (ms[i]'(by omega)) := List.getElem?_eq_getElem (by omega)
    rw [e1, e2]
    exact mapTo_at hN.up e1 e2
theorem okGoal.lost (hN : Lin ns) (h : okGoal ns.length x) : (!decide (goalNum true x ns ∈ ns)) = (x.fmod 2 == 1) ∧ ((x.fmod 2 == 1) = true → goalNum true x ns = x) := by
  rcases h with rfl | ⟨i, hi, rfl⟩
  · rw [goalNum_odd]
    have : decide ((2001 : Int) ∈ ns) = false := decide_eq_false hN.odd
    rw [this]
    exact ⟨rfl, fun _ => rfl⟩
  · rw [goalNum_even rfl, fmod_even]
    have e1 : ns[i]? = some ns[i] := List.getElem?_eq_getElem hi
    rw [e1]
    have : decide ((some ns[i]).getD 0 ∈ ns) = true := decide_eq_true (List.getElem_mem hi)
    rw [this]
    exact ⟨rfl, fun h => nomatch h⟩
end

/-- the places of the targets, by form -/
def tgF : Nat → List Nat
  | 0 => [1]
  | 1 => [3, 5]
  | 2 => [3, 5]
  | 3 => [1, 4]
  | 4 => [1, 4]
  | 7 => [3]
  | _ => []
theorem lt8 {P : Nat → Prop} (h0 : P 0) (h1 : P 1) (h2 : P 2) (h3 : P 3) (h4 : P 4) (h5 : P 5) (h6 : P 6) (h7 : P 7) : ∀ f < 8, P f
  | 0, _ => h0 | 1, _ => h1 | 2, _ => h2 | 3, _ => h3 | 4, _ => h4 | 5, _ => h5 | 6, _ => h6 | 7, _ => h7
theorem tgs_row (x y : Int) (ns : List Int) : ∀ f < 8, tgs (rowT f [x, y] ns) = tgF f := lt8 rfl rfl rfl rfl rfl rfl rfl rfl

theorem led_row {ns ms : List Int} {x y : Int} (hl : ms.length = ns.length) (hN : Lin ns) (hx : okGoal ns.length x) (hy : okGoal ns.length y) : ∀ f < 8, led (mapTo ns ms) (rowT f [x, y] ns) = rowT f [x, y] ms := by
  intro f hf
  have a1 := hx.near hl hN
  have a2 := hy.near hl hN
  have b1 : goalNum false x ns = goalNum false x ms := okGoal.far hx
  have b2 : goalNum false y ns = goalNum false y ms := okGoal.far hy
  unfold led
  rw [tgs_row x y ns f hf]
  revert f hf
  refine lt8 ?_ ?_ ?_ ?_ ?_ ?_ ?_ ?_
  · show [_, Tk.n (mapTo ns ms (goalNum true x ns))] = _; rw [a1]; rfl
  · show [_, _, _, Tk.n (mapTo ns ms (goalNum true x ns)), _, Tk.n (mapTo ns ms (goalNum true y ns))] = _; rw [a1, a2]; rfl
  · show [_, _, _, Tk.n (mapTo ns ms (goalNum true x ns)), _, Tk.n (mapTo ns ms (goalNum true y ns))] = _; rw [a1, a2]; rfl
  · show [_, Tk.n (mapTo ns ms (goalNum true x ns)), _, _, Tk.n (mapTo ns ms (goalNum true y ns))] = _; rw [a1, a2]; rfl
  · show [_, Tk.n (mapTo ns ms (goalNum true x ns)), _, _, Tk.n (mapTo ns ms (goalNum true y ns))] = _; rw [a1, a2]; rfl
  · show [_, Tk.n (goalNum false x ns), _, Tk.n (goalNum false y ns)] = _; rw [b1, b2]; rfl
  · show [_, Tk.n (goalNum false x ns), _, Tk.n (goalNum false y ns)] = _; rw [b1, b2]; rfl
  · show [_, _, _, Tk.n (mapTo ns ms (goalNum true x ns)), _, _, Tk.n (goalNum false y ns)] = _; rw [a1, b2]; rfl

/-- what is lost of two targets -/
theorem lr2 {ns : List Int} {n n' x y : Int} {f : Nat} {ts : List Tk} {i j : Nat} {b c : Bool} (h1 : isLost ns ts i = b) (h2 : isLost ns ts j = c) (v1 : b = true → numAt ts i = x) (v2 : c = true → numAt ts j = y) (o1 : isOdd f [x, y] 0 = b) (o2 : isOdd f [x, y] 1 = c) :
    ((([i, j].filter (isLost ns ts)).map fun k => (n, numAt ts k)).map fun q => (n', q.2)) = lfRow f [x, y] n' 2 := by
  unfold lfRow
  show _ = (([0, 1] : List Nat).filter (isOdd f [x, y])).map _
  cases b <;> cases c <;> simp only [List.filter, h1, h2, o1, o2, List.map]
  · rw [v2 rfl]; rfl
  · rw [v1 rfl]; rfl
  · rw [v1 rfl, v2 rfl]; rfl
theorem lr1 {ns : List Int} {n n' x y : Int} {f : Nat} {ts : List Tk} {i : Nat} {b : Bool} (k : List Nat) (h1 : isLost ns ts i = b) (v1 : b = true → numAt ts i = x) (o1 : isOdd f [x, y] 0 = b) (o2 : k.filter (isOdd f [x, y]) = []) :
    ((([i].filter (isLost ns ts)).map fun k => (n, numAt ts k)).map fun q => (n', q.2)) = ((0 :: k).filter (isOdd f [x, y])).map fun k => (n', [x, y][k]?.getD 0) := by
  cases b <;> simp only [List.filter, h1, o1, o2, List.map]
  rw [v1 rfl]; rfl
theorem odd_on {f k : Nat} {x y : Int} (h : leadsB f k = true) : isOdd f [x, y] k = (([x, y][k]?.getD 0).fmod 2 == 1) := by
  unfold isOdd
  rw [h, Bool.and_true]
theorem odd_off {f k : Nat} {x y : Int} (h : leadsB f k = false) : isOdd f [x, y] k = false := by
  unfold isOdd
  rw [h, Bool.and_false]
theorem lost_row {ns : List Int} {x y n n' : Int} (hN : Lin ns) (hx : okGoal ns.length x) (hy : okGoal ns.length y) : ∀ f < 8, (lostRow ns n (rowT f [x, y] ns)).map (fun q => (n', q.2)) = lfRow f [x, y] n' (ones f) := by
  intro f hf
  obtain ⟨a1, c1⟩ := hx.lost hN
  obtain ⟨a2, c2⟩ := hy.lost hN
  unfold lostRow
  rw [tgs_row x y ns f hf]
  revert f hf
  refine lt8 ?_ ?_ ?_ ?_ ?_ ?_ ?_ ?_
  · exact lr1 [] a1 c1 (odd_on rfl) rfl
  · exact lr2 a1 a2 c1 c2 (odd_on rfl) (odd_on rfl)
  · exact lr2 a1 a2 c1 c2 (odd_on rfl) (odd_on rfl)
  · exact lr2 a1 a2 c1 c2 (odd_on rfl) (odd_on rfl)
  · exact lr2 a1 a2 c1 c2 (odd_on rfl) (odd_on rfl)
  · show [] = (([0, 1] : List Nat).filter (isOdd 5 [x, y])).map _
    simp only [List.filter, odd_off (x := x) (y := y) (show leadsB 5 0 = false from rfl), odd_off (x := x) (y := y) (show leadsB 5 1 = false from rfl), List.map]
  · show [] = (([0, 1] : List Nat).filter (isOdd 6 [x, y])).map _
    simp only [List.filter, odd_off (x := x) (y := y) (show leadsB 6 0 = false from rfl), odd_off (x := x) (y := y) (show leadsB 6 1 = false from rfl), List.map]
  · exact lr1 [1] a1 c1 (odd_on rfl) (by simp only [List.filter, odd_off (x := x) (y := y) (show leadsB 7 1 = false from rfl)])
end Mine

/-! P2 -/
open PySem PySem.W PyProof.Rows PySem.Spec PySem.Calls
set_option maxRecDepth 100000
set_option linter.unusedVariables false
namespace Mine

theorem rowsOf_len {forms : List Nat} {goals : List (List Int)} {ns : List Int} (hl : goals.length = forms.length) : ∀ i, i ≤ forms.length → (rowsOf forms goals ns i).length = i
  | 0, _ => rfl
  | i + 1, h => by
    unfold rowsOf
    rw [List.length_append, rowsOf_len hl i (by omega), List.getElem?_eq_getElem (show i < forms.length by omega), List.getElem?_eq_getElem (show i < goals.length by omega)]
    rfl
theorem rowsOf_step {forms : List Nat} {goals : List (List Int)} {ns : List Int} {i f : Nat} {gs : List Int} (hf : forms[i]? = some f) (hg : goals[i]? = some gs) : rowsOf forms goals ns (i + 1) = rowsOf forms goals ns i ++ [rowT f gs ns] := by
  conv => lhs; unfold rowsOf
  rw [hf, hg]
theorem rowsOf_get {forms : List Nat} {goals : List (List Int)} {ns : List Int} (hl : goals.length = forms.length) {f : Nat} {gs : List Int} {j : Nat} (hf : forms[j]? = some f) (hg : goals[j]? = some gs) : ∀ i, i ≤ forms.length → j < i → (rowsOf forms goals ns i)[j]? = some (rowT f gs ns)
  | 0, _, h => absurd h (Nat.not_lt_zero _)
  | i + 1, hi, h => by
    have e1 := List.getElem?_eq_getElem (show i < forms.length by omega)
    have e2 := List.getElem?_eq_getElem (show i < goals.length by omega)
    rw [rowsOf_step e1 e2]
    by_cases q : j = i
    · subst q
      rw [List.getElem?_append_right (by rw [rowsOf_len hl j (by omega)]; exact Nat.le_refl _), rowsOf_len hl j (by omega), Nat.sub_self]
      rw [e1] at hf; rw [e2] at hg
      cases hf; cases hg; rfl
    · rw [List.getElem?_append_left (by rw [rowsOf_len hl i (by omega)]; omega)]
      exact rowsOf_get hl hf hg i (by omega) (by omega)

/-- a program as the law draws it -/
structure Drawn' (forms : List Nat) (goals : List (List Int)) (n : Nat) : Prop where
  fl : forms.length = n
  gl : goals.length = n
  f8 : ∀ f ∈ forms, f < 8
  gg : ∀ gs ∈ goals, goodGoals n gs
theorem goodGoals.two {n : Nat} {gs : List Int} (h : goodGoals n gs) : ∃ x y, gs = [x, y] ∧ okGoal n x ∧ okGoal n y := by
  obtain ⟨hl, hm⟩ := h
  match gs, hl with
  | [x, y], _ => exact ⟨x, y, rfl, hm x (.head _), hm y (.tail _ (.head _))⟩
section
variable {forms : List Nat} {goals : List (List Int)} {n : Nat} {ns ms : List Int}
theorem Drawn'.good (D : Drawn' forms goals n) (hn : n ≤ 8) : goodRows (rowsOf forms goals ns n) := ⟨by rw [rowsOf_len (D.gl.trans D.fl.symm) n (by rw [D.fl]; exact Nat.le_refl _)]; exact hn, rowsOf_ok forms goals ns n⟩
theorem Drawn'.len (D : Drawn' forms goals n) : (rowsOf forms goals ns n).length = n := rowsOf_len (D.gl.trans D.fl.symm) n (by rw [D.fl]; exact Nat.le_refl _)
theorem rows_law (D : Drawn' forms goals n) (hN : Lin ns) (hl : ns.length = n) (hm : ms.length = n) : ∀ i, i ≤ n → (rowsOf forms goals ns i).map (led (mapTo ns ms)) = rowsOf forms goals ms i
  | 0, _ => rfl
  | i + 1, h => by
    have hgl := D.gl
    have hfl := D.fl
    have e1 := List.getElem?_eq_getElem (show i < forms.length by omega)
    have e2 := List.getElem?_eq_getElem (show i < goals.length by omega)
    rw [rowsOf_step e1 e2, rowsOf_step e1 e2, List.map_append, rows_law D hN hl hm i (by omega)]
    congr 1
    obtain ⟨x, y, e, hx, hy⟩ := (D.gg _ (List.getElem_mem (show i < goals.length by omega))).two
    rw [e]
    show [led _ _] = _
    rw [led_row (by omega) hN (hl ▸ hx) (hl ▸ hy) _ (D.f8 _ (List.getElem_mem _))]
theorem lost_law (D : Drawn' forms goals n) (hN : Lin ns) (hl : ns.length = n) (hm : ms.length = n) : ∀ i, i ≤ n → (lostTo ns (rowsOf forms goals ns n) i).map (movedD ns ms) = (lwTo forms goals ms i).map prD
  | 0, _ => rfl
  | i + 1, h => by
    have hgl := D.gl
    have hfl := D.fl
    have e1 := List.getElem?_eq_getElem (show i < forms.length by omega)
    have e2 := List.getElem?_eq_getElem (show i < goals.length by omega)
    have e3 := List.getElem?_eq_getElem (show i < ns.length by omega)
    have e4 := List.getElem?_eq_getElem (show i < ms.length by omega)
    have e5 := rowsOf_get (ns := ns) (hgl.trans hfl.symm) e1 e2 n (by omega) (by omega)
    unfold lostTo lwTo
    rw [List.map_append, List.map_append, lost_law D hN hl hm i (by omega), e1, e2, e3, e4, e5]
    congr 1
    dsimp only
    obtain ⟨x, y, e, hx, hy⟩ := (D.gg _ (List.getElem_mem (show i < goals.length by omega))).two
    rw [e, ← lost_row (n := ns[i]) hN (hl ▸ hx) (hl ▸ hy) _ (D.f8 _ (List.getElem_mem _)), List.map_map]
    refine List.map_congr_left fun q hq => ?_
    unfold lostRow at hq
    obtain ⟨k, _, rfl⟩ := List.mem_map.mp hq
    show prD (mapTo ns ms ns[i], _) = prD (ms[i], _)
    rw [mapTo_at hN.up e3 e4]
end

theorem newNs_mem {ns : List Int} {k : Nat} {new step x : Int} (h : x ∈ newNs ns k new step) : x ∈ ns.take k ∨ ∃ i : Nat, i < ns.length - k ∧ x = new + step * (i : Int) := by
  unfold newNs at h
  rcases List.mem_append.mp h with h | h
  · exact .inl h
  · obtain ⟨i, hi, rfl⟩ := List.mem_map.mp h
    exact .inr ⟨i, List.mem_range.mp hi, rfl⟩
theorem take_lt {ns : List Int} (hp : ns.Pairwise (· < ·)) {k : Nat} {x : Int} (hx : x ∈ ns.take k) (hk : k ≤ ns.length) : 0 < k ∧ x < leastOf ns k := by
  obtain ⟨i, hi, e⟩ := List.getElem_of_mem hx
  rw [List.length_take] at hi
  have hik : i < k := Nat.lt_of_lt_of_le hi (Nat.min_le_left _ _)
  rw [List.getElem_take] at e
  have hk0 : 0 < k := Nat.lt_of_le_of_lt (Nat.zero_le _) hik
  have hk1 : k - 1 < ns.length := Nat.lt_of_lt_of_le (Nat.sub_lt hk0 Nat.one_pos) hk
  refine ⟨hk0, ?_⟩
  unfold leastOf
  rw [if_neg (Nat.ne_of_gt hk0), List.getElem?_eq_getElem hk1]
  show x < ns[k - 1] + 1
  refine Int.lt_add_one_iff.mpr ?_
  rcases Nat.lt_or_eq_of_le (Nat.le_sub_one_of_lt hik) with q | q
  · exact e ▸ Int.le_of_lt (List.pairwise_iff_getElem.mp hp i (k - 1) _ hk1 q)
  · subst q; exact Int.le_of_eq e.symm
theorem newNs_lin {ns : List Int} {k : Nat} {new step : Int} (h : Lin ns) (hk : k ≤ ns.length) (hn : leastOf ns k ≤ new) (h0 : 0 ≤ new) (he : new % 2 = 0) (hs : 0 < step) (hse : step % 2 = 0) : Lin (newNs ns k new step) := by
  refine ⟨?_, fun x hx => ?_⟩
  · unfold newNs
    rw [List.pairwise_append]
    refine ⟨h.up.sublist (List.take_sublist k ns), ?_, fun a ha b hb => ?_⟩
    · rw [List.pairwise_map]
      refine List.Pairwise.imp (fun {a b} hab => ?_) (List.pairwise_lt_range)
      have : (a : Int) < (b : Int) := by omega
      have := Int.mul_lt_mul_of_pos_left this hs
      omega
    · obtain ⟨i, _, rfl⟩ := List.mem_map.mp hb
      have h1 := (take_lt h.up ha hk).2
      have h2 : 0 ≤ step * (i : Int) := Int.mul_nonneg (by omega) (by omega)
      omega
  · rcases newNs_mem hx with hx | ⟨i, _, rfl⟩
    · exact h.ev x (List.mem_of_mem_take hx)
    · have h2 : 0 ≤ step * (i : Int) := Int.mul_nonneg (by omega) (by omega)
      refine ⟨by omega, ?_⟩
      have : step * (i : Int) % 2 = 0 := by
        rw [Int.mul_emod, hse]; simp
      omega
theorem newNs_le {ns : List Int} {k : Nat} {new step B : Int} (hB : ∀ x ∈ ns, x ≤ B) (hn : ns.length ≤ 8) (h1 : new + 8 * step ≤ B) (hs : 0 ≤ step) : ∀ x ∈ newNs ns k new step, x ≤ B := fun x hx => by
  rcases newNs_mem hx with hx | ⟨i, hi, rfl⟩
  · exact hB x (List.mem_of_mem_take hx)
  · have : step * (i : Int) ≤ step * 8 := Int.mul_le_mul_of_nonneg_left (by omega) hs
    omega
theorem PlaceAt.self {ns : List Int} (hp : ns.Pairwise (· < ·)) {k : Nat} {x : Int} (h : ns[k]? = some x) : PlaceAt ns x k := by
  obtain ⟨hk, rfl⟩ := List.getElem?_eq_some_iff.mp h
  refine ⟨by omega, fun i y hi hy => ?_, fun i y hi hy => ?_⟩
  · obtain ⟨hil, rfl⟩ := List.getElem?_eq_some_iff.mp hy
    exact List.pairwise_iff_getElem.mp hp i k hil hk hi
  · obtain ⟨hil, rfl⟩ := List.getElem?_eq_some_iff.mp hy
    by_cases q : i = k
    · subst q; exact Int.le_refl _
    · have := List.pairwise_iff_getElem.mp hp k i hk hil (by omega)
      omega
theorem PlaceAt.zero {ns : List Int} (h : Lin ns) : PlaceAt ns 0 0 := ⟨Nat.zero_le _, fun i x hi => absurd hi (Nat.not_lt_zero _), fun i x _ hx => (h.ev x (List.mem_of_getElem? hx)).1⟩
theorem bad_true {ns : List Int} {k : Nat} {new step : Int} (h : new < leastOf ns k) : badNs ns k new step = true := by
  unfold badNs
  rw [decide_eq_true h]
  simp
theorem bad_false {ns : List Int} {k : Nat} {new step : Int} (h : leastOf ns k ≤ new) (hs : 1 ≤ step) (hz : ns.length ≤ 8) (hB : new + 8 * step ≤ 65529) : badNs ns k new step = false := by
  unfold badNs
  have e3 : new + step * (((ns.length - k : Nat) : Int) - 1) ≤ 65529 := by
    have : step * (((ns.length - k : Nat) : Int) - 1) ≤ step * 8 := Int.mul_le_mul_of_nonneg_left (by omega) (by omega)
    omega
  rw [decide_eq_false (show ¬ step < 1 by omega), decide_eq_false (show ¬ new < leastOf ns k by omega), decide_eq_false (show ¬ new + step * (((ns.length - k : Nat) : Int) - 1) > 65529 by omega)]
  simp
end Mine

/-! Lg25 -/
open PySem PySem.W PyProof.Rows PySem.Spec PySem.Calls
set_option maxRecDepth 100000
set_option linter.unusedVariables false
namespace Mine

section
variable {α : Type} {w : World} {A : Around} {g : Heap} {m : Loc} {hot : Hot} {env : Env} {pos : Pos} {L : Addr}
theorem Em.le {t : Sem α} {R : α → Heap → Loc → Hot → Prop} (c : Em w A L g m hot t fun v g1 m1 hot1 => Le g g1 → R v g1 m1 hot1) : Em w A L g m hot t R := fun o hn s Q E g0 l H hQ =>
  c o hn s Q E g0 l H fun v g1 m1 hot1 o1 h1 tk l1 hn1 H1 r1 => hQ v g1 m1 hot1 o1 h1 tk l1 hn1 H1 (r1 (l.tr l1))
theorem Em.ofCn {t : Sem α} {R1 : Heap → α → Prop} {R : α → Heap → Loc → Hot → Prop} (c : ∀ o, ObjNs o m → Cn w A g ((L, o) :: hot) t R1) (k : ∀ g1 v, Le g g1 → R1 g1 v → R v g1 m hot) : Em w A L g m hot t R := fun o hn s Q E g0 l H hQ =>
  c o hn s Q E g0 l H fun v g1 h1 tk l1 H1 r1 => hQ v g1 m hot o h1 tk l1 hn H1 (k g1 v (l.tr l1) r1)
theorem Em.ofCh {t : Sem α} {R1 : Heap → Hot → α → Prop} {R : α → Heap → Loc → Hot → Prop} (c : ∀ o, ObjNs o m → Ch w A g ((L, o) :: hot) t R1) (k : ∀ g1 new v, Le g g1 → R1 g1 new v → R v g1 m (new ++ hot)) : Em w A L g m hot t R := fun o hn s Q E g0 l H hQ =>
  c o hn s Q E g0 l H fun v new g1 h1 tk l1 H1 r1 => hQ v g1 m (new ++ hot) o h1 tk l1 hn H1.front (k g1 new v (l.tr l1) r1)
/-- the hot objects in another order, before and behind -/
theorem Em.permR {t : Sem α} {R R' : α → Heap → Loc → Hot → Prop} (c : Em w A L g m hot t R) (h : ∀ v g1 m1 hot1, Le g g1 → R v g1 m1 hot1 → ∃ hot2, hot1.Perm hot2 ∧ R' v g1 m1 hot2) : Em w A L g m hot t R' := fun o hn s Q E g0 l H hQ =>
  c o hn s Q E g0 l H fun v g1 m1 hot1 o1 h1 tk l1 hn1 H1 r1 => by
    obtain ⟨hot2, q, r2⟩ := h v g1 m1 hot1 (l.tr l1) r1
    exact hQ v g1 m1 hot2 o1 h1 tk l1 hn1 (H1.perm (q.cons _)) r2

theorem emSp0 {R : List Value → Heap → Loc → Hot → Prop} (r : ∀ g1, Le g g1 → R [] g1 m hot) : Em w A L g m hot (spliced (backTo pos (starEach [] env))) R := fun o hn s Q E g0 l H hQ => spliced_nil (hQ [] g0 m hot o s.heap s.toks (Le.rf _) hn H (r g0 l))
theorem emSp1 {e : Expr} {rest : List Expr} {R1 : Value → Heap → Loc → Hot → Prop} {R : List Value → Heap → Loc → Hot → Prop} (c : Em w A L g m hot (eval e env) R1)
    (k : ∀ v g1 m1 hot1, Le g g1 → R1 v g1 m1 hot1 → Em w A L g1 m1 hot1 (spliced (backTo pos (starEach rest env))) fun vs => R (v :: vs))
    (he : starEach (e :: rest) env = (false, eval e env) :: starEach rest env := by rfl) : Em w A L g m hot (spliced (backTo pos (starEach (e :: rest) env))) R := fun o hn s Q E g0 l H hQ => by
  rw [he]
  refine spliced_cons (c o hn s _ E g0 l H fun v g1 m1 hot1 o1 h1 tk l1 hn1 H1 r1 => ?_)
  exact k v g1 m1 hot1 (l.tr l1) r1 o1 hn1 _ _ E g1 (Le.rf _) H1 fun vs g2 m2 hot2 o2 h2 tk2 l2 hn2 H2 r2 => hQ (v :: vs) g2 m2 hot2 o2 h2 tk2 (l1.tr l2) hn2 H2 r2
theorem emTup {elts : List Expr} {k : Nat} {R1 : List Value → Heap → Loc → Hot → Prop} {R : Value → Heap → Loc → Hot → Prop} (c : Em w A L g m hot (spliced (backTo pos (starEach elts env))) R1)
    (r : ∀ vs g1 m1 hot1, Le g g1 → R1 vs g1 m1 hot1 → vs.length ≤ 4096 ∧ ∀ g2 t, Le g1 g2 → HasT g2 t vs → R (.ref t) g2 m1 hot1) : Em w A L g m hot (eval (.Tuple elts k pos) env) R := fun o hn s Q E g0 l H hQ =>
  Tuple_ (c o hn s _ E g0 l H fun vs g1 m1 hot1 o1 h1 tk l1 hn1 H1 r1 => by
    obtain ⟨hz, r2⟩ := r vs g1 m1 hot1 (l.tr l1) r1
    obtain ⟨g2, l2, e2, H2⟩ := H1.fresh (tupO vs 0)
    exact wpAny_newObj_type (hQ _ g2 m1 hot1 o1 _ tk (l1.tr l2) hn1 H2 (r2 g2 _ l2 (HasT.of e2))) (by show vs.toArray.size ≤ sizeLine; rw [List.size_toArray]; exact Nat.le_trans hz (by decide)))
/-- a list display: a new frozen | hot object -/
theorem emListF {elts : List Expr} {R1 : List Value → Heap → Loc → Hot → Prop} {R : Value → Heap → Loc → Hot → Prop} (c : Em w A L g m hot (spliced (backTo pos (starEach elts env))) R1)
    (r : ∀ vs g1 m1 hot1, Le g g1 → R1 vs g1 m1 hot1 → vs.length ≤ 4096 ∧ ∀ g2 t, Le g1 g2 → g2.get? t = some (listO vs 0) → R (.ref t) g2 m1 hot1) : Em w A L g m hot (eval (.List elts pos) env) R := fun o hn s Q E g0 l H hQ =>
  List_ (c o hn s _ E g0 l H fun vs g1 m1 hot1 o1 h1 tk l1 hn1 H1 r1 => by
    obtain ⟨hz, r2⟩ := r vs g1 m1 hot1 (l.tr l1) r1
    obtain ⟨g2, l2, e2, H2⟩ := H1.fresh (listO vs 0)
    exact wpAny_newObj_type (hQ _ g2 m1 hot1 o1 _ tk (l1.tr l2) hn1 H2 (r2 g2 _ l2 e2)) (by show vs.toArray.size ≤ sizeLine; rw [List.size_toArray]; exact Nat.le_trans hz (by decide)))
theorem emListH {elts : List Expr} {R1 : List Value → Heap → Loc → Hot → Prop} {R : Value → Heap → Loc → Hot → Prop} (c : Em w A L g m hot (spliced (backTo pos (starEach elts env))) R1)
    (r : ∀ vs g1 m1 hot1, Le g g1 → R1 vs g1 m1 hot1 → vs.length ≤ 4096 ∧ ∀ t, R (.ref t) g1 m1 ((t, listO vs 0) :: hot1)) : Em w A L g m hot (eval (.List elts pos) env) R := fun o hn s Q E g0 l H hQ =>
  List_ (c o hn s _ E g0 l H fun vs g1 m1 hot1 o1 h1 tk l1 hn1 H1 r1 => by
    obtain ⟨hz, r2⟩ := r vs g1 m1 hot1 (l.tr l1) r1
    exact wpAny_newObj_type (hQ _ g1 m1 ((h1.objs.size, listO vs 0) :: hot1) o1 _ tk l1 hn1 (H1.push (listO vs 0)).swap (r2 _)) (by show vs.toArray.size ≤ sizeLine; rw [List.size_toArray]; exact Nat.le_trans hz (by decide)))
theorem emBin {e1 e2 : Expr} {op : Operator} {R1 R : Value → Heap → Loc → Hot → Prop} (c1 : Em w A L g m hot (eval e1 env) R1) (c2 : ∀ a g1 m1 hot1, Le g g1 → R1 a g1 m1 hot1 → Em w A L g1 m1 hot1 (eval e2 env) fun b g2 m2 hot2 => Em w A L g2 m2 hot2 (binaryOp op a b) R) :
    Em w A L g m hot (eval (.BinOp e1 op e2 pos) env) R := fun o hn s Q E g0 l H hQ =>
  wpAny_BinOp (c1 o hn s _ E g0 l H fun a g1 m1 hot1 o1 h1 tk l1 hn1 H1 r1 => c2 a g1 m1 hot1 (l.tr l1) r1 o1 hn1 _ _ E g1 (Le.rf _) H1 fun b g2 m2 hot2 o2 h2 tk2 l2 hn2 H2 r2 =>
    r2 o2 hn2 _ Q E g2 (Le.rf _) H2 fun u g3 m3 hot3 o3 h3 tk3 l3 hn3 H3 r3 => hQ u g3 m3 hot3 o3 h3 tk3 ((l1.tr l2).tr l3) hn3 H3 r3)
/-! the same, with what stands behind the value told at once -/
theorem emSp1C {e : Expr} {rest : List Expr} {R : List Value → Heap → Loc → Hot → Prop} (c : Em w A L g m hot (eval e env) fun v g1 m1 hot1 => Em w A L g1 m1 hot1 (spliced (backTo pos (starEach rest env))) fun vs => R (v :: vs))
    (he : starEach (e :: rest) env = (false, eval e env) :: starEach rest env := by rfl) : Em w A L g m hot (spliced (backTo pos (starEach (e :: rest) env))) R := emSp1 c (fun _ _ _ _ _ r => r) he
theorem emTupC {elts : List Expr} {k : Nat} {R : Value → Heap → Loc → Hot → Prop} (c : Em w A L g m hot (spliced (backTo pos (starEach elts env))) fun vs g1 m1 hot1 => vs.length ≤ 4096 ∧ ∀ g2 t, Le g1 g2 → HasT g2 t vs → R (.ref t) g2 m1 hot1) : Em w A L g m hot (eval (.Tuple elts k pos) env) R := emTup c fun _ _ _ _ _ r => r
theorem emListFC {elts : List Expr} {R : Value → Heap → Loc → Hot → Prop} (c : Em w A L g m hot (spliced (backTo pos (starEach elts env))) fun vs g1 m1 hot1 => vs.length ≤ 4096 ∧ ∀ g2 t, Le g1 g2 → g2.get? t = some (listO vs 0) → R (.ref t) g2 m1 hot1) : Em w A L g m hot (eval (.List elts pos) env) R := emListF c fun _ _ _ _ _ r => r
theorem emListHC {elts : List Expr} {R : Value → Heap → Loc → Hot → Prop} (c : Em w A L g m hot (spliced (backTo pos (starEach elts env))) fun vs g1 m1 hot1 => vs.length ≤ 4096 ∧ ∀ t, R (.ref t) g1 m1 ((t, listO vs 0) :: hot1)) : Em w A L g m hot (eval (.List elts pos) env) R := emListH c fun _ _ _ _ _ r => r
theorem emBinC {e1 e2 : Expr} {op : Operator} {R : Value → Heap → Loc → Hot → Prop} (c : Em w A L g m hot (eval e1 env) fun a g1 m1 hot1 => Em w A L g1 m1 hot1 (eval e2 env) fun b g2 m2 hot2 => Em w A L g2 m2 hot2 (binaryOp op a b) R) : Em w A L g m hot (eval (.BinOp e1 op e2 pos) env) R := emBin c fun _ _ _ _ _ r => r
/-- C(), C an own class -/
theorem emCls0 {x : Str} {np : Pos} {C : Addr} {R1 : Heap → Hot → Value → Prop} {R : Value → Heap → Loc → Hot → Prop} (W : Wd w g) (en : nsIn (KK w.params) mainGlobals x = some (some (.ref C))) (hk : keepIn (KK w.params) (.ref C) = true)
    (c : ∀ g1, Le g g1 → ∀ o, ObjNs o m → Ch w A g1 ((env.locals, o) :: hot) (call (.ref C) []) R1) (r : ∀ g1 new v, Le g g1 → R1 g1 new v → R v g1 m (new ++ hot)) (hgl : env.globals = mainGlobals := by rfl)
    (hkk : env.scope.kind = .function := by rfl) (hl : env.kindOf x = some .globalImplicit := by rfl) (hdb : (x == ("__debug__" : Str)) = false := by decide) :
    Em w A env.locals g m hot (eval (.Call (.Name x np) [] [] pos) env) R := fun o hn s Q E g0 l H hQ => by
  refine wpAny_Call_NameR (nmg (R := fun _ v => v = .ref C) W en (fun _ _ => rfl) hgl hkk hl hdb s _ E g0 l H fun v g1 h1 tk l1 H1 r1 => ?_)
  subst r1
  refine callWith_K0 (K := KK w.params) (fun a o e => ((l.tr l1).tr H1.keep) _ _ (W.X a o e)) hk ?_
  exact c g1 (l.tr l1) o hn _ _ E g1 (Le.rf _) H1 fun v new g2 h2 tk2 l2 H2 r2 => hQ v g2 m (new ++ hot) o h2 tk2 (l1.tr l2) hn H2.front (r g2 new v ((l.tr l1).tr l2) r2)
/-- a call of a def that may turn hot objects, the frame's own too -/
theorem mCallE {x : Str} {np cpos : Pos} {e : Expr} {rest : List Expr} {f : Addr} {fo : Obj} {fd : FuncData} {S : Heap → List Value → Prop} {R : Value → Heap → Loc → Hot → Prop} (W : Wd w g) (en : nsIn (KK w.params) mainGlobals x = some (some (.ref f))) (ho : (KK w.params).lookup f = some fo) (hd : fo.data = .func fd)
    (c : ∀ o, ObjNs o m → Cn w A g ((env.locals, o) :: hot) (spliced (backTo cpos (starEach (e :: rest) env))) S)
    (k : ∀ o, ObjNs o m → ∀ g1 vs, Le g g1 → S g1 vs → Cc w A g1 ((env.locals, o) :: hot) (call (.ref f) vs) fun g2 hot2 v => ∃ o' hot3, hot2 = (env.locals, o') :: hot3 ∧ ObjNs o' m ∧ R v g2 m hot3)
    (he : starEach (e :: rest) env = (false, eval e env) :: starEach rest env := by rfl) (hgl : env.globals = mainGlobals := by rfl)
    (hk : env.scope.kind = .function := by rfl) (hl : env.kindOf x = some .globalImplicit := by rfl) (hdb : (x == ("__debug__" : Str)) = false := by decide) :
    Em w A env.locals g m hot (eval (.Call (.Name x np) (e :: rest) [] cpos) env) R := fun o hn s Q E g0 l H hQ => by
  refine wpAny_Call_NameR (nmg (R := fun _ v => v = .ref f) W en (fun _ _ => rfl) hgl hk hl hdb s _ E g0 l H fun v g1 h1 tk l1 H1 r1 => ?_)
  subst r1
  refine callWith_def hd (c o hn _ _ E g1 (l.tr l1) H1 fun vs g2 h2 tk2 l2 H2 r2 => ⟨(((l.tr l1).tr l2).tr H2.keep) _ _ (W.X _ _ ho), ?_⟩) he
  refine k o hn g2 vs ((l.tr l1).tr l2) r2 _ _ E g2 (Le.rf _) H2 fun u g3 hot3 h3 tk3 l3 H3 r3 => ?_
  obtain ⟨o', hot4, rfl, hn', r3⟩ := r3
  exact hQ u g3 m hot4 o' h3 tk3 ((l1.tr l2).tr l3) hn' H3 r3
end

section
variable {w : World} {A : Around} {g : Heap} {m : Loc} {hot : Hot} {env : Env} {pos : Pos} {R : Flow → Heap → Loc → Hot → Prop} {rest : List Stmt}
/-- tests that may turn hot objects -/
theorem emBool {op : BoolOp} {values : List Expr} {whole : Sem Value} {R : Bool → Heap → Loc → Hot → Prop} {L : Addr} (c : Em w A L g m hot (allTrue op values env) R) : Em w A L g m hot (isTrue (.BoolOp op values pos) env whole) R := fun o hn s Q E g0 l H hQ =>
  wpAny_isTrue_BoolOp (c o hn s Q E g0 l H hQ)
theorem emOr0 {R : Bool → Heap → Loc → Hot → Prop} {L : Addr} (r : ∀ g1, Le g g1 → R false g1 m hot) : Em w A L g m hot (allTrue .Or [] env) R := fun o hn s Q E g0 l H hQ => wpAny_allTrue_Or_nil (hQ false g0 m hot o s.heap s.toks (Le.rf _) hn H (r g0 l))
theorem emOr {x : Expr} {rest : List Expr} {R : Bool → Heap → Loc → Hot → Prop} {L : Addr} (c : Em w A L g m hot (isTrue x env (eval x env)) fun b g1 m1 hot1 => b = false ∧ Em w A L g1 m1 hot1 (allTrue .Or rest env) R) : Em w A L g m hot (allTrue .Or (x :: rest) env) R := fun o hn s Q E g0 l H hQ =>
  wpAny_allTrue_Or_cons (c o hn s _ E g0 l H fun b g1 m1 hot1 o1 h1 tk l1 hn1 H1 r1 => by
    obtain ⟨rfl, r1⟩ := r1
    rw [if_neg (by decide)]
    exact r1 o1 hn1 _ Q E g1 (Le.rf _) H1 fun u g3 m3 hot3 o3 h3 tk3 l3 hn3 H3 r3 => hQ u g3 m3 hot3 o3 h3 tk3 (l1.tr l3) hn3 H3 r3)
theorem emTCmp {l r : Expr} {op : CmpOp} {whole : Sem Value} {R : Bool → Heap → Loc → Hot → Prop} {L : Addr} (b : Bool) (c : Em w A L g m hot (eval l env) fun a g1 m1 hot1 => ∀ o, ObjNs o m1 → Cn w A g1 ((L, o) :: hot1) (eval r env) fun g2 v => ∀ g3, Le g2 g3 → (Cn w A g3 ((L, o) :: hot1) (compareOp op a v) fun _ x => x = .bool b) ∧ ∀ g4, Le g3 g4 → R b g4 m1 hot1)
    (hm : behindInMarks op r = false := by with_unfolding_all rfl) : Em w A L g m hot (isTrue (.Compare l [op] [r] pos) env whole) R := fun o hn s Q E g0 l0 H hQ =>
  wpAny_isTrue_Compare1 (c o hn s _ E g0 l0 H fun a g1 m1 hot1 o1 h1 tk l1 hn1 H1 r1 => r1 o1 hn1 _ _ E g1 (Le.rf _) H1 fun v g2 h2 tk2 l2 H2 r2 => (r2 g2 (Le.rf _)).1 _ _ E g2 (Le.rf _) H2 fun x g3 h3 tk3 l3 H3 r3 => by
    subst r3
    exact wpAny_truthy_bool (hQ b g3 m1 hot1 o1 h3 tk3 ((l1.tr l2).tr l3) hn1 H3 ((r2 g2 (Le.rf _)).2 g3 l3))) hm
theorem eIfE {test : Expr} {body : List Stmt} (c : Em w A env.locals g m hot (isTrue test env (eval test env)) fun b g1 m1 hot1 => b = false ∧ Em w A env.locals g1 m1 hot1 (execs rest env) R) :
    Em w A env.locals g m hot (execs (.If test body [] pos :: rest) env) R := fun o hn s Q E g0 l H hQ => by
  refine wpAny_execs_cons (wpAny_If (c o hn s _ E g0 l H fun u g1 m1 hot1 o1 h1 tk l1 hn1 H1 r1 => ?_))
  obtain ⟨rfl, r1⟩ := r1
  rw [if_neg (by decide)]
  refine wpAny_execs_nil ?_
  exact r1 o1 hn1 _ Q E g1 (Le.rf _) H1 fun f g4 m4 hot4 o4 h4 tk4 l4 hn4 H4 r4 => hQ f g4 m4 hot4 o4 h4 tk4 (l1.tr l4) hn4 H4 r4
/-- x, y, z = a tuple, by an expression that may turn hot objects; three locals: stored the other way round -/
theorem eAsg3E {x y z : Str} {px py pz tp : Pos} {kk : Nat} {e : Expr} (hh : A.handled = none) (c : Em w A env.locals g m hot (eval e env) fun v g1 m1 hot1 => ∃ t a b c, v = .ref t ∧ HasT g1 t [a, b, c] ∧ Em w A env.locals g1 (up (up (up m1 z c) y b) x a) hot1 (execs rest env) R)
    (hs : swapsWithSole [.Tuple [.Name x px, .Name y py, .Name z pz] kk tp] e pos.line env = pure false := by rfl) (hw : swappedStores [.Tuple [.Name x px, .Name y py, .Name z pz] kk tp] e env = pure (some [x, y, z]) := by rfl)
    (hx : env.kindOf x = some .local := by rfl) (hy : env.kindOf y = some .local := by rfl) (hz : env.kindOf z = some .local := by rfl) (hp : plainB env := by rfl) :
    Em w A env.locals g m hot (execs (.Assign [.Tuple [.Name x px, .Name y py, .Name z pz] kk tp] e pos :: rest) env) R := fun o hn s Q E g0 l0 H hQ =>
  wpAny_execs_cons (Assign_Tuple_swapped (c o hn s _ E g0 l0 H fun v g1 m1 hot1 o1 h1 tk l1 hn1 H1 r1 => by
    obtain ⟨t, a, b, c, rfl, e1, r1⟩ := r1
    refine unpackItems_tuple hh (items := #[a, b, c]) (e1.at (Le.rf _) H1) fun h' he => ?_
    have H2 := H1.extBut he
    show wpAny _ _ (assignInOrder [fun v => bindName env z v, fun v => bindName env y v, fun v => bindName env x v] [c, b, a]) _ _ _
    refine wpAny_assignInOrder_more (bindName_ (store hn1 H2 (fun o3 h3 tk3 hn3 H3 => ?_) hz hp))
    refine wpAny_assignInOrder_more (bindName_ (store hn3 H3 (fun o4 h4 tk4 hn4 H4 => ?_) hy hp))
    refine wpAny_assignInOrder_more (bindName_ (store hn4 H4 (fun o5 h5 tk5 hn5 H5 => ?_) hx hp))
    refine wpAny_pure ?_
    exact r1 o5 hn5 _ Q E g1 (Le.rf _) H5 fun f g4 m4 hot4 o4 h4 tk4 l4 hn4 H4 r4 => hQ f g4 m4 hot4 o4 h4 tk4 (l1.tr l4) hn4 H4 r4) hs hw)
theorem eAsg4E {x y z u : Str} {px py pz pu tp : Pos} {kk : Nat} {e : Expr} (hh : A.handled = none) (c : Em w A env.locals g m hot (eval e env) fun v g1 m1 hot1 => ∃ t a b c d, v = .ref t ∧ HasT g1 t [a, b, c, d] ∧ Em w A env.locals g1 (up (up (up (up m1 x a) y b) z c) u d) hot1 (execs rest env) R)
    (hs : swapsWithSole [.Tuple [.Name x px, .Name y py, .Name z pz, .Name u pu] kk tp] e pos.line env = pure false := by rfl) (hw : swappedStores [.Tuple [.Name x px, .Name y py, .Name z pz, .Name u pu] kk tp] e env = pure none := by rfl)
    (hx : env.kindOf x = some .local := by rfl) (hy : env.kindOf y = some .local := by rfl) (hz : env.kindOf z = some .local := by rfl) (hu : env.kindOf u = some .local := by rfl) (hp : plainB env := by rfl) :
    Em w A env.locals g m hot (execs (.Assign [.Tuple [.Name x px, .Name y py, .Name z pz, .Name u pu] kk tp] e pos :: rest) env) R := fun o hn s Q E g0 l0 H hQ =>
  wpAny_execs_cons (Assign_Tuple (c o hn s _ E g0 l0 H fun v g1 m1 hot1 o1 h1 tk l1 hn1 H1 r1 => by
    obtain ⟨t, a, b, c, d, rfl, e1, r1⟩ := r1
    refine wpAny_assign_Tuple (items := #[a, b, c, d]) hh (e1.at (Le.rf _) H1) rfl rfl fun h' he => ?_
    have H2 := H1.extBut he
    show wpAny _ _ (assignInOrder [assign (.Name x px) env, assign (.Name y py) env, assign (.Name z pz) env, assign (.Name u pu) env] [a, b, c, d]) _ _ _
    refine wpAny_assignInOrder_more (PySem.wpAny_assign_Name (store hn1 H2 (fun o3 h3 tk3 hn3 H3 => ?_) hx hp))
    refine wpAny_assignInOrder_more (PySem.wpAny_assign_Name (store hn3 H3 (fun o4 h4 tk4 hn4 H4 => ?_) hy hp))
    refine wpAny_assignInOrder_more (PySem.wpAny_assign_Name (store hn4 H4 (fun o5 h5 tk5 hn5 H5 => ?_) hz hp))
    refine wpAny_assignInOrder_more (PySem.wpAny_assign_Name (store hn5 H5 (fun o6 h6 tk6 hn6 H6 => ?_) hu hp))
    refine wpAny_pure ?_
    exact r1 o6 hn6 _ Q E g1 (Le.rf _) H6 fun f g4 m4 hot4 o4 h4 tk4 l4 hn4 H4 r4 => hQ f g4 m4 hot4 o4 h4 tk4 (l1.tr l4) hn4 H4 r4) hs hw)
/-- x, y, z = a tuple, y and z cells; l1 ++ y's :: z's :: l2 -/
theorem eAsg3C {x y z : Str} {px py pz tp : Pos} {kk : Nat} {e : Expr} {cy cz : Addr} (hh : A.handled = none) (hcy : env.cells.lookup y = some cy) (hcz : env.cells.lookup z = some cz)
    (c : Em w A env.locals g m hot (eval e env) fun v g1 m1 hot1 => ∃ t a b c l1 l2 oy oz vy vz, v = .ref t ∧ HasT g1 t [a, b, c] ∧ hot1 = l1 ++ (cz, oz) :: (cy, oy) :: l2 ∧ oy.data = .cell vy ∧ oz.data = .cell vz ∧
      ∀ oy' oz', oy'.data = .cell (some b) → oz'.data = .cell (some c) → Em w A env.locals g1 (up m1 x a) (l1 ++ (cz, oz') :: (cy, oy') :: l2) (execs rest env) R)
    (hs : swapsWithSole [.Tuple [.Name x px, .Name y py, .Name z pz] kk tp] e pos.line env = pure false := by rfl) (hw : swappedStores [.Tuple [.Name x px, .Name y py, .Name z pz] kk tp] e env = pure none := by rfl)
    (hx : env.kindOf x = some .local := by rfl) (hy : env.kindOf y = some .cell := by rfl) (hz : env.kindOf z = some .cell := by rfl) (hkk : env.scope.kind = .function := by rfl) (hp : plainB env := by rfl) :
    Em w A env.locals g m hot (execs (.Assign [.Tuple [.Name x px, .Name y py, .Name z pz] kk tp] e pos :: rest) env) R := fun o hn s Q E g0 l0 H hQ =>
  wpAny_execs_cons (Assign_Tuple (c o hn s _ E g0 l0 H fun v g1 m1 hot1 o1 h1 tk l1' hn1 H1 r1 => by
    obtain ⟨t, a, b, c, l1, l2, oy, oz, vy, vz, rfl, e1, rfl, hoy, hoz, r1⟩ := r1
    refine wpAny_assign_Tuple (items := #[a, b, c]) hh (e1.at (Le.rf _) H1) rfl rfl fun h' he => ?_
    have H2 := H1.extBut he
    show wpAny _ _ (assignInOrder [assign (.Name x px) env, assign (.Name y py) env, assign (.Name z pz) env] [a, b, c]) _ _ _
    refine wpAny_assignInOrder_more (PySem.wpAny_assign_Name (store hn1 H2 (fun o3 h3 tk3 hn3 H3 => ?_) hx hp))
    have H3' : At g1 (((env.locals, o3) :: (l1 ++ [(cz, oz)])) ++ (cy, oy) :: l2) h3 := by simpa using H3
    refine wpAny_assignInOrder_more (PySem.wpAny_assign_Name (storeC hcy H3' hoy (fun oy' h4 hoy' H4 => ?_) hkk hy))
    have H4' : At g1 (((env.locals, o3) :: l1) ++ (cz, oz) :: ((cy, oy') :: l2)) h4 := by simpa using H4
    refine wpAny_assignInOrder_more (PySem.wpAny_assign_Name (storeC hcz H4' hoz (fun oz' h5 hoz' H5 => ?_) hkk hz))
    have H5' : At g1 ((env.locals, o3) :: (l1 ++ (cz, oz') :: (cy, oy') :: l2)) h5 := by simpa using H5
    refine wpAny_pure ?_
    exact r1 oy' oz' hoy' hoz' o3 hn3 _ Q E g1 (Le.rf _) H5' fun f g4 m4 hot4 o4 h4 tk4 l4 hn4 H4 r4 => hQ f g4 m4 hot4 o4 h4 tk4 (l1'.tr l4) hn4 H4 r4) hs hw)
/-- x = e, x a cell -/
theorem eAsgCell {x : Str} {np : Pos} {e : Expr} {cx : Addr} {ox : Obj} {vx : Option Value} {l1 l2 : Hot} {R1 : Heap → Value → Prop} (hcx : env.cells.lookup x = some cx) (hox : ox.data = .cell vx) (c : ∀ o, ObjNs o m → Cn w A g ((env.locals, o) :: (l1 ++ (cx, ox) :: l2)) (eval e env) R1)
    (k : ∀ g1 v ox', Le g g1 → R1 g1 v → ox'.data = .cell (some v) → Em w A env.locals g1 m (l1 ++ (cx, ox') :: l2) (execs rest env) R)
    (hs : swapsWith e (some (.Name x np)) pos.line env = pure false := by rfl) (hl : env.kindOf x = some .cell := by rfl) (hkk : env.scope.kind = .function := by rfl) :
    Em w A env.locals g m (l1 ++ (cx, ox) :: l2) (execs (.Assign [.Name x np] e pos :: rest) env) R := fun o hn s Q E g0 l H hQ =>
  wpAny_execs_cons (wpAny_Assign_Name (c o hn s _ E g0 l H fun v g1 h1 tk l1' H1 r1 => by
    have H1' : At g1 (((env.locals, o) :: l1) ++ (cx, ox) :: l2) h1 := H1
    refine storeC hcx H1' hox (fun ox' h' hox' H' => ?_) hkk hl
    exact k g1 v ox' (l.tr l1') r1 hox' o hn _ Q E g1 (Le.rf _) H' fun f g2 m2 hot2 o2 h2 tk2 l2 hn2 H2 r2 => hQ f g2 m2 hot2 o2 h2 tk2 (l1'.tr l2) hn2 H2 r2) hs)
/-- x.append(e), e's value by an expression that may turn hot objects -/
theorem eAppendE {o : Expr} {elt : Expr} {apos cpos : Pos} {D : Addr} {vs : List Value} (ho : ∀ ob, ObjNs ob m → Cn w A g ((env.locals, ob) :: hot) (eval o env) fun _ u => u = .ref D) (hD : ∃ n, (D, listO vs n) ∈ hot) (hz : vs.length ≤ 4096)
    (c : ∀ g0, Le g g0 → Em w A env.locals g0 m hot (eval elt env) fun v g1 m1 hot1 => ∃ l1 l2 n, hot1 = l1 ++ (D, listO vs n) :: l2 ∧ ∀ n', Em w A env.locals g1 m1 (l1 ++ (D, listO (vs ++ [v]) n') :: l2) (execs rest env) R)
    (hbase : attributeBase o "append" env (eval o env) = eval o env := by rfl)
    (hfew : ((backTo cpos (starEach [elt] env)).all (fun x => !x.1) && (backToKw cpos (keywordEach [] env)).all (fun x => x.1.isSome)
      && decide (([elt] : List Expr).length + ([] : List Keyword).length + (if ([] : List Keyword).isEmpty then 0 else 1) < 30)) = true := by rfl)
    (hline : (apos.endLine == cpos.line) = true := by rfl)
    (htrees : backTo cpos (starEach [elt] env) = [(false, eval elt env)] := by rfl) (hi : interactive env = false := by rfl) (hs : swapsWith (.Call (.Attribute o "append" apos) [elt] [] cpos) none pos.line env = pure false := by rfl) :
    Em w A env.locals g m hot (execs (.Expr (.Call (.Attribute o "append" apos) [elt] [] cpos) pos :: rest) env) R := fun ob hn s Q E g0 l H hQ => by
  obtain ⟨n, hD⟩ := hD
  refine wpAny_execs_cons (wpAny_Expr (wpAny_Call_append hbase hfew hline htrees (ho ob hn s _ E g0 l H fun u g1 h1 tk l1' H1 r1 => ?_)) hi hs)
  subst r1
  refine ⟨D, vs.toArray, rfl, ⟨_, n, H1.on _ (.tail _ hD), rfl, rfl, rfl⟩, ?_⟩
  refine c g1 (l.tr l1') ob hn _ _ E g1 (Le.rf _) H1 fun v g2 m2 hot2 o2 h2 tk2 l2' hn2 H2 r2 => ?_
  obtain ⟨l1, l2, n, rfl, k⟩ := r2
  refine wpAny_list_append_plain ⟨n, H2.on _ (.tail _ (List.mem_append_right _ (.head _)))⟩ (fun h' hpl hsb => ?_) (by rw [List.size_toArray]; exact Nat.le_trans hz (by decide))
  obtain ⟨n', e'⟩ := hpl
  have e2 : vs.toArray.push v = (vs ++ [v]).toArray := by simp
  rw [e2] at e'
  have H3 : At g2 ((env.locals, o2) :: (l1 ++ (D, listO (vs ++ [v]) n') :: l2)) h' := At.setAt (l1 := (env.locals, o2) :: l1) H2 hsb e'
  exact k n' o2 hn2 _ Q E g2 (Le.rf _) H3 fun f g4 m4 hot4 o4 h4 tk4 l4 hn4 H4 r4 => hQ f g4 m4 hot4 o4 h4 tk4 ((l1'.tr l2').tr l4) hn4 H4 r4
/-- a for whose iterator's own objects stand last -/
theorem eForL {x : Str} {px : Pos} {iter : Expr} {body : List Stmt} {n : Nat} {P : Nat → Value → Prop} (J : Nat → Heap → Loc → Hot → Prop) (c : ∀ o, ObjNs o m → It w A g ((env.locals, o) :: hot) (eval iter env) n P [])
    (j0 : ∀ g1, Le g g1 → J 0 g1 m hot)
    (turn : ∀ i g1 m1 hot1 v its, Le g g1 → i < n → J i g1 m1 hot1 → P i v → Em w A env.locals g1 (up m1 x v) (hot1 ++ its) (execs body env) fun fl g2 m2 hot2 => (fl = .next ∨ fl = .cont) ∧ ∃ hot3, hot2 = hot3 ++ its ∧ J (i + 1) g2 m2 hot3)
    (k : ∀ g1 m1 hot1, Le g g1 → J n g1 m1 hot1 → Em w A env.locals g1 m1 hot1 (execs rest env) R)
    (hx : env.kindOf x = some .local := by rfl) (hp : plainB env := by rfl)
    (hs : ∀ x, foldedSetIterable iter env x = pure x := by intro _; rfl) : Em w A env.locals g m hot (execs (.For (.Name x px) iter body [] pos :: rest) env) R :=
  eFor [] J c j0 (fun _ _ _ _ _ p hp => nomatch hp) (fun i g1 m1 hot1 v its l hi hJ hP => (Em.perm (turn i g1 m1 hot1 v its l hi hJ hP) List.perm_append_comm).permR fun fl g2 m2 hot2 l2 ⟨hf, hot3, e, hJ'⟩ => ⟨its ++ hot3, e ▸ List.perm_append_comm, hf, hot3, rfl, hJ'⟩) k hx hp hs
end
/-- x and y and z of bools -/
theorem vAnd3 {w : World} {A : Around} {g : Heap} {hot : Hot} {env : Env} {pos : Pos} {x y z : Expr} (h : Cn w A g hot (eval x env) fun _ v => v = .bool true) (h2 : ∀ g1, Le g g1 → Cn w A g1 hot (eval y env) fun _ v => v = .bool true) (h3 : ∀ g1, Le g g1 → Cn w A g1 hot (eval z env) fun _ v => v = .bool true) :
    Cn w A g hot (eval (.BoolOp .And [x, y, z] pos) env) fun _ v => v = .bool true := fun s Q E g0 l H hQ => by
  show wpAny (MM w) A (do
    let v ← eval x env
    standAt pos
    let t ← holding [v] (truthy v)
    match BoolOp.And, t with
    | .And, false | .Or, true => pure v
    | _, _ => boolOp pos .And [eval y env, eval z env]) Q E s
  refine wpAny_bind (h s _ E g0 l H fun v g1 h1 tk l1 H1 r1 => ?_)
  subst r1
  refine wpAny_bind (wpAny_standAt (wpAny_bind (wpAny_holding (wpAny_truthy_bool ?_))))
  show wpAny (MM w) A (eval (.BoolOp .And [y, z] pos) env) Q E _
  exact vAnd (b := true) (h2 g1 (l.tr l1)) (fun h => nomatch h) (fun _ g2 l2 => h3 g2 ((l.tr l1).tr l2)) _ Q E g1 (Le.rf _) H1 fun v g2 h2 tk2 l2 H2 r2 => hQ v g2 h2 tk2 (l1.tr l2) H2 r2
end Mine

/-! Lg26 -/
open PySem PySem.W PyProof.Rows PySem.Spec PySem.Calls
set_option maxRecDepth 100000
set_option linter.unusedVariables false
namespace Mine

/-- a program's own four objects, as they are made -/
abbrev Pg.o4 (p : Pg) (w : World) : Hot := [(p.ra, listO p.rv p.re), (p.na, listO p.nv p.ne), (p.pa, instObj 52 p.da), (p.da, dictOf (p.es w) p.ke)]
/-- its two, the lists frozen -/
abbrev Pg.o2 (p : Pg) (w : World) : Hot := [(p.pa, instObj 52 p.da), (p.da, dictOf (p.es w) p.ke)]

section
variable {w : World} {A : Around} {g : Heap} {m : Loc} {hot : Hot} {env : Env} {pos : Pos}
/-- _law_next(feed, e) -/
theorem nextE {l1 l2 : Hot} {fa ca : Addr} {tv : Value} {n cn t : Nat} {mm : Int} {cv : List Value} {xs : List Int} {np p1 cpos : Pos} {e : Expr} {R : Value → Heap → Loc → Hot → Prop} (hh : A.handled = none) (hd : A.depth < 880) (W : Wd w g) (hm : m "feed" = some (.ref fa)) (hc : g.get? ca = some (listO cv cn)) (hi : IntsV cv xs) (hz : xs.length ≤ 40) (ht : IsI t tv) (htz : t ≤ 500)
    (c2 : ∀ o, ObjNs o m → ∀ g1, Le g g1 → Cn w A g1 ((env.locals, o) :: (l1 ++ (fa, listO [.ref ca, tv] n) :: l2)) (eval e env) fun _ v => IsI mm v) (hm0 : 0 < mm)
    (r : ∀ g1 tv' n' (r : Nat) v, Le g g1 → IsI ((t + 1 : Nat) : Int) tv' → IsI r v → (r : Int) < mm → R v g1 m (l1 ++ (fa, listO [.ref ca, tv'] n') :: l2))
    (he1 : starEach [.Name "feed" p1, e] env = (false, eval (.Name "feed" p1) env) :: starEach [e] env := by rfl) (he : starEach [.Name "feed" p1, e] env = [(false, eval (.Name "feed" p1) env), (false, eval e env)] := by rfl) (he2 : starEach [e] env = [(false, eval e env)] := by rfl)
    (hgl : env.globals = mainGlobals := by rfl) (hk : env.scope.kind = .function := by rfl) (hl : env.kindOf "_law_next" = some .globalImplicit := by rfl) (hl2 : env.kindOf "feed" = some .local := by rfl) :
    Em w A env.locals g m (l1 ++ (fa, listO [.ref ca, tv] n) :: l2) (eval (.Call (.Name "_law_next" np) [.Name "feed" p1, e] [] cpos) env) R := by
  refine mCallE (f := 118) W rfl rfl rfl (fun o ho => arg2 (nV (.head _) ho hm hk hl2 (by decide)) (c2 o ho) (fun _ _ _ _ h => h) (fun _ _ _ _ h => h) he he2) (fun o ho g1 vs l r => ?_) he1 hgl hk hl (by decide)
  obtain ⟨a, b, rfl, rfl, hb⟩ := r
  have c := c_next (fa := fa) (hot := (env.locals, o) :: (l1 ++ l2)) (t := t) (n := n) (tv := tv) hh (by omega) (W.up l) (l _ _ hc) hi hz ht htz hb hm0
  refine Cc.perm c ((List.perm_middle.cons _).trans (List.Perm.swap ..)) fun g2 hot2 v l2' r2 => ?_
  obtain ⟨tv', n', r', rfl, e1, e2, e3⟩ := r2
  exact ⟨(env.locals, o) :: (l1 ++ (fa, listO [.ref ca, tv'] n') :: l2), (List.Perm.swap ..).trans (List.perm_middle.symm.cons _), o, _, rfl, ho, r g2 tv' n' r' v (l.tr l2') e1 e2 e3⟩
theorem perm2 {x y : Addr × Obj} {a b : Hot} : (a ++ x :: y :: b).Perm (y :: x :: (a ++ b)) := (List.perm_middle.trans (List.perm_middle.cons x)).trans (List.Perm.swap ..)
/-- put_line behind the last line -/
theorem c_putC {l1 l2 : Hot} (p : Pg) {ns : List Int} {n : Int} {nv : Value} {ra : Addr} {rv : List Value} {rn : Nat} (hh : A.handled = none) (hd : A.depth < 850)
    (W : Wd w g) (hi : IntsV p.nv ns) (hs : ns.Pairwise (· < ·)) (hz : ns.length < 100) (hrl : p.rv.length = ns.length) (hn : IsI n nv) (h0 : 0 ≤ n) (h1 : n ≤ 65529) (hgt : ∀ x ∈ ns, x < n)
    (hra : g.get? ra = some (listO rv rn)) (hrv : 0 < rv.length) (hrv2 : rv.length < 100) :
    Cc w A g (l1 ++ (p.o4 w ++ l2)) (call (.ref 77) [.ref p.pa, nv, .ref ra]) fun g1 hot1 v => v = .none ∧ ∃ n1 n2, hot1 = l1 ++ (({ p with nv := p.nv ++ [nv], rv := p.rv ++ [.ref ra], ne := n1, re := n2 } : Pg).o4 w ++ l2) := by
  have c := c_put (g := g) (hot := l1 ++ p.o2 w ++ l2) p hh hd (by simp) (by simp) W hi hs hz hrl hn h0 h1 hgt hra hrv hrv2
  refine Cc.perm c ?_ fun g2 hot2 v l2' r2 => ?_
  · have := perm2 (x := (p.ra, listO p.rv p.re)) (y := (p.na, listO p.nv p.ne)) (a := l1) (b := p.o2 w ++ l2)
    rw [← List.append_assoc] at this
    exact this
  · obtain ⟨e, n1, n2, rfl⟩ := r2
    refine ⟨_, ?_, e, n1, n2, rfl⟩
    have := (perm2 (x := (p.ra, listO (p.rv ++ [.ref ra]) n2)) (y := (p.na, listO (p.nv ++ [nv]) n1)) (a := l1) (b := p.o2 w ++ l2)).symm
    rw [← List.append_assoc] at this
    exact this
end
theorem lay_prs (l : List (Int × Int)) : PyData.canLayAll0 (l.map prD) = true := by
  induction l with
  | nil => rfl
  | cons a r ih => simpa [PyData.canLayAll0, PyData.canLay0, prD] using ih
theorem depth_prs (l : List (Int × Int)) : PyData.depthAll (l.map prD) ≤ 3 := by
  induction l with
  | nil => exact Nat.zero_le _
  | cons a r ih =>
    have h : (prD a).depth ≤ 3 := by simp [prD, PyData.depth, PyData.depthAll]
    simp only [List.map_cons, PyData.depthAll]
    omega
theorem shaped_prs (l : List (Int × Int)) : SeqAt.shaped (.list (l.map prD)) = true := by
  have := depth_prs l
  have h2 : (PyData.list (l.map prD)).depth ≤ 64 := by simp only [PyData.depth]; omega
  simp only [SeqAt.shaped, PyData.canLay0, lay_prs l, Bool.true_and]
  exact decide_eq_true h2
/-- the same pairs are told: told != due is False -/
theorem neSame {w : World} {A : Around} {g : Heap} {hot : Hot} {u v : Value} {d : PyData} (hu : A.units + 64 < cLine) (ru : Rd g u d) (rv : Rd g v d) (h1 : SeqAt.shaped d = true) (h2 : d.canLay0 = true) : Cn w A g hot (compareOp .NotEq u v) fun _ r => r = .bool false :=
  Cn.imp (cNeD ru.h rv.h h1 h1 hu) fun _ r _ e => by rw [e, PySem.SeqAt.eqv_refl _ h2]; rfl
end Mine

/-! Lg27 -/
open PySem PySem.W PyProof.Rows PySem.Spec PySem.Calls
set_option maxRecDepth 100000
set_option linter.unusedVariables false
namespace Mine

theorem rowT_pos : ∀ f < 8, ∀ gs ns, 0 < (rowT f gs ns).length := fun f hf gs ns => by
  unfold rowT
  rw [List.length_map]
  revert f hf
  exact lt8 (by decide) (by decide) (by decide) (by decide) (by decide) (by decide) (by decide) (by decide)
section
variable {w : World} {A : Around} {g : Heap} {m : Loc} {hot : Hot} {env : Env} {pos : Pos} {R : Flow → Heap → Loc → Hot → Prop} {rest : List Stmt}
/-- _law_row(forms[at], goals[at], numbers) -/
theorem rowArg {o : Obj} {foa goa na : Addr} {fv gv nv : List Value} {fn gn nn i f : Nat} {forms : List Nat} {goals : List (List Int)} {gs ns : List Int} {iv : Value} {np p1 p2 p3 p4 p5 p6 p7 cpos : Pos}
    (hh : A.handled = none) (hd : A.depth < 870) (hu : A.units + 300 < cLine) (W : Wd w g) (hm : (env.locals, o) ∈ hot) (ho : ObjNs o m) (m1 : m "forms" = some (.ref foa)) (m2 : m "goals" = some (.ref goa)) (m3 : m "numbers" = some (.ref na)) (m4 : m "at" = some iv)
    (hf : g.get? foa = some (listO fv fn)) (hfi : IntsV fv (natI forms)) (hg : g.get? goa = some (listO gv gn)) (hgv : GoalsV g gv goals) (hn : g.get? na = some (listO nv nn)) (hni : IntsV nv ns) (hi : IsI i iv) (hfx : forms[i]? = some f) (hgx : goals[i]? = some gs) (hf8 : f < 8) (hgg : goodGoals ns.length gs) (hz : ns.length ≤ 8) (hfz : forms.length ≤ 8) (hgz : goals.length ≤ 8)
    (hgl : env.globals = mainGlobals := by rfl) (hk : env.scope.kind = .function := by rfl) (hl : env.kindOf "_law_row" = some .globalImplicit := by rfl) (k1 : env.kindOf "forms" = some .local := by rfl) (k2 : env.kindOf "goals" = some .local := by rfl) (k3 : env.kindOf "numbers" = some .local := by rfl) (k4 : env.kindOf "at" = some .local := by rfl) :
    Cn w A g hot (eval (.Call (.Name "_law_row" np) [.Subscript (.Name "forms" p1) (.Name "at" p2) p3, .Subscript (.Name "goals" p4) (.Name "at" p5) p6, .Name "numbers" p7] [] cpos) env) fun g1 v => ∃ a vs n, v = .ref a ∧ g1.get? a = some (listO vs n) ∧ RdAll g1 vs ((rowT f gs ns).map Tk.d) := by
  have hil := (List.getElem?_eq_some_iff.mp hfx).1
  have hig := (List.getElem?_eq_some_iff.mp hgx).1
  obtain ⟨v, hv⟩ : ∃ v, gv[i]? = some v := ⟨gv[i]'(by rw [hgv.len]; exact hig), List.getElem?_eq_getElem (by rw [hgv.len]; exact hig)⟩
  obtain ⟨gsa, us, gsn, rfl, ea, hus⟩ := hgv.at' i v gs hv hgx
  obtain ⟨b, hb, hbi⟩ := hfi.get (i := i) (n := f) (by simp [natI, hfx])
  refine calldef (f := 130) W rfl rfl rfl (arg3 (R1 := fun _ v => v = b) (R2 := fun _ v => v = .ref gsa) (subs (nV hm ho m1 hk k1 (by decide)) (fun _ _ _ _ => nV hm ho m4 hk k4 (by decide)) fun g5 g6 u v l5 l6 ru rv => by
      subst ru rv
      exact iList (HasL.of ((l5.tr l6) _ _ hf)) hi (by omega) (by omega) (by simpa using hb)) (fun g4 l4 => subs (nV hm ho m2 hk k2 (by decide)) (fun _ _ _ _ => nV hm ho m4 hk k4 (by decide)) fun g5 g6 u v l5 l6 ru rv => by
      subst ru rv
      exact iList (HasL.of ((l4.tr (l5.tr l6)) _ _ hg)) hi (by omega) (by omega) (by simpa using hv)) fun g4 l4 => nV hm ho m3 hk k3 (by decide)) (fun g4 vs l4 r => ?_) rfl hgl hk hl (by decide)
  obtain ⟨x, y, z, rfl, rfl, rfl, rfl⟩ := r
  exact c_row hh (by omega) (by omega) (W.up l4) hbi hf8 (l4 _ _ ea) hus (l4 _ _ hn) hni hgg hz
/-- put_line(x, numbers[at], _law_row(..)) -/
theorem putStmt {x : Str} {l1 l2 : Hot} (p : Pg) {foa goa na : Addr} {fv gv nv : List Value} {fn gn nn i f : Nat} {forms : List Nat} {goals : List (List Int)} {gs ns ms : List Int} {num : Int} {iv : Value} {np p1 p2 p3 p4 p5 p6 p7 cpos pnp px q1 q2 q3 ppos : Pos}
    (hh : A.handled = none) (hd : A.depth < 850) (hu : A.units + 300 < cLine) (W : Wd w g) (m0 : m x = some (.ref p.pa)) (m1 : m "forms" = some (.ref foa)) (m2 : m "goals" = some (.ref goa)) (m3 : m "numbers" = some (.ref na)) (m4 : m "at" = some iv)
    (hf : g.get? foa = some (listO fv fn)) (hfi : IntsV fv (natI forms)) (hg : g.get? goa = some (listO gv gn)) (hgv : GoalsV g gv goals) (hn : g.get? na = some (listO nv nn)) (hni : IntsV nv ns) (hi : IsI i iv) (hfx : forms[i]? = some f) (hgx : goals[i]? = some gs) (hnx : ns[i]? = some num) (hf8 : f < 8) (hgg : goodGoals ns.length gs) (hz : ns.length ≤ 8) (hfz : forms.length ≤ 8) (hgz : goals.length ≤ 8)
    (hpi : IntsV p.nv ms) (hps : ms.Pairwise (· < ·)) (hpz : ms.length < 100) (hrl : p.rv.length = ms.length) (h0 : 0 ≤ num) (h1 : num ≤ 65529) (hgt : ∀ x ∈ ms, x < num)
    (k : ∀ g1 nv' ra rv rn n1 n2, Le g g1 → IsI num nv' → g1.get? ra = some (listO rv rn) → RdAll g1 rv ((rowT f gs ns).map Tk.d) → Em w A env.locals g1 m (l1 ++ (({ p with nv := p.nv ++ [nv'], rv := p.rv ++ [.ref ra], ne := n1, re := n2 } : Pg).o4 w ++ l2)) (execs rest env) R)
    (hgl : env.globals = mainGlobals := by rfl) (hk : env.scope.kind = .function := by rfl) (hl0 : env.kindOf "put_line" = some .globalImplicit := by rfl) (hl : env.kindOf "_law_row" = some .globalImplicit := by rfl) (k0 : env.kindOf x = some .local := by rfl) (k1 : env.kindOf "forms" = some .local := by rfl) (k2 : env.kindOf "goals" = some .local := by rfl) (k3 : env.kindOf "numbers" = some .local := by rfl) (k4 : env.kindOf "at" = some .local := by rfl) (hxd : (x == ("__debug__" : Str)) = false := by decide)
    (hin : interactive env = false := by rfl) (hs : swapsWith (.Call (.Name "put_line" pnp) [.Name x px, .Subscript (.Name "numbers" q1) (.Name "at" q2) q3, .Call (.Name "_law_row" np) [.Subscript (.Name "forms" p1) (.Name "at" p2) p3, .Subscript (.Name "goals" p4) (.Name "at" p5) p6, .Name "numbers" p7] [] cpos] [] ppos) none pos.line env = pure false := by rfl) :
    Em w A env.locals g m (l1 ++ (p.o4 w ++ l2)) (execs (.Expr (.Call (.Name "put_line" pnp) [.Name x px, .Subscript (.Name "numbers" q1) (.Name "at" q2) q3, .Call (.Name "_law_row" np) [.Subscript (.Name "forms" p1) (.Name "at" p2) p3, .Subscript (.Name "goals" p4) (.Name "at" p5) p6, .Name "numbers" p7] [] cpos] [] ppos) pos :: rest) env) R := by
  obtain ⟨nv', hnv', hni'⟩ := hni.get hnx
  refine eExpr (mCallE (f := 77) W rfl rfl rfl (fun o ho => arg3 (R1 := fun _ v => v = .ref p.pa) (R2 := fun _ v => v = nv') (R3 := fun g1 v => ∃ a vs n, v = .ref a ∧ g1.get? a = some (listO vs n) ∧ RdAll g1 vs ((rowT f gs ns).map Tk.d)) (nV (.head _) ho m0 hk k0 hxd) (fun g4 l4 => subs (nV (.head _) ho m3 hk k3 (by decide)) (fun _ _ _ _ => nV (.head _) ho m4 hk k4 (by decide)) fun g5 g6 u v l5 l6 ru rv => by
      subst ru rv
      exact iList (HasL.of ((l4.tr (l5.tr l6)) _ _ hn)) hi (by omega) (by have := (List.getElem?_eq_some_iff.mp hnx).1; omega) (by simpa using hnv')) (fun g4 l4 => rowArg hh (by omega) hu (W.up l4) (.head _) ho m1 m2 m3 m4 (l4 _ _ hf) hfi (l4 _ _ hg) (hgv.up l4) (l4 _ _ hn) hni hi hfx hgx hf8 hgg hz hfz hgz hgl hk hl k1 k2 k3 k4) (fun _ _ _ _ h => h) (fun _ _ _ _ h => h) (fun g1 g2 v l ⟨a, vs, n, e1, e2, e3⟩ => ⟨a, vs, n, e1, l _ _ e2, e3.mono l⟩)) (fun o ho g1 vs l r => ?_) rfl hgl hk hl0 (by decide)) hin hs
  obtain ⟨a, b, c, rfl, rfl, rfl, ra, rv, rn, rfl, era, hrv⟩ := r
  have hrvl : rv.length = (rowT f gs ns).length := by simpa using hrv.length
  have h7 := rowT_len f gs ns
  have h8 := rowT_pos f hf8 gs ns
  refine Cc.imp (c_putC (l1 := (env.locals, o) :: l1) (l2 := l2) p hh (by omega) (W.up l) hpi hps hpz hrl hni' h0 h1 hgt era (by omega) (by omega)) fun g2 hot2 v l2' ⟨e, n1, n2, e2⟩ => ⟨o, _, e2, ho, e, fun g3 l3 => k g3 _ ra rv rn n1 n2 (l.tr (l2'.tr l3)) hni' ((l2'.tr l3) _ _ era) (hrv.mono (l2'.tr l3))⟩
end
end Mine

/-! Lg28 -/
open PySem PySem.W PyProof.Rows PySem.Spec PySem.Calls
set_option maxRecDepth 100000
set_option linter.unusedVariables false
namespace Mine

section
variable {w : World} {A : Around} {g : Heap} {m : Loc} {hot : Hot} {env : Env} {pos : Pos}
/-- _law_same(program, forms, goals, numbers) -/
theorem sameC {o : Obj} (p : Pg) {foa goa na : Addr} {fv gv nv : List Value} {fn gn nn : Nat} {forms : List Nat} {goals : List (List Int)} {ns : List Int} {np p1 p2 p3 p4 cpos : Pos}
    (hh : A.handled = none) (hd : A.depth < 860) (hu : A.units + 400 < cLine) (W : Wd w g) (P : PgIn p w g hot) (hm : (env.locals, o) ∈ hot) (ho : ObjNs o m) (m0 : m "program" = some (.ref p.pa)) (m1 : m "forms" = some (.ref foa)) (m2 : m "goals" = some (.ref goa)) (m3 : m "numbers" = some (.ref na))
    (hf : g.get? foa = some (listO fv fn)) (hfi : IntsV fv (natI forms)) (hg : g.get? goa = some (listO gv gn)) (hgv : GoalsV g gv goals) (hn : g.get? na = some (listO nv nn)) (hni : IntsV nv ns) (D : Drawn' forms goals ns.length) (hz : ns.length ≤ 8)
    (hpn : IntsV p.nv ns) (hpr : RowsV g p.rv (rowsOf forms goals ns ns.length))
    (hgl : env.globals = mainGlobals := by rfl) (hk : env.scope.kind = .function := by rfl) (hl : env.kindOf "_law_same" = some .globalImplicit := by rfl) (k0 : env.kindOf "program" = some .local := by rfl) (k1 : env.kindOf "forms" = some .local := by rfl) (k2 : env.kindOf "goals" = some .local := by rfl) (k3 : env.kindOf "numbers" = some .local := by rfl) :
    Cn w A g hot (eval (.Call (.Name "_law_same" np) [.Name "program" p1, .Name "forms" p2, .Name "goals" p3, .Name "numbers" p4] [] cpos) env) fun _ v => v = .bool true := by
  refine calldef (f := 142) W rfl rfl rfl (arg4 (nV hm ho m0 hk k0 (by decide)) (fun _ _ => nV hm ho m1 hk k1 (by decide)) (fun _ _ => nV hm ho m2 hk k2 (by decide)) fun _ _ => nV hm ho m3 hk k3 (by decide)) (fun g1 us l r => ?_) rfl hgl hk hl (by decide)
  obtain ⟨a, b, c, d, rfl, rfl, rfl, rfl, rfl⟩ := r
  exact c_same p hh (by omega) (by omega) (P.to l fun _ h => h) (W.up l) (l _ _ hf) hfi D.f8 (l _ _ hg) (hgv.up l) (l _ _ hn) hni D.gg (by have := D.fl; omega) (D.gl.trans D.fl.symm) D.fl.symm hpn (D.fl.symm ▸ hpr.up l)
/-- _law_lost(forms, goals, numbers) -/
theorem lostC {o : Obj} {foa goa na : Addr} {fv gv nv : List Value} {fn gn nn : Nat} {forms : List Nat} {goals : List (List Int)} {ns : List Int} {np p2 p3 p4 cpos : Pos}
    (hh : A.handled = none) (hd : A.depth < 870) (W : Wd w g) (hm : (env.locals, o) ∈ hot) (ho : ObjNs o m) (m1 : m "forms" = some (.ref foa)) (m2 : m "goals" = some (.ref goa)) (m3 : m "numbers" = some (.ref na))
    (hf : g.get? foa = some (listO fv fn)) (hfi : IntsV fv (natI forms)) (hg : g.get? goa = some (listO gv gn)) (hgv : GoalsV g gv goals) (hn : g.get? na = some (listO nv nn)) (hni : IntsV nv ns) (D : Drawn' forms goals ns.length) (hz : ns.length ≤ 8)
    (hgl : env.globals = mainGlobals := by rfl) (hk : env.scope.kind = .function := by rfl) (hl : env.kindOf "_law_lost" = some .globalImplicit := by rfl) (k1 : env.kindOf "forms" = some .local := by rfl) (k2 : env.kindOf "goals" = some .local := by rfl) (k3 : env.kindOf "numbers" = some .local := by rfl) :
    CD w A g hot (eval (.Call (.Name "_law_lost" np) [.Name "forms" p2, .Name "goals" p3, .Name "numbers" p4] [] cpos) env) (.list ((lwTo forms goals ns ns.length).map prD)) := by
  refine calldef (f := 137) W rfl rfl rfl (arg3 (nV hm ho m1 hk k1 (by decide)) (fun _ _ => nV hm ho m2 hk k2 (by decide)) fun _ _ => nV hm ho m3 hk k3 (by decide)) (fun g1 us l r => ?_) rfl hgl hk hl (by decide)
  obtain ⟨a, b, c, rfl, rfl, rfl, rfl⟩ := r
  refine Cn.imp (c_lawlost hh (by omega) (W.up l) (l _ _ hf) hfi (l _ _ hg) (hgv.up l) (l _ _ hn) hni (fun gs h => (D.gg gs h).1) (by have := D.fl; omega) (D.gl.trans D.fl.symm) D.fl.symm) fun g2 v l2 ⟨a, vs, n, e, e2, e3⟩ => ?_
  subst e
  rw [D.fl] at e3
  exact Rd.ofList ⟨_, e2, rfl, n, rfl⟩ e3
end
def lst (ns : List Int) (b : Nat) : Int := if b = 0 then -2 else ns[b - 1]?.getD 0
theorem lst_facts {ns : List Int} {b : Nat} {B : Int} (h : Lin ns) (hb : b < ns.length) (hB : ∀ x ∈ ns, x ≤ B) (h0 : 0 ≤ B) : lst ns b < leastOf ns b ∧ leastOf ns b ≤ lst ns b + 2 ∧ lst ns b % 2 = 0 ∧ -2 ≤ lst ns b ∧ lst ns b ≤ B := by
  unfold lst leastOf
  by_cases q : b = 0
  · rw [if_pos q, if_pos q]; omega
  · rw [if_neg q, if_neg q, List.getElem?_eq_getElem (show b - 1 < ns.length by omega)]
    show ns[b - 1] < ns[b - 1] + 1 ∧ ns[b - 1] + 1 ≤ ns[b - 1] + 2 ∧ ns[b - 1] % 2 = 0 ∧ -2 ≤ ns[b - 1] ∧ ns[b - 1] ≤ B
    have hm := List.getElem_mem (show b - 1 < ns.length by omega)
    have := h.ev _ hm
    have := hB _ hm
    omega
end Mine

/-! C16 -/
open PySem PySem.W PyProof.Rows PySem.Spec PySem.Calls
set_option maxRecDepth 100000
set_option linter.unusedVariables false
namespace Mine

theorem pick_to (vs : List Value) (b : Nat) : pickL vs none (some b) = vs.take b := by
  by_cases hb : b ≤ vs.length
  · exact pick_take vs b hb
  · unfold pickL slicePick sliceBounds
    have h1 : ¬ (b : Int) < 0 := by omega
    simp only [Option.getD_none, List.size_toArray, h1, if_false]
    have e1 : max 0 (min (b : Int) (vs.length : Int)) = (vs.length : Int) := by omega
    have e2 : (if (1 : Int) > 0 then max 0 (min (b : Int) (vs.length : Int)) else max (-1) (min (b : Int) ((vs.length : Int) - 1))) = (vs.length : Int) := by rw [if_pos (by decide), e1]
    have e3 : (if (1 : Int) > 0 then (0 : Int) else (vs.length : Int) - 1) = 0 := by rw [if_pos (by decide)]
    rw [e2, e3]
    have := sliceRange_one 0 vs.length
    simp only [Int.natCast_zero] at this
    rw [this]
    simp [filterMap_range]
    rw [List.take_of_length_le (by omega)]
section
variable {w : World} {A : Around} {g : Heap} {m : Loc} {hot : Hot} {env : Env} {pos : Pos}
/-- c + _law_next(feed, e) -/
theorem addNextE {l1 l2 : Hot} {fa ca : Addr} {tv : Value} {n cn t kk : Nat} {c mm : Int} {cv : List Value} {xs : List Int} {np p1 cpos p2 p3 : Pos} {e : Expr} {R : Value → Heap → Loc → Hot → Prop} (hh : A.handled = none) (hd : A.depth < 880) (W : Wd w g) (hm : m "feed" = some (.ref fa)) (hc : g.get? ca = some (listO cv cn)) (hi : IntsV cv xs) (hz : xs.length ≤ 40) (ht : IsI t tv) (htz : t ≤ 500)
    (c2 : ∀ o, ObjNs o m → ∀ g1, Le g g1 → Cn w A g1 ((env.locals, o) :: (l1 ++ (fa, listO [.ref ca, tv] n) :: l2)) (eval e env) fun _ v => IsI mm v) (hm0 : 0 < mm)
    (r : ∀ g1 tv' n' (r : Nat) v, Le g g1 → IsI ((t + 1 : Nat) : Int) tv' → IsI (c + r) v → (r : Int) < mm → R v g1 m (l1 ++ (fa, listO [.ref ca, tv'] n') :: l2))
    (he1 : starEach [.Name "feed" p1, e] env = (false, eval (.Name "feed" p1) env) :: starEach [e] env := by rfl) (he : starEach [.Name "feed" p1, e] env = [(false, eval (.Name "feed" p1) env), (false, eval e env)] := by rfl) (he2 : starEach [e] env = [(false, eval e env)] := by rfl)
    (hgl : env.globals = mainGlobals := by rfl) (hk : env.scope.kind = .function := by rfl) (hl : env.kindOf "_law_next" = some .globalImplicit := by rfl) (hl2 : env.kindOf "feed" = some .local := by rfl) :
    Em w A env.locals g m (l1 ++ (fa, listO [.ref ca, tv] n) :: l2) (eval (.BinOp (.Constant (.int c) kk p2) .Add (.Call (.Name "_law_next" np) [.Name "feed" p1, e] [] cpos) p3) env) R :=
  emBinC (Em.ofCn (fun o ho => cI) fun g1 a l ha => by
    refine nextE hh hd (W.up l) hm (l _ _ hc) hi hz ht htz (fun o ho g2 l2 => c2 o ho g2 (l.tr l2)) hm0 (fun g2 tv' n' r' v l2' e1 e2 e3 => ?_) he1 he he2 hgl hk hl hl2
    exact Em.ofCn (fun o ho => oAdd ha e2) fun g3 v l3 h => r g3 tv' n' r' v ((l.tr l2').tr l3) e1 h e3)
end

/-- the names that stand through the law -/
structure Nm (m : Loc) (fa pa qa foa goa : Addr) (mv uv : Value) : Prop where
  feed : m "feed" = some (.ref fa)
  program : m "program" = some (.ref pa)
  mate : m "mate" = some (.ref qa)
  many : m "many" = some mv
  times : m "times" = some uv
  forms : m "forms" = some (.ref foa)
  goals : m "goals" = some (.ref goa)

theorem GoalsV.snoc {g : Heap} {vs : List Value} {goals : List (List Int)} {a : Addr} {us : List Value} {n : Nat} {gs : List Int} (h : GoalsV g vs goals) (e : g.get? a = some (listO us n)) (r : IntsV us gs) : GoalsV g (vs ++ [.ref a]) (goals ++ [gs]) := by
  refine ⟨by simp [h.len], fun i v ts' h1 h2 => ?_⟩
  by_cases q : i < vs.length
  · rw [List.getElem?_append_left q] at h1
    rw [List.getElem?_append_left (by rw [← h.len]; exact q)] at h2
    exact h.at' i v ts' h1 h2
  · have hl := (List.getElem?_eq_some_iff.mp h1).1
    simp at hl
    have hi : i = vs.length := by omega
    subst hi
    rw [List.getElem?_append_right (Nat.le_refl _)] at h1
    rw [List.getElem?_append_right (by rw [h.len]; exact Nat.le_refl _), h.len] at h2
    simp at h1 h2
    subst h1 h2
    exact ⟨a, us, n, rfl, e, r⟩
/-- a goal out of a draw -/
def gx (r : Int) : Int := if r > 0 then 2 * r - 2 else 2001
theorem gx_ok {n r : Nat} (h : r ≤ n) : gx r = 2001 ∨ ∃ i : Nat, i < n ∧ gx r = 2 * (i : Int) := by
  unfold gx
  split
  · exact .inr ⟨r - 1, by omega, by omega⟩
  · exact .inl rfl
theorem Nm.at {m : Loc} {fa pa qa foa goa : Addr} {mv uv v : Value} (N : Nm m fa pa qa foa goa mv uv) : Nm (up m "at" v) fa pa qa foa goa mv uv := ⟨N.feed, N.program, N.mate, N.many, N.times, N.forms, N.goals⟩
theorem Nm.spots {m : Loc} {fa pa qa foa goa : Addr} {mv uv v : Value} (N : Nm m fa pa qa foa goa mv uv) : Nm (up m "spots" v) fa pa qa foa goa mv uv := ⟨N.feed, N.program, N.mate, N.many, N.times, N.forms, N.goals⟩
theorem Nm.numbers {m : Loc} {fa pa qa foa goa : Addr} {mv uv v : Value} (N : Nm m fa pa qa foa goa mv uv) : Nm (up m "numbers" v) fa pa qa foa goa mv uv := ⟨N.feed, N.program, N.mate, N.many, N.times, N.forms, N.goals⟩

def ns0 (n : Nat) : List Int := (List.range n).map fun i : Nat => 10 + 2 * (i : Int)
theorem ns0_len (n : Nat) : (ns0 n).length = n := by simp [ns0]
theorem ns0_get {n i : Nat} (h : i < n) : (ns0 n)[i]? = some (10 + 2 * (i : Int)) := by simp [ns0, h]
theorem ns0_lin (n : Nat) : Lin (ns0 n) := by
  refine ⟨?_, fun x hx => ?_⟩
  · unfold ns0
    rw [List.pairwise_map]
    exact List.Pairwise.imp (fun {a b} hab => by omega) (List.pairwise_lt_range)
  · obtain ⟨i, _, rfl⟩ := List.mem_map.mp hx
    omega
theorem ns0_le {n : Nat} (h : n ≤ 6) : ∀ x ∈ ns0 n, x ≤ 1000 := fun x hx => by
  obtain ⟨i, hi, rfl⟩ := List.mem_map.mp hx
  have := List.mem_range.mp hi
  omega
theorem ns0_take {n i : Nat} (h : i < n) : ∀ x ∈ (ns0 n).take i, x < 10 + 2 * (i : Int) := fun x hx => by
  obtain ⟨j, hj, e⟩ := List.getElem_of_mem hx
  rw [List.length_take] at hj
  have hji : j < i := by omega
  have e2 := ns0_get (n := n) (i := j) (by omega)
  rw [List.getElem_take] at e
  rw [List.getElem?_eq_getElem (by rw [ns0_len]; omega), e] at e2
  have := Option.some.inj e2
  omega

theorem Nm.turn {m : Loc} {fa pa qa foa goa : Addr} {mv uv v : Value} (N : Nm m fa pa qa foa goa mv uv) : Nm (up m "turn" v) fa pa qa foa goa mv uv := ⟨N.feed, N.program, N.mate, N.many, N.times, N.forms, N.goals⟩
theorem Nm.begin {m : Loc} {fa pa qa foa goa : Addr} {mv uv v : Value} (N : Nm m fa pa qa foa goa mv uv) : Nm (up m "begin" v) fa pa qa foa goa mv uv := ⟨N.feed, N.program, N.mate, N.many, N.times, N.forms, N.goals⟩
theorem Nm.told {m : Loc} {fa pa qa foa goa : Addr} {mv uv v : Value} (N : Nm m fa pa qa foa goa mv uv) : Nm (up m "told" v) fa pa qa foa goa mv uv := ⟨N.feed, N.program, N.mate, N.many, N.times, N.forms, N.goals⟩

theorem upB {ns : List Int} {i : Nat} (h : ∀ x ∈ ns, x ≤ 1000 * ((i : Int) + 1)) : ∀ x ∈ ns, x ≤ 1000 * (((i + 1 : Nat) : Int) + 1) := fun x hx => by
  have := h x hx
  omega
theorem mmPos {n : Nat} (h : 2 ≤ n) : (0 : Int) < n := by omega
theorem lay_prs' (l : List (Int × Int)) : (PyData.list (l.map prD)).canLay0 = true := by simpa [PyData.canLay0] using lay_prs l
section
variable {w : World} {A : Around} {g : Heap} {m : Loc} {hot : Hot} {env : Env}
/-- numbers[begin - 1] if begin > 0 else -2 -/
theorem leastC {o : Obj} {na : Addr} {nv : List Value} {nn b k1 k2 k3 : Nat} {ns : List Int} {vb : Value} {p1 p2 p3 p4 p5 p6 p7 p8 p9 p10 p11 : Pos} (m1 : m "numbers" = some (.ref na)) (m2 : m "begin" = some vb) (ho : ObjNs o m) (hb : IsI b vb) (hbl : b < ns.length) (hnl : ns.length ≤ 8) (hna : g.get? na = some (listO nv nn)) (hni : IntsV nv ns)
    (hk : env.scope.kind = .function := by rfl) (k1' : env.kindOf "numbers" = some .local := by rfl) (k2' : env.kindOf "begin" = some .local := by rfl) :
    Cn w A g ((env.locals, o) :: hot) (eval (.IfExp (.Compare (.Name "begin" p1) [.Gt] [.Constant (.int 0) k1 p2] p3) (.Subscript (.Name "numbers" p4) (.BinOp (.Name "begin" p5) .Sub (.Constant (.int 1) k2 p6) p7) p8) (.UnaryOp .USub (.Constant (.int 2) k3 p9) p10) p11) env) fun _ v => IsI (lst ns b) v := by
  refine ifexp (b := decide ((b : Int) > 0)) (tCmp (nV (.head _) ho m2 hk k2' (by decide)) (fun _ _ _ _ => cI) fun g2 g3 u v l2 l3 ru rv => by subst ru; exact (cGt hb rv).imp fun _ _ _ r => ⟨_, r, rfl⟩) (fun hb0 g5 l5 => ?_) fun hb0 g5 l5 => ?_
  · have hb1 : 0 < b := Int.natCast_pos.mp (of_decide_eq_true hb0)
    have hb2 : b - 1 < ns.length := Nat.lt_of_le_of_lt (Nat.sub_le _ _) hbl
    obtain ⟨x, hx⟩ : ∃ x, ns[b - 1]? = some x := ⟨_, List.getElem?_eq_getElem hb2⟩
    obtain ⟨xv, hxv, hxi⟩ := hni.get hx
    have e : lst ns b = x := by unfold lst; rw [if_neg (Nat.ne_of_gt hb1), hx]; rfl
    rw [e]
    refine subs (R2 := fun _ v => IsI ((b - 1 : Nat) : Int) v) (nV (.head _) ho m1 hk k1' (by decide)) (fun g6 _ l6 _ => ?_) fun g6 g7 u v l6 l7 ru rv => ?_
    · have e : ((b - 1 : Nat) : Int) = (b : Int) - 1 := Int.ofNat_sub hb1
      rw [e]
      exact bin (nV (.head _) ho m2 hk k2' (by decide)) (fun _ _ _ _ => cI) fun g2 g3 u v l2 l3 ru rv => by subst ru; exact oSub hb rv
    · subst ru
      exact (iList (HasL.of ((l5.tr (l6.tr l7)) _ _ hna)) rv (Int.natCast_nonneg _) (ix62 hb2 (Nat.le_trans hnl (by decide))) hxv).imp fun _ _ _ r => r ▸ hxi
  · have e : lst ns b = -2 := by unfold lst; rw [if_pos (Nat.eq_zero_of_not_pos fun z => of_decide_eq_false hb0 (Int.natCast_pos.mpr z))]
    rw [e]
    exact neg cI
end
theorem PgIn.mid {p : Pg} {w : World} {g : Heap} {l1 l2 : Hot} (h1 : g.get? p.na = some (listO p.nv p.ne)) (h2 : g.get? p.ra = some (listO p.rv p.re)) : PgIn p w g (l1 ++ (p.o2 w ++ l2)) :=
  ⟨List.mem_append_right _ (.head _), List.mem_append_right _ mem1, .inr h1, .inr h2⟩
theorem PgIn.fst {p : Pg} {w : World} {g : Heap} {l2 : Hot} (h1 : g.get? p.na = some (listO p.nv p.ne)) (h2 : g.get? p.ra = some (listO p.rv p.re)) : PgIn p w g (p.o2 w ++ l2) :=
  ⟨.head _, mem1, .inr h1, .inr h2⟩
def ns9 (n : Nat) : List Int := (List.range n).map fun i : Nat => 100 + 10 * (i : Int)
theorem ns9_len (n : Nat) : (ns9 n).length = n := by simp [ns9]
theorem ns9_new {ns : List Int} {n : Nat} (h : ns.length = n) : newNs ns 0 100 10 = ns9 n := by simp [newNs, ns9, h]
theorem ns9_ok {ns : List Int} {n : Nat} (h : ns.length = n) (hn : n ≤ 8) : badNs ns 0 100 10 = false := bad_false (by unfold leastOf; rw [if_pos rfl]; decide) (by decide) (h ▸ hn) (by decide)
theorem stepIs {n : Nat} {i : Int} {v : Value} (h : IsI ((2 : Int) + n) v) : IsI ((2 + n : Nat) : Int) v := by simpa using h
theorem stepIs1 {n : Nat} {i : Int} {v : Value} (h : IsI ((1 : Int) + n) v) : IsI ((1 + n : Nat) : Int) v := by simpa using h

-- sums, each ahead of the law
theorem om1 {r : Nat} (h : (r : Int) < 5) : 2 + r ≤ 6 := by omega
theorem om2 {r : Nat} (h : (r : Int) < 4) : 1 + r ≤ 4 := by omega
theorem om3 {t i : Nat} (h : t ≤ 2 + 3 * i) (h8 : i ≤ 8) : t ≤ 400 := by omega
theorem om4 (n : Nat) : (0 : Int) < (n : Int) + 1 := by omega
theorem om6 {r n : Nat} (h : (r : Int) < (n : Int) + 1) : r ≤ n := by omega
theorem om7 {t n : Nat} (h : t ≤ 2 + 3 * n) (hn : n ≤ 6) : t ≤ 30 := by omega
theorem om8 (i : Nat) : (0 : Int) ≤ 10 + 2 * (i : Int) := by omega
theorem om9 {i : Nat} (h : i < 8) : 10 + 2 * (i : Int) ≤ 65529 := by omega
theorem om10 {t i : Nat} (h : t ≤ 30 + 3 * i) (h4 : i < 4) : t ≤ 400 := by omega
theorem om11 {b n : Nat} (h : b < n) (h8 : n ≤ 8) : (b : Int) < 2 ^ 62 := by omega
theorem om12 (i : Nat) : (0 : Int) ≤ 1000 * ((i : Int) + 1) := by omega
theorem om13 {x : Int} (a : Nat) (h : -2 ≤ x) : 0 ≤ x + 2 * (a : Int) ∨ a = 0 := by omega
theorem om14 {r : Nat} (h : (r : Int) < 20) : (2 + 2 * (r : Int)).natAbs < 1000000 := by omega
theorem om15 {x y : Int} {a : Nat} (h : a = 0) (f : x < y) : x + 2 * (a : Int) < y := by omega
theorem om16 {x y : Int} {a : Nat} (h : ¬ a = 0) (f : y ≤ x + 2) : y ≤ x + 2 * (a : Int) := by omega
theorem om17 (r : Nat) : 1 ≤ 2 + 2 * (r : Int) := by omega
theorem om18 {x : Int} {a r i : Nat} (f : x ≤ 1000 * ((i : Int) + 1)) (ha : (a : Int) < 8) (hr : (r : Int) < 20) : x + 2 * (a : Int) + 8 * (2 + 2 * (r : Int)) ≤ 1000 * (((i + 1 : Nat) : Int) + 1) := by omega
theorem om19 {x : Int} {i : Nat} (f : x ≤ 1000 * (((i + 1 : Nat) : Int) + 1)) (h4 : i < 4) : x ≤ 65529 := by omega
theorem om20 {x : Int} {a : Nat} (f : x % 2 = 0) : (x + 2 * (a : Int)) % 2 = 0 := by omega
theorem om21 (r : Nat) : (2 + 2 * (r : Int)) % 2 = 0 := by omega

/-- the lines as they are drawn -/
inductive J1 (w : World) (fa ca na : Addr) (p q : Pg) (foa goa : Addr) (mv uv : Value) (many : Nat) (cs : Hot) (i : Nat) (g : Heap) (m : Loc) : Hot → Prop where
  | mk (tv : Value) (n t : Nat) (fv gv : List Value) (fn gn : Nat) (forms : List Nat) (goals : List (List Int)) (N : Nm m fa p.pa q.pa foa goa mv uv) (hnum : m "numbers" = some (.ref na)) (htv : IsI t tv) (ht : t ≤ 2 + 3 * i)
      (hfv : IntsV fv (natI forms)) (hfl : forms.length = i) (hf8 : ∀ f ∈ forms, f < 8) (hgv : GoalsV g gv goals) (hgl : goals.length = i) (hgg : ∀ gs ∈ goals, goodGoals many gs) :
      J1 w fa ca na p q foa goa mv uv many cs i g m ((goa, listO gv gn) :: (foa, listO fv fn) :: (q.o4 w ++ (p.o4 w ++ (fa, listO [.ref ca, tv] n) :: cs)))
/-- the lines as they are put -/
inductive J2 (w : World) (fa na : Addr) (p q : Pg) (foa goa : Addr) (mv uv : Value) (ns : List Int) (forms : List Nat) (goals : List (List Int)) (cs : Hot) (i : Nat) (g : Heap) (m : Loc) : Hot → Prop where
  | mk (p' q' : Pg) (ep : p'.pa = p.pa) (eq : q'.pa = q.pa) (N : Nm m fa p.pa q.pa foa goa mv uv) (hnum : m "numbers" = some (.ref na)) (hpn : IntsV p'.nv (ns.take i)) (hpr : RowsV g p'.rv (rowsOf forms goals ns i)) (hqn : IntsV q'.nv (ns.take i)) (hqr : RowsV g q'.rv (rowsOf forms goals ns i)) :
      J2 w fa na p q foa goa mv uv ns forms goals cs i g m (q'.o4 w ++ (p'.o4 w ++ cs))
/-- the turns -/
inductive J3 (w : World) (L fa ca : Addr) (pa qa foa goa : Addr) (mv uv : Value) (many : Nat) (forms : List Nat) (goals : List (List Int)) (qs : Hot) (i : Nat) (g : Heap) (m : Loc) : Hot → Prop where
  | mk (p' : Pg) (tv : Value) (n tt : Nat) (ns : List Int) (na : Addr) (nv : List Value) (nn : Nat) (o1 o2 o3 : Obj) (v1 v2 v3 : Option Value) (ep : p'.pa = pa) (N : Nm m fa pa qa foa goa mv uv) (hnum : m "numbers" = some (.ref na))
      (hna : g.get? na = some (listO nv nn)) (hni : IntsV nv ns) (hN : Lin ns) (hnl : ns.length = many) (hB : ∀ x ∈ ns, x ≤ 1000 * ((i : Int) + 1)) (hpna : g.get? p'.na = some (listO p'.nv p'.ne)) (hpra : g.get? p'.ra = some (listO p'.rv p'.re)) (hpn : IntsV p'.nv ns) (hpr : RowsV g p'.rv (rowsOf forms goals ns many))
      (htv : IsI tt tv) (htt : tt ≤ 30 + 3 * i) (ho1 : o1.data = .cell v1) (ho2 : o2.data = .cell v2) (ho3 : o3.data = .cell v3) :
      J3 w L fa ca pa qa foa goa mv uv many forms goals qs i g m (qs ++ (p'.o2 w ++ (fa, listO [.ref ca, tv] n) :: [(L + 3, o1), (L + 2, o2), (L + 1, o3)]))

set_option maxHeartbeats 8000000 in
theorem c_law {w : World} {A : Around} {g : Heap} {sa : Addr} {sv : List Value} {xs : List Int} (hh : A.handled = none) (hd : A.depth < 700) (hu : A.units + 700 < cLine) (hfr : A.frames = some []) (W : Wd w g) (hs : g.IsList sa sv.toArray) (hi : IntsV sv xs) (hz : xs.length ≤ 63) :
    Cn w A g [] (call (.ref 154) [.ref sa]) fun _ v => v = .bool true := by
  refine enterC W rfl rfl rfl rfl rfl (rlt hd) (fun L cells hc => ?_) rfl (by decide +kernel) rfl
  obtain ⟨ol, ob, oa, rfl, hol, hob, hoa⟩ := hc.three
  refine (?_ : ∀ m0 : Loc, m0 "script" = some (.ref sa) → Em w _ _ g m0 _ _ _) _ rfl
  intro m0 hm0
  have hsv : sv.length ≤ 4096 := by rw [hi.1]; exact Nat.le_trans hz (by decide)
  -- feed, program, mate
  refine eAsg3E hh (emTupC (emSp1C (emListHC (Em.ofCn (fun o ho => arg2 (R2 := fun _ v => IsI ((0 : Nat) : Int) v) (slc (lo := none) (hi := some ((40 : Nat) : Int)) (nV (.head _) ho hm0) (.inr hs) hsv (fun _ _ => partNone) fun _ _ => partSome cI) (fun _ _ => cI) (fun g1 g2 v l ⟨D, e, h⟩ => ⟨D, e, l _ _ h⟩)) fun g1 us l1 r => ?_))))
  obtain ⟨_, tv, rfl, ⟨ca, rfl, hca⟩, htv⟩ := r
  rw [pick_to] at hca
  refine ⟨by show 2 ≤ 4096; decide, fun fa => emSp1C (emCls0 (C := 52) (W.up l1) rfl rfl (fun g2 l2 o ho => c_prog (show A.depth + 1 < 880 from dlt hd (by decide)) (W.up (l1.tr l2))) fun g2 new v l2 r => ?_)⟩
  obtain ⟨p, rfl, hp1, hp2, rfl⟩ := r
  refine emSp1C (emCls0 (C := 52) (W.up (l1.tr l2)) rfl rfl (fun g3 l3 o ho => c_prog (show A.depth + 1 < 880 from dlt hd (by decide)) (W.up ((l1.tr l2).tr l3))) fun g3 new v l3 r => ?_)
  obtain ⟨q, rfl, hq1, hq2, rfl⟩ := r
  refine emSp0 fun g4 l4 => ⟨by show 3 ≤ 4096; decide, fun gA t lA ht => ⟨t, _, _, _, rfl, ht, ?_⟩⟩
  have l1A := l2.tr (l3.tr (l4.tr lA))
  have hcA := l1A _ _ hca
  have WA := W.up (l1.tr l1A)
  clear hca ht
  have hci : IntsV (sv.take 40) (xs.take 40) := hi.take 40
  have hcz : (xs.take 40).length ≤ 40 := by rw [List.length_take]; exact Nat.min_le_left _ _
  generalize sv.take 40 = cv at hcA hci
  generalize xs.take 40 = ys at hci hcz
  refine (?_ : ∀ m1 : Loc, m1 "feed" = some (.ref fa) → m1 "program" = some (.ref p.pa) → m1 "mate" = some (.ref q.pa) → Em w _ _ gA m1 (q.o4 w ++ (p.o4 w ++ (fa, listO [.ref ca, tv] 0) :: [(L + 3, ol), (L + 2, ob), (L + 1, oa)])) _ _) _ rfl rfl rfl
  intro m1 n1 n2 n3
  -- many, times, forms, goals
  refine eAsg4E hh (emTupC (emSp1C (addNextE (l1 := q.o4 w ++ p.o4 w) (mm := 5) (t := 0) hh (show A.depth + 1 < 880 from dlt hd (by decide)) WA n1 hcA hci hcz htv (by decide) (fun _ _ _ _ => cI) (by decide) fun g2 tv2 k2 r2 mv l2 htv2 hmv hr2 => ?_)))
  refine emSp1C (addNextE (l1 := q.o4 w ++ p.o4 w) (mm := 4) (t := 1) hh (show A.depth + 1 < 880 from dlt hd (by decide)) (WA.up l2) n1 (l2 _ _ hcA) hci hcz htv2 (by decide) (fun _ _ _ _ => cI) (by decide) fun g3 tv3 k3 r3 uv l3 htv3 huv hr3 => ?_)
  refine emSp1C (Em.ofCh (fun o ho => chNil) fun g4 new v l4 r => ?_)
  obtain ⟨foa, rfl, rfl⟩ := r
  refine emSp1C (Em.ofCh (fun o ho => chNil) fun g5 new v l5 r => ?_)
  obtain ⟨goa, rfl, rfl⟩ := r
  refine emSp0 fun g6 l6 => ⟨by show 4 ≤ 4096; decide, fun gB t lB ht => ⟨t, _, _, _, _, rfl, ht, ?_⟩⟩
  replace hmv := stepIs (i := 0) hmv
  replace huv := stepIs1 (i := 0) huv
  have hm6 : 2 + r2 ≤ 6 := om1 hr2
  have hm2 : 2 ≤ 2 + r2 := Nat.le_add_right _ _
  have hu4 : 1 + r3 ≤ 4 := om2 hr3
  generalize 2 + r2 = many at hmv hm6 hm2
  generalize 1 + r3 = times at huv hu4
  have hm8 : many ≤ 8 := Nat.le_trans hm6 (by decide)
  have lAB := l2.tr (l3.tr (l4.tr (l5.tr (l6.tr lB))))
  have hcB := lAB _ _ hcA
  have WB := WA.up lAB
  refine (?_ : ∀ m2 : Loc, Nm m2 fa p.pa q.pa foa goa mv uv → Em w _ _ gB m2 ((goa, listO [] 0) :: (foa, listO [] 0) :: (q.o4 w ++ (p.o4 w ++ (fa, listO [.ref ca, tv3] k3) :: [(L + 3, ol), (L + 2, ob), (L + 1, oa)]))) _ _) _ ⟨n1, n2, n3, rfl, rfl, rfl, rfl⟩
  clear n1 n2 n3 hcA WA ht hr2 hr3 htv htv2 hm0
  intro m2 N2
  -- numbers
  refine eAsgC (x := "numbers") (n := many) (B := fun i m => ∃ v, IsI i v ∧ m "at" = some v) (keep := []) (cl := []) (fun o ho => Src.name (itRange hh WB (Nat.lt_of_le_of_lt hm8 (by decide)) rfl rfl ((nV (.head _) ho N2.many).imp fun _ _ _ r => r ▸ hmv))) (fun _ hq => nomatch hq) (fun C => ⟨rfl, rfl⟩)
    (fun i g ys => IntsV ys ((List.range i).map fun i : Nat => 10 + 2 * (i : Int))) (fun _ => true) (Nat.le_trans hm8 (by decide)) (fun _ _ => IntsV.nil) (fun _ _ _ _ l h => h) (fun _ _ _ _ _ _ _ _ _ _ => tests0) ?_ (fun _ _ _ h => nomatch h) (fun gC na nv nn lC hna hnv => ?_) rfl (by decide) rfl (by decide)
  · rintro i C oC m ext g3 ys l3 hj ⟨v, hv, hm⟩ _ hoC hA
    refine Cn.imp (R := fun _ v => IsI (10 + 2 * (i : Int)) v) (bin (R1 := fun _ v => IsI 10 v) cI (fun g5 _ l5 _ => bin (R1 := fun _ v => IsI 2 v) cI (fun _ _ _ _ => nV (.head _) hoC hm) fun g2 g3 u v' l2 l3 ru rv => by subst rv; exact oMul ru hv (mulSmall (by decide))) fun g2 g3 u v l2 l3 ru rv => oAdd ru rv) fun g4 u l4 r => ?_
    rw [List.range_succ, List.map_append]
    exact hA.snoc r
  have hcC := lC _ _ hcB
  have WC := WB.up lC
  -- the lines are drawn
  refine eForL (x := "at") (n := many) (P := fun i v => IsI i v) (J1 w fa ca na p q foa goa mv uv many [(L + 3, ol), (L + 2, ob), (L + 1, oa)])
    (fun o ho => itRange hh WC (Nat.lt_of_le_of_lt hm8 (by decide)) rfl rfl ((nV (.head _) ho (N2.numbers (v := .ref na)).many).imp fun _ _ _ r => r ▸ hmv)) (fun g1 l1 => ⟨tv3, k3, 2, [], [], 0, 0, [], [], N2.numbers, rfl, htv3, by decide, IntsV.nil, rfl, (fun f hf => nomatch hf), ⟨rfl, fun i v n h => by simp at h⟩, rfl, (fun f hf => nomatch hf)⟩) ?_ ?_
  · rintro i g1 m1 hot1 v its l1 hi ⟨tv, n, t, fv, gv, fn, gn, forms, goals, N, hnum, htv, ht, hfv, hfl, hf8, hgv, hgl, hgg⟩ hv
    have N' := N.at (v := v)
    have hnum' : up m1 "at" v "numbers" = some (.ref na) := hnum
    have hi8 : i ≤ 8 := Nat.le_trans (Nat.le_of_lt hi) hm8
    have hfvl : fv.length ≤ 4096 := by
      have := hfv.1
      rw [this, natI, List.length_map, hfl]
      exact Nat.le_trans hi8 (by decide)
    have hgvl : gv.length ≤ 4096 := by rw [hgv.len, hgl]; exact Nat.le_trans hi8 (by decide)
    have ht4 : t ≤ 400 := om3 ht hi8
    have hmm0 : (0 : Int) < (many : Int) + 1 := om4 many
    refine eAppendE (D := foa) (vs := fv) (fun ob ho => nV (.head _) ho N'.forms) ⟨fn, .tail _ (.head _)⟩ hfvl fun g2 l2 => nextE (l1 := (goa, listO gv gn) :: (foa, listO fv fn) :: (q.o4 w ++ p.o4 w)) (l2 := [(L + 3, ol), (L + 2, ob), (L + 1, oa)] ++ its) (mm := 8) (t := t) hh (show A.depth + 1 < 880 from dlt hd (by decide)) (WC.up (l1.tr l2)) N'.feed ((l1.tr l2) _ _ hcC) hci hcz htv (Nat.le_trans ht4 (by decide)) (fun _ _ _ _ => cI) (by decide) fun g3 tv' n' r u l3 e1 e2 e3 => ⟨[(goa, listO gv gn)], (q.o4 w ++ (p.o4 w ++ (fa, listO [.ref ca, tv'] n') :: [(L + 3, ol), (L + 2, ob), (L + 1, oa)])) ++ its, fn, rfl, fun fn' => ?_⟩
    have hfv' : IntsV (fv ++ [u]) (natI (forms ++ [r])) := by
      unfold natI; rw [List.map_append]; exact hfv.snoc e2
    have hr8 : r < 8 := Int.ofNat_lt.mp e3
    have l13 := l1.tr (l2.tr l3)
    refine eAsgE (emListFC (emSp1C (nextE (l1 := (goa, listO gv gn) :: (foa, listO (fv ++ [u]) fn') :: (q.o4 w ++ p.o4 w)) (l2 := [(L + 3, ol), (L + 2, ob), (L + 1, oa)] ++ its) (mm := (many : Int) + 1) (t := t + 1) hh (show A.depth + 1 < 880 from dlt hd (by decide)) (WC.up l13) N'.feed (l13 _ _ hcC) hci hcz e1 (Nat.le_trans (Nat.succ_le_succ ht4) (by decide)) (fun o ho g4 l4 => bin (R1 := fun _ v => IsI many v) ((nV (.head _) ho N'.many).imp fun _ _ _ r => r ▸ hmv) (fun _ _ _ _ => cI) fun g2 g3 u v l2 l3 ru rv => oAdd ru rv) hmm0 fun g4 tv4 n4 ra a l4 h3 ha h2 => ?_)))
    refine emSp1C (nextE (l1 := (goa, listO gv gn) :: (foa, listO (fv ++ [u]) fn') :: (q.o4 w ++ p.o4 w)) (l2 := [(L + 3, ol), (L + 2, ob), (L + 1, oa)] ++ its) (mm := (many : Int) + 1) (t := t + 2) hh (show A.depth + 1 < 880 from dlt hd (by decide)) (WC.up (l13.tr l4)) N'.feed ((l13.tr l4) _ _ hcC) hci hcz h3 (Nat.le_trans (Nat.succ_le_succ (Nat.succ_le_succ ht4)) (by decide)) (fun o ho g4 l4 => bin (R1 := fun _ v => IsI many v) ((nV (.head _) ho N'.many).imp fun _ _ _ r => r ▸ hmv) (fun _ _ _ _ => cI) fun g2 g3 u v l2 l3 ru rv => oAdd ru rv) hmm0 fun g5 tv5 n5 rb b l5 j3 hb j2 => ?_)
    have hra : ra ≤ many := om6 h2
    have hrb : rb ≤ many := om6 j2
    refine emSp0 fun g6 l6 => ⟨by show 2 ≤ 4096; decide, fun g7 sp l7 hsp => ?_⟩
    have N'' := N'.spots (v := .ref sp)
    have l37 := l4.tr (l5.tr (l6.tr l7))
    refine eAppend (l1 := []) (R1 := fun g v => ∃ a us n, v = .ref a ∧ g.get? a = some (listO us n) ∧ IntsV us [gx ra, gx rb]) (fun ob ho => nV (.head _) ho N''.goals) (fun ob ho g6 l6 => ?_) hgvl fun g8 u2 gn' l8 hu2 => ?_
    · refine compG (n := 2) (keep := []) (B := fun i m => ∃ v, (∃ x : Int, [(ra : Int), (rb : Int)][i]? = some x ∧ IsI x v) ∧ m "spot" = some v) (cl := []) (Src.name (itL hh ((nV (.head _) ho rfl).imp fun g7 v l7 r => ⟨sp, [a, b], 0, r, (l6.tr l7) _ _ hsp, rfl, fun i v hv => ?_⟩))) (fun _ hq => nomatch hq) (fun C => ⟨rfl, rfl⟩)
        (fun i g ys => IntsV ys ([gx ra, gx rb].take i)) (fun _ => true) (by decide) (fun _ _ => IntsV.nil) (fun _ _ _ _ l h => h) (fun _ _ _ _ _ _ _ _ _ _ => tests0) ?_ (fun _ _ _ h => nomatch h) (fun g3 a ys n' l3 e h => ⟨a, ys, n', rfl, e, h⟩) rfl (by decide) rfl (by decide)
      · match i, hv with
        | 0, hv => exact ⟨_, rfl, Option.some.inj hv ▸ ha⟩
        | 1, hv => exact ⟨_, rfl, Option.some.inj hv ▸ hb⟩
        | _ + 2, hv => exact nomatch hv
      · rintro i C oC m ext g7 ys l7 hj ⟨v, ⟨x, hx, hv⟩, hm⟩ _ hoC hA
        refine Cn.imp (R := fun _ v => IsI (gx x) v) (ifexp (b := decide (x > 0)) (tCmp (nV (.head _) hoC hm) (fun _ _ _ _ => cI) fun g2 g3 u v l2 l3 ru rv => by subst ru; exact (cGt hv rv).imp fun _ _ _ r => ⟨_, r, rfl⟩) (fun hb g8 l8 => ?_) fun hb g8 l8 => ?_) fun g8 u l8 r => ?_
        · have : gx x = 2 * x - 2 := by unfold gx; rw [if_pos (of_decide_eq_true hb)]
          rw [this]
          exact bin (R1 := fun _ v => IsI (2 * x) v) (bin (R1 := fun _ v => IsI 2 v) cI (fun _ _ _ _ => nV (.head _) hoC hm) fun g2 g3 u v' l2 l3 ru rv => by subst rv; exact oMul ru hv (mulSmall (by decide))) (fun _ _ _ _ => cI) fun g2 g3 u v l2 l3 ru rv => oSub ru rv
        · have : gx x = 2001 := by unfold gx; rw [if_neg (of_decide_eq_false hb)]
          rw [this]
          exact cI
        · have hg : [gx ra, gx rb][i]? = some (gx x) := by
            match i, hx with
            | 0, hx => exact Option.some.inj hx ▸ rfl
            | 1, hx => exact Option.some.inj hx ▸ rfl
            | _ + 2, hx => exact nomatch hx
          rw [take_snoc hg]
          exact hA.snoc r
    · obtain ⟨a2, us, n2, rfl, e4, e5⟩ := hu2
      refine eNil fun g9 l9 => ⟨.inl rfl, (goa, listO (gv ++ [.ref a2]) gn') :: (foa, listO (fv ++ [u]) fn') :: (q.o4 w ++ (p.o4 w ++ (fa, listO [.ref ca, tv5] n5) :: [(L + 3, ol), (L + 2, ob), (L + 1, oa)])), rfl, tv5, n5, t + 3, fv ++ [u], gv ++ [.ref a2], fn', gn', forms ++ [r], goals ++ [[gx ra, gx rb]], N'', hnum', j3, Nat.add_le_add_right ht 3, hfv', by simp [hfl], ?_, ?_, by simp [hgl], ?_⟩
      · intro f hf
        rcases List.mem_append.mp hf with hf | hf
        · exact hf8 f hf
        · rw [List.mem_singleton.mp hf]; exact hr8
      · exact GoalsV.snoc (hgv.up ((l2.tr l3).tr (l37.tr (l8.tr l9)))) (l9 _ _ e4) e5
      · intro gs hgs
        rcases List.mem_append.mp hgs with hgs | hgs
        · exact hgg gs hgs
        · rw [List.mem_singleton.mp hgs]
          refine ⟨rfl, fun x hx => ?_⟩
          rcases List.mem_cons.mp hx with rfl | hx
          · exact gx_ok hra
          · rw [List.mem_singleton.mp hx]; exact gx_ok hrb
  rintro gD m3 hot3 lD ⟨tv, n, t, fv, gv, fn, gn, forms, goals, N3, hnum, htv, ht, hfv, hfl, hf8, hgv, hgl, hgg⟩
  clear htv3 N2
  refine eFreeze (l1 := []) fun gE lE hgo => ?_
  refine eFreeze (l1 := []) fun gF lF hfo => ?_
  replace hgo := lF _ _ hgo
  have lDF := lD.tr (lE.tr lF)
  replace hgv := hgv.up (lE.tr lF)
  have hnaF := lDF _ _ hna
  have hcF := lDF _ _ hcC
  have WF := WC.up lDF
  clear hcC hcB hna WC WB
  have Dr : Drawn' forms goals many := ⟨hfl, hgl, hf8, hgg⟩
  have hni : IntsV nv (ns0 many) := hnv
  have hnl := ns0_len many
  have ht20 : t ≤ 30 := om7 ht hm6
  have hl8 : ∀ {k}, k = many → k ≤ 8 := fun e => e ▸ hm8
  show Em w _ _ gF m3 (q.o4 w ++ (p.o4 w ++ (fa, listO [.ref ca, tv] n) :: [(L + 3, ol), (L + 2, ob), (L + 1, oa)])) _ _
  -- they are put
  refine eForL (x := "at") (n := many) (P := fun i v => IsI i v) (J2 w fa na p q foa goa mv uv (ns0 many) forms goals ((fa, listO [.ref ca, tv] n) :: [(L + 3, ol), (L + 2, ob), (L + 1, oa)]))
    (fun o ho => itRange hh WF (Nat.lt_of_le_of_lt hm8 (by decide)) rfl rfl ((nV (.head _) ho N3.many).imp fun _ _ _ r => r ▸ hmv)) (fun g1 l1 => ⟨p, q, rfl, rfl, N3, hnum, hp1 ▸ IntsV.nil, hp2 ▸ RowsV.nil, hq1 ▸ IntsV.nil, hq2 ▸ RowsV.nil⟩) ?_ ?_
  · rintro i g1 m1 hot1 v its l1 hi' ⟨p', q', ep, eq, N, hnum, hpn, hpr, hqn, hqr⟩ hv
    have N' := N.at (v := v)
    have hnum' : up m1 "at" v "numbers" = some (.ref na) := hnum
    obtain ⟨f, hfx⟩ : ∃ f, forms[i]? = some f := ⟨_, List.getElem?_eq_getElem (hfl.symm ▸ hi')⟩
    obtain ⟨gs, hgx⟩ : ∃ gs, goals[i]? = some gs := ⟨_, List.getElem?_eq_getElem (hgl.symm ▸ hi')⟩
    have hf := hf8 f (List.mem_of_getElem? hfx)
    have hgs := hgg gs (List.mem_of_getElem? hgx)
    have hnx := ns0_get hi'
    have hi8 : i < 8 := Nat.lt_of_lt_of_le hi' hm8
    have htl : ((ns0 many).take i).length = i := by rw [List.length_take, hnl, Nat.min_eq_left (Nat.le_of_lt hi')]
    have htz : ((ns0 many).take i).length < 100 := by rw [htl]; exact Nat.lt_trans hi8 (by decide)
    have hrl : ∀ {g rv}, RowsV g rv (rowsOf forms goals (ns0 many) i) → rv.length = ((ns0 many).take i).length := fun h => by rw [h.len, rowsOf_len (hgl.trans hfl.symm) i (by rw [hfl]; exact Nat.le_of_lt hi'), htl]
    have hpw := (ns0_lin many).up.sublist (List.take_sublist i (ns0 many))
    have hrs := rowsOf_step (ns := ns0 many) hfx hgx
    have hx0 : (0 : Int) ≤ 10 + 2 * (i : Int) := om8 i
    have hx1 : 10 + 2 * (i : Int) ≤ 65529 := om9 hi8
    refine putStmt (l1 := q'.o4 w) (l2 := ((fa, listO [.ref ca, tv] n) :: [(L + 3, ol), (L + 2, ob), (L + 1, oa)]) ++ its) p' hh (show A.depth + 1 < 850 from dlt hd (by decide)) (show A.units + 3 + 300 < cLine from ult hu (by decide)) (WF.up l1) (ep ▸ N'.program) N'.forms N'.goals hnum' rfl (l1 _ _ hfo) hfv (l1 _ _ hgo) (hgv.up l1) (l1 _ _ hnaF) hni hv hfx hgx hnx hf (hnl.symm ▸ hgs) (hl8 hnl) (hl8 hfl) (hl8 hgl)
      hpn hpw htz (hrl hpr) hx0 hx1 (ns0_take hi') fun g2 nv1 ra rv rn k1 k2 l2 e1 e2 e3 => ?_
    refine putStmt (l1 := []) (l2 := (({ p' with nv := p'.nv ++ [nv1], rv := p'.rv ++ [.ref ra], ne := k1, re := k2 } : Pg).o4 w ++ (fa, listO [.ref ca, tv] n) :: [(L + 3, ol), (L + 2, ob), (L + 1, oa)]) ++ its) q' hh (show A.depth + 1 < 850 from dlt hd (by decide)) (show A.units + 3 + 300 < cLine from ult hu (by decide)) (WF.up (l1.tr l2)) (eq ▸ N'.mate) N'.forms N'.goals hnum' rfl ((l1.tr l2) _ _ hfo) hfv ((l1.tr l2) _ _ hgo) (hgv.up (l1.tr l2)) ((l1.tr l2) _ _ hnaF) hni hv hfx hgx hnx hf (hnl.symm ▸ hgs) (hl8 hnl) (hl8 hfl) (hl8 hgl)
      hqn hpw htz (hrl hqr) hx0 hx1 (ns0_take hi') fun g3 nv2 ra2 rv2 rn2 k3 k4 l3 f1 f2 f3 => ?_
    refine eNil fun g4 l4 => ⟨.inl rfl, _, rfl, { p' with nv := p'.nv ++ [nv1], rv := p'.rv ++ [.ref ra], ne := k1, re := k2 }, { q' with nv := q'.nv ++ [nv2], rv := q'.rv ++ [.ref ra2], ne := k3, re := k4 }, ep, eq, N', hnum', ?_, ?_, ?_, ?_⟩
    · rw [take_snoc hnx]; exact hpn.snoc e1
    · rw [hrs]; exact (hpr.up (l2.tr (l3.tr l4))).snoc ((l3.tr l4) _ _ e2) (e3.mono (l3.tr l4))
    · rw [take_snoc hnx]; exact hqn.snoc f1
    · rw [hrs]; exact (hqr.up (l2.tr (l3.tr l4))).snoc (l4 _ _ f2) (f3.mono l4)
  rintro gG m4 hot4 lG ⟨p4, q4, ep, eq, N4, hnum4, hpn, hpr, hqn, hqr⟩
  rw [List.take_of_length_le (Nat.le_of_eq hnl)] at hpn hqn
  refine eFreeze (l1 := []) fun gH lH hqr' => ?_
  refine eFreeze (l1 := []) fun gI lI hqn' => ?_
  refine eFreeze (l1 := q4.o2 w) fun gJ lJ hpr' => ?_
  refine eFreeze (l1 := q4.o2 w) fun gK lK hpn' => ?_
  replace hqr' := (lI.tr (lJ.tr lK)) _ _ hqr'
  replace hqn' := (lJ.tr lK) _ _ hqn'
  replace hpr' := lK _ _ hpr'
  have lGK := lH.tr (lI.tr (lJ.tr lK))
  replace hqr := hqr.up lGK
  replace hpr := hpr.up lGK
  have lFK := lG.tr lGK
  have hgoK := lFK _ _ hgo
  have hfoK := lFK _ _ hfo
  have hgvK := hgv.up lFK
  have hnaK := lFK _ _ hnaF
  have hcK := lFK _ _ hcF
  have WK := WF.up lFK
  clear hgo hfo hgv hnaF hcF WF hp1 hp2 hq1 hq2
  have F0 : ∀ hot, Fs A hot [] := fun hot => ⟨⟨[], hfr, rfl, fun env h => nomatch h⟩⟩
  show Em w _ _ gK m4 (q4.o2 w ++ (p4.o2 w ++ (fa, listO [.ref ca, tv] n) :: [(L + 3, ol), (L + 2, ob), (L + 1, oa)])) _ _
  -- the turns
  refine eForL (x := "turn") (n := times) (P := fun i v => IsI i v) (J3 w L fa ca p.pa q.pa foa goa mv uv many forms goals (q4.o2 w))
    (fun o ho => itRange hh WK (Nat.lt_of_le_of_lt hu4 (by decide)) rfl rfl ((nV (.head _) ho N4.times).imp fun _ _ _ r => r ▸ huv)) (fun g1 l1 => ⟨p4, tv, n, t, ns0 many, na, nv, nn, ol, ob, oa, _, _, _, ep, N4, hnum4, l1 _ _ hnaK, hni, ns0_lin many, hnl, ns0_le hm6, l1 _ _ hpn', l1 _ _ hpr', hpn, hpr.up l1, htv, ht20, hol, hob, hoa⟩) ?_ ?_
  · clear hpn hpr hqn hqr hqr' hqn' hpr' hpn' hnaK hnum4 hnum N4 N3 htv hol hob hoa hnv hni ep ht20 ht hnl hm6
    rintro i g1 m1 hot1 v its l1 hit ⟨p', tv, n, tt, ns, na, nv, nn, o1, o2, o3, v1, v2, v3, ep, N, hnum, hna, hni, hN, hnl, hB, hpna, hpra, hpn, hpr, htv, htt, ho1, ho2, ho3⟩ hv
    have hi4 : i < 4 := Nat.lt_of_lt_of_le hit hu4
    have htt4 : tt ≤ 400 := om10 htt hi4
    clear hv hit
    have N' := N.turn (v := v)
    have hnum' : up m1 "turn" v "numbers" = some (.ref na) := hnum
    have W1 := WK.up l1
    generalize up m1 "turn" v = mm at N' hnum'
    -- begin, ahead, by
    refine eAsg3C (cy := L + 1) (cz := L + 2) hh rfl rfl (emTupC (emSp1C (nextE (l1 := q4.o2 w ++ p'.o2 w) (l2 := [(L + 3, o1), (L + 2, o2), (L + 1, o3)] ++ its) (mm := (many : Int)) (t := tt) hh (show A.depth + 1 < 880 from dlt hd (by decide)) W1 N'.feed (l1 _ _ hcK) hci hcz htv (Nat.le_trans htt4 (by decide)) (fun o ho g2 l2 => (nV (.head _) ho N'.many).imp fun _ _ _ r => r ▸ hmv) (mmPos hm2) fun g2 tv2 k2 b vb l2 htv2 hb hbm => ?_)))
    refine emSp1C (nextE (l1 := q4.o2 w ++ p'.o2 w) (l2 := [(L + 3, o1), (L + 2, o2), (L + 1, o3)] ++ its) (mm := 8) (t := tt + 1) hh (show A.depth + 1 < 880 from dlt hd (by decide)) (W1.up l2) N'.feed ((l1.tr l2) _ _ hcK) hci hcz htv2 (Nat.le_trans (Nat.succ_le_succ htt4) (by decide)) (fun o ho g2 l2 => cI) (by decide) fun g3 tv3 k3 a va l3 htv3 ha ha8 => ?_)
    refine emSp1C (emBinC (Em.ofCn (fun o ho => cI) fun g4 x l4 hx => emBinC (Em.ofCn (fun o ho => cI) fun g5 y l5 hy => nextE (l1 := q4.o2 w ++ p'.o2 w) (l2 := [(L + 3, o1), (L + 2, o2), (L + 1, o3)] ++ its) (mm := 20) (t := tt + 2) hh (show A.depth + 1 < 880 from dlt hd (by decide)) (W1.up (l2.tr (l3.tr (l4.tr l5)))) N'.feed ((l1.tr (l2.tr (l3.tr (l4.tr l5)))) _ _ hcK) hci hcz htv3 (Nat.le_trans (Nat.succ_le_succ (Nat.succ_le_succ htt4)) (by decide)) (fun o ho g2 l2 => cI) (by decide) fun g6 tv4 k4 r vr l6 htv4 hr hr20 => Em.ofCn (fun o ho => oMul hy hr (mulSmall (by decide))) fun g7 u l7 hu2 => Em.ofCn (fun o ho => oAdd hx hu2) fun g8 vy l8 hy2 => ?_)))
    refine emSp0 fun g9 l9 => ⟨by show 3 ≤ 4096; decide, fun g10 tu l10 htu => ⟨tu, vb, va, vy, q4.o2 w ++ (p'.o2 w ++ [(fa, listO [.ref ca, tv4] k4), (L + 3, o1)]), its, o3, o2, v3, v2, rfl, htu, rfl, ho3, ho2, fun o3' o2' ho3' ho2' => ?_⟩⟩
    have l1t := l2.tr (l3.tr (l4.tr (l5.tr (l6.tr (l7.tr (l8.tr (l9.tr l10)))))))
    replace hbm : b < many := Int.ofNat_lt.mp hbm
    have ha8' : (a : Int) < 8 := ha8
    have hr20' : (r : Int) < 20 := hr20
    clear htu htv2 htv3 hx hy hr hu2 htv
    have N2 := N'.begin (v := vb)
    have hnum2 : up mm "begin" vb "numbers" = some (.ref na) := hnum'
    have hbeg : up mm "begin" vb "begin" = some vb := rfl
    generalize up mm "begin" vb = mm2 at N2 hnum2 hbeg
    have hnl8 : ns.length ≤ 8 := hl8 hnl
    have hbl : b < ns.length := hnl.symm ▸ hbm
    have hb62 : (b : Int) < 2 ^ 62 := om11 hbl hnl8
    obtain ⟨f1, f2, f3, f4, f5⟩ := lst_facts hN hbl hB (om12 i)
    obtain ⟨nb, hnb⟩ : ∃ nb, ns[b]? = some nb := ⟨_, List.getElem?_eq_getElem hbl⟩
    obtain ⟨nbv, hnbv, hnbi⟩ := hni.get hnb
    -- least
    refine eAsgCell (x := "least") (cx := L + 3) (l1 := q4.o2 w ++ (p'.o2 w ++ [(fa, listO [.ref ca, tv4] k4)])) (l2 := (L + 2, o2') :: (L + 1, o3') :: its) (R1 := fun _ v => IsI (lst ns b) v) rfl ho1 (fun o ho => leastC (na := na) hnum2 hbeg ho hb hbl hnl8 (l1t _ _ hna) hni) fun g4 vl o1' l4 hvl ho1' => ?_
    have l14 := l1t.tr l4
    have W4 := W1.up l14
    have hDr : Drawn' forms goals ns.length := hnl.symm ▸ Dr
    have hpos : 0 ≤ lst ns b + 2 * (a : Int) ∨ a = 0 := om13 a f4
    have hstep : (2 + 2 * (r : Int)).natAbs < 1000000 := om14 hr20'
    show Em w _ _ g4 mm2 (q4.o2 w ++ (p'.o2 w ++ (fa, listO [.ref ca, tv4] k4) :: (L + 3, o1') :: (L + 2, o2') :: (L + 1, o3') :: its)) _ _
    refine Em.apart fun hap => ?_
    -- told
    refine eAsgE (mCallE (f := 149) (S := fun g us => ∃ vn vo vs', us = [.ref p'.pa, vn, vo, vs'] ∧ IsI (lst ns b + 2 * (a : Int)) vn ∧ IsI nb vo ∧ IsI (2 + 2 * (r : Int)) vs') W4 rfl rfl rfl (fun o ho => Cn.imp (arg4 (R1 := fun _ v => v = .ref p'.pa) (R2 := fun _ v => IsI (lst ns b + 2 * (a : Int)) v) (R3 := fun _ v => IsI nb v) (R4 := fun _ v => IsI (2 + 2 * (r : Int)) v) (nV (.head _) ho (ep ▸ N2.program)) (fun g5 l5 => ?_) (fun g5 l5 => ?_) fun g5 l5 => ?_) fun g5 us l5 ⟨x, y, z, u, e, e1, e2, e3, e4⟩ => ⟨y, z, u, by rw [e, e1], e2, e3, e4⟩) fun o ho g5 us l5 rr => ?_)
    · refine bin (R1 := fun _ v => IsI (lst ns b) v) (R2 := fun _ v => IsI (2 * (a : Int)) v) (nmc (c := L + 3) rfl (by first | exact memA mem1 | exact memA mem2 | exact memA mem3 | exact .tail _ (memA mem1) | exact .tail _ (memA mem2) | exact .tail _ (memA mem3) | exact memB (memA mem1) | exact memB (memA mem2) | exact memB (memA mem3) | simp) ho1' fun _ _ => hvl) (fun g6 _ l6 _ => bin (R1 := fun _ v => IsI 2 v) (R2 := fun _ v => IsI a v) cI (fun _ _ _ _ => nmc (c := L + 1) rfl (by first | exact memA mem1 | exact memA mem2 | exact memA mem3 | exact .tail _ (memA mem1) | exact .tail _ (memA mem2) | exact .tail _ (memA mem3) | exact memB (memA mem1) | exact memB (memA mem2) | exact memB (memA mem3) | simp) ho3' fun _ _ => ha) fun g2 g3 u v l2 l3 ru rv => oMul ru rv (mulSmall (by decide))) fun g2 g3 u v l2 l3 ru rv => oAdd ru rv
    · refine subs (nV (.head _) ho hnum2) (fun _ _ _ _ => nV (.head _) ho hbeg) fun g6 g7 u v l6 l7 ru rv => ?_
      subst ru rv
      exact (iList (HasL.of ((l14.tr (l5.tr (l6.tr l7))) _ _ hna)) hb (Int.natCast_nonneg _) hb62 hnbv).imp fun _ _ _ r => r ▸ hnbi
    · exact nmc (c := L + 2) rfl (by first | exact memA mem1 | exact memA mem2 | exact memA mem3 | exact .tail _ (memA mem1) | exact .tail _ (memA mem2) | exact .tail _ (memA mem3) | exact memB (memA mem1) | exact memB (memA mem2) | exact memB (memA mem3) | simp) ho2' fun _ _ => hy2
    · obtain ⟨vn, vo, vs', rfl, hvn, hvo, hvs⟩ := rr
      have l15 := l14.tr l5
      have P5 : PgIn p' w g5 (q4.o2 w ++ (p'.o2 w ++ (fa, listO [.ref ca, tv4] k4) :: (L + 3, o1') :: (L + 2, o2') :: (L + 1, o3') :: its)) := .mid ((l15 _ _ hpna)) ((l15 _ _ hpra))
      by_cases ha0 : a = 0
      · -- too small
        have hb1 : badNs ns b (lst ns b + 2 * (a : Int)) (2 + 2 * (r : Int)) = true := bad_true (om15 ha0 f1)
        refine Cc.imp (c_toldX (fs := [L]) p' ((F0 _).push rfl (show (ScopeKind.function : ScopeKind) ≠ .module by decide) ho) hh (show A.depth + 1 < 780 from dlt hd (by decide)) (P5.t (Le.rf _)) (W4.up l5) hpn hN.up (Nat.lt_of_le_of_lt hnl8 (by decide)) hvn hvo hvs (PlaceAt.self hN.up hnb) hb1 (mulSmall hstep)) fun g6 hot6 v6 l6 ⟨q6, hv6⟩ => ?_
        obtain ⟨o6, hot7, rfl, hn6, q7⟩ := q6.ns ho
        have := q7.same fun p hp hm => hap p hp (List.mem_singleton.mp hm)
        subst this
        refine ⟨o6, _, rfl, hn6, ?_⟩
        have N3 := N2.told (v := v6)
        have l16 := l15.tr l6
        have hnum3 : up mm2 "told" v6 "numbers" = some (.ref na) := hnum2
        refine eIf (b := ((a : Int) == 0)) (fun o ho => tCmp (R1 := fun _ v => IsI a v) (nmc (c := L + 1) rfl (by first | exact memA mem1 | exact memA mem2 | exact memA mem3 | exact .tail _ (memA mem1) | exact .tail _ (memA mem2) | exact .tail _ (memA mem3) | exact memB (memA mem1) | exact memB (memA mem2) | exact memB (memA mem3) | simp) ho3' fun _ _ => ha) (fun _ _ _ _ => cI) fun g2 g3 u v l2 l3 ru rv => (cEq ru rv).imp fun _ _ _ r => ⟨_, r, rfl⟩) (fun _ g7 l7 => ?_) fun hb0 => ?_
        · refine eIf (b := false || (!true || false)) (fun o ho => tBool (tOr (tCmp (R1 := fun _ u => u = v6) (R2 := fun _ u => ∃ t, u = .str "FC" t) (nV (.head _) ho rfl) (fun _ _ _ _ => cS) fun g8 g9 u v l8 l9 ru rv => ?_) fun _ g8 l8 => tOr (tNot (tVal (Cn.imp (sameC p' hh (show A.depth + 1 < 860 from dlt hd (by decide)) (show A.units + 3 + 400 < cLine from ult hu (by decide)) (W4.up (l5.tr (l6.tr (l7.tr l8)))) (P5.t (l6.tr (l7.tr l8))) (.head _) ho (ep ▸ N3.program) N3.forms N3.goals hnum3 ((l1.tr (l16.tr (l7.tr l8))) _ _ hfoK) hfv ((l1.tr (l16.tr (l7.tr l8))) _ _ hgoK) (hgvK.up (l1.tr (l16.tr (l7.tr l8)))) ((l16.tr (l7.tr l8)) _ _ hna) hni hDr hnl8 hpn (hnl.symm ▸ hpr.up (l16.tr (l7.tr l8)))) fun _ _ _ r => ⟨_, r, rfl⟩))) fun _ _ _ => tOr0)) (fun h => nomatch h) fun _ g8 l8 => ?_
          · subst ru
            obtain ⟨t1, e1⟩ := hv6
            obtain ⟨t2, e2⟩ := rv
            rw [e1, e2]
            exact (neSame (d := .str "FC") (show A.units + 3 + 64 < cLine from ult hu (by decide)) Rd.ofStr Rd.ofStr (by decide +kernel) (by decide +kernel)).imp fun _ _ _ r => ⟨_, r, rfl⟩
          · exact eCont fun g9 l9 => have l19 := l16.tr (l7.tr (l8.tr l9)); ⟨.inr rfl, q4.o2 w ++ (p'.o2 w ++ (fa, listO [.ref ca, tv4] k4) :: [(L + 3, o1'), (L + 2, o2'), (L + 1, o3')]), rfl, p', tv4, k4, tt + 3, ns, na, nv, nn, o1', o2', o3', _, _, _, ep, N3, hnum3,
              l19 _ _ hna, hni, hN, hnl, upB hB, l19 _ _ hpna, l19 _ _ hpra, hpn, hpr.up l19, htv4, Nat.add_le_add_right htt 3, ho1', ho2', ho3'⟩
        · rw [ha0] at hb0
          exact absurd hb0 (by decide)
      · -- new numbers
        have hml : (newNs ns b (lst ns b + 2 * (a : Int)) (2 + 2 * (r : Int))).length = many := (newNs_len (Nat.le_of_lt hbl)).trans hnl
        have hge : leastOf ns b ≤ lst ns b + 2 * (a : Int) := om16 ha0 f2
        have hs1 : 1 ≤ 2 + 2 * (r : Int) := om17 r
        have hle : lst ns b + 2 * (a : Int) + 8 * (2 + 2 * (r : Int)) ≤ 1000 * (((i + 1 : Nat) : Int) + 1) := om18 f5 ha8' hr20'
        have hle2 : lst ns b + 2 * (a : Int) + 8 * (2 + 2 * (r : Int)) ≤ 65529 := om19 hle hi4
        refine Cc.imp (c_told (l1 := (L, o) :: (q4.o2 w ++ [(p'.pa, instObj 52 p'.da)])) (l2 := (fa, listO [.ref ca, tv4] k4) :: (L + 3, o1') :: (L + 2, o2') :: (L + 1, o3') :: its) (rows := rowsOf forms goals ns many) p' hh (show A.depth + 1 < 780 from dlt hd (by decide)) (show A.units + 3 + 500 < cLine from ult hu (by decide)) (P5.t (Le.rf _)) (List.mem_append_left _ (.tail _ (List.mem_append_right _ (.head _)))) (W4.up l5) hpn hN.up (hpr.up l15) (Dr.good hm8) (hnl.trans Dr.len.symm) hvn hvo hvs (PlaceAt.self hN.up hnb) (bad_false hge hs1 hnl8 hle2) (fun _ _ => mulSmall hstep) (mulSmall hstep)) fun g6 hot6 v6 l6 rr => ?_
        obtain ⟨p2, e1, e2, e3, h5, h6, h7, h8, ad, us, k, h9, h10⟩ := rr
        rw [hnl, lost_law Dr hN hnl hml many (Nat.le_refl _)] at h10
        rw [rows_law Dr hN hnl hml many (Nat.le_refl _)] at h8
        have hL2 : Lin (newNs ns b (lst ns b + 2 * (a : Int)) (2 + 2 * (r : Int))) := newNs_lin hN (Nat.le_of_lt hbl) hge (hpos.resolve_right ha0) (om20 f3) hs1 (om21 r)
        have hB2 : ∀ x ∈ newNs ns b (lst ns b + 2 * (a : Int)) (2 + 2 * (r : Int)), x ≤ 1000 * (((i + 1 : Nat) : Int) + 1) := newNs_le (upB hB) hnl8 hle (Int.le_of_lt hs1)
        generalize hms : newNs ns b (lst ns b + 2 * (a : Int)) (2 + 2 * (r : Int)) = ms at hml h7 h8 h10 hL2 hB2
        refine ⟨o, q4.o2 w ++ (p2.o2 w ++ (fa, listO [.ref ca, tv4] k4) :: (L + 3, o1') :: (L + 2, o2') :: (L + 1, o3') :: its), by rw [← e1, ← e2, ← e3]; rfl, ho, ?_⟩
        have ep2 : p2.pa = p.pa := e1.trans ep
        have N3 := N2.told (v := .ref ad)
        have l16 := l15.tr l6
        have W6 := W4.up (l5.tr l6)
        have hna6 := l16 _ _ hna
        have hnum3 : up mm2 "told" (.ref ad) "numbers" = some (.ref na) := hnum2
        have hbeg3 : up mm2 "told" (.ref ad) "begin" = some vb := hbeg
        have htold3 : up mm2 "told" (.ref ad) "told" = some (.ref ad) := rfl
        generalize up mm2 "told" (.ref ad) = mm3 at N3 hnum3 hbeg3 htold3
        have P6 : PgIn p2 w g6 (q4.o2 w ++ (p2.o2 w ++ (fa, listO [.ref ca, tv4] k4) :: (L + 3, o1') :: (L + 2, o2') :: (L + 1, o3') :: its)) := .mid (h5) (h6)
        clear P5 f1 f2 f3 f4 f5 hpos hge hle hle2 hB hpn hpr hpna hpra
        refine eIf (b := ((a : Int) == 0)) (fun o ho => tCmp (R1 := fun _ v => IsI a v) (nmc (c := L + 1) rfl (by first | exact memA mem1 | exact memA mem2 | exact memA mem3 | exact .tail _ (memA mem1) | exact .tail _ (memA mem2) | exact .tail _ (memA mem3) | exact memB (memA mem1) | exact memB (memA mem2) | exact memB (memA mem3) | simp) ho3' fun _ _ => ha) (fun _ _ _ _ => cI) fun g2 g3 u v l2 l3 ru rv => (cEq ru rv).imp fun _ _ _ r => ⟨_, r, rfl⟩) (fun hb0 => absurd (Int.ofNat_eq_zero.mp (beq_iff_eq.mp hb0)) ha0) fun _ g7 l7 => ?_
        -- numbers
        refine eAsg (R1 := fun g v => ∃ D xs n, v = .ref D ∧ g.get? D = some (listO xs n) ∧ IntsV xs ms) (fun o ho => ?_) fun g8 nav l8 hnav => ?_
        · refine bin (R1 := fun g v => ∃ D, v = .ref D ∧ g.get? D = some (listO (nv.take b) 0)) (R2 := fun g v => ∃ D2 ys n, v = .ref D2 ∧ g.get? D2 = some (listO ys n) ∧ IntsV ys ((List.range (many - b)).map fun i : Nat => lst ns b + 2 * (a : Int) + (2 + 2 * (r : Int)) * (i : Int))) ?_ (fun g8 _ l8 _ => ?_) fun g8 g9 u v l8 l9 ru rv => ?_
          · refine Cn.imp (slcA (lo := none) (hi := some (b : Int)) (vs := nv) (nV (.head _) ho hnum3) (HasL.of (l7 _ _ hna6)) (by rw [hni.1]; exact Nat.le_trans hnl8 (by decide)) (fun _ _ => partNone) (fun _ _ => partSome ((nV (.head _) ho hbeg3).imp fun _ _ _ r => r ▸ hb))) fun g8 v l8 ⟨D, e1, e2⟩ => ⟨D, e1, ?_⟩
            rw [pick_to] at e2
            exact e2
          · have hmb : ((many - b : Nat) : Int) = (many : Int) - b := Int.ofNat_sub (Nat.le_of_lt hbm)
            have hmb8 : many - b ≤ 8 := Nat.le_trans (Nat.sub_le _ _) hm8
            refine compG (n := many - b) (keep := []) (B := fun i m => ∃ v, IsI i v ∧ m "at" = some v) (cl := [("least", L + 3), ("by", L + 2), ("ahead", L + 1)]) (Src.name (itRange hh (W6.up (l7.tr l8)) (Nat.lt_of_le_of_lt hmb8 (by decide)) rfl rfl (hmb ▸ bin (R1 := fun _ v => IsI many v) (R2 := fun _ v => IsI b v) ((nV (.head _) ho N3.many).imp fun _ _ _ r => r ▸ hmv) (fun _ _ _ _ => (nV (.head _) ho hbeg3).imp fun _ _ _ r => r ▸ hb) fun g2 g3 u v l2 l3 ru rv => oSub ru rv))) (fun _ hq => nomatch hq) (fun C => ⟨rfl, rfl⟩)
              (fun i g ys => IntsV ys ((List.range i).map fun i : Nat => lst ns b + 2 * (a : Int) + (2 + 2 * (r : Int)) * (i : Int))) (fun _ => true) (Nat.le_trans hmb8 (by decide)) (fun _ _ => IntsV.nil) (fun _ _ _ _ l h => h) (fun _ _ _ _ _ _ _ _ _ _ => tests0) ?_ (fun _ _ _ h => nomatch h) (fun g3 D2 ys n' l3 e h => ⟨D2, ys, n', rfl, e, h⟩) rfl (by decide) rfl (by decide)
            rintro i C oC m ext g9 ys l9 hj ⟨v, hv, hm⟩ _ hoC hA
            refine Cn.imp (R := fun _ v => IsI (lst ns b + 2 * (a : Int) + (2 + 2 * (r : Int)) * (i : Int)) v) (bin (R1 := fun _ v => IsI (lst ns b + 2 * (a : Int)) v) (R2 := fun _ v => IsI ((2 + 2 * (r : Int)) * (i : Int)) v) (bin (R1 := fun _ v => IsI (lst ns b) v) (R2 := fun _ v => IsI (2 * (a : Int)) v) (nmc (c := L + 3) rfl (by first | exact memA mem1 | exact memA mem2 | exact memA mem3 | exact .tail _ (memA mem1) | exact .tail _ (memA mem2) | exact .tail _ (memA mem3) | exact memB (memA mem1) | exact memB (memA mem2) | exact memB (memA mem3) | simp) ho1' fun _ _ => hvl) (fun _ _ _ _ => bin (R1 := fun _ v => IsI 2 v) (R2 := fun _ v => IsI a v) cI (fun _ _ _ _ => nmc (c := L + 1) rfl (by first | exact memA mem1 | exact memA mem2 | exact memA mem3 | exact .tail _ (memA mem1) | exact .tail _ (memA mem2) | exact .tail _ (memA mem3) | exact memB (memA mem1) | exact memB (memA mem2) | exact memB (memA mem3) | simp) ho3' fun _ _ => ha) fun g2 g3 u v l2 l3 ru rv => oMul ru rv (mulSmall (by decide))) fun g2 g3 u v l2 l3 ru rv => oAdd ru rv) (fun g5 _ l5 _ => bin (R1 := fun _ v => IsI (2 + 2 * (r : Int)) v) (R2 := fun _ v => IsI i v) (nmc (c := L + 2) rfl (by first | exact memA mem1 | exact memA mem2 | exact memA mem3 | exact .tail _ (memA mem1) | exact .tail _ (memA mem2) | exact .tail _ (memA mem3) | exact memB (memA mem1) | exact memB (memA mem2) | exact memB (memA mem3) | simp) ho2' fun _ _ => hy2) (fun _ _ _ _ => nm (.head _) hoC hm fun _ _ => hv) fun g2 g3 u v' l2 l3 ru rv => oMul ru rv (mulSmall hstep)) fun g2 g3 u v l2 l3 ru rv => oAdd ru rv) fun g4 u l4 r => ?_
            rw [List.range_succ, List.map_append]
            exact hA.snoc r
          · obtain ⟨D, rfl, e1⟩ := ru
            obtain ⟨a', ys', n', rfl, e2, e3⟩ := rv
            have hyl : ys'.length = many - b := by simpa using e3.1
            have hsum : (nv.take b).length + ys'.length ≤ 4096 := by
              rw [hyl, List.length_take]
              exact Nat.le_trans (Nat.add_le_add (Nat.min_le_left _ _) (Nat.sub_le _ _)) (Nat.le_trans (Nat.add_le_add (Nat.le_trans (Nat.le_of_lt hbm) hm8) hm8) (by decide))
            refine Cn.imp (oAddL (Or.inr (l9 _ _ e1)) (Or.inr e2) hsum) fun g4 v l4 ⟨D', e4, e5⟩ => ⟨D', _, 0, e4, e5, ?_⟩
            rw [← hms]
            unfold newNs
            rw [hnl]
            exact (hni.take b).app e3
        obtain ⟨na8, nv8, nn8, rfl, hna8, hni8⟩ := hnav
        have N4' := N3.numbers (v := .ref na8)
        have htold4 : up mm3 "numbers" (.ref na8) "told" = some (.ref ad) := htold3
        have l68 := l7.tr l8
        have hD2 : Drawn' forms goals ms.length := hml.symm ▸ Dr
        have hn4 : up mm3 "numbers" (.ref na8) "numbers" = some (.ref na8) := rfl
        generalize up mm3 "numbers" (.ref na8) = mm4 at N4' htold4 hn4
        have l18 := l1.tr (l16.tr l68)
        have hfo8 := l18 _ _ hfoK
        have hgo8 := l18 _ _ hgoK
        have hgv8 := hgvK.up l18
        refine eIf (b := false || (!true || false)) (fun o ho => tBool (tOr (tCmp (R1 := fun _ u => u = .ref ad) (R2 := fun g u => Rd g u (.list ((lwTo forms goals ms ms.length).map prD))) (nV (.head _) ho htold4) (fun g9 _ l9 _ => lostC hh (show A.depth + 1 < 870 from dlt hd (by decide)) (W6.up (l68.tr l9)) (.head _) ho N4'.forms N4'.goals hn4 (l9 _ _ hfo8) hfv (l9 _ _ hgo8) (hgv8.up l9) (l9 _ _ hna8) hni8 hD2 (hl8 hml)) fun g9 g10 u v l9 l10 ru rv => ?_) fun _ g9 l9 => tOr (tNot (tVal (Cn.imp (sameC p2 hh (show A.depth + 1 < 860 from dlt hd (by decide)) (show A.units + 3 + 400 < cLine from ult hu (by decide)) (W6.up (l68.tr l9)) (P6.t (l68.tr l9)) (.head _) ho (ep2 ▸ N4'.program) N4'.forms N4'.goals hn4 (l9 _ _ hfo8) hfv (l9 _ _ hgo8) (hgv8.up l9) (l9 _ _ hna8) hni8 hD2 (hl8 hml) h7 (hml.symm ▸ h8.up (l68.tr l9))) fun _ _ _ r => ⟨_, r, rfl⟩))) fun _ _ _ => tOr0)) (fun h => nomatch h) fun _ g9 l9 => ?_
        · subst ru
          rw [hml] at rv
          exact Cn.imp (neSame (show A.units + 3 + 64 < cLine from ult hu (by decide)) (Rd.ofList ⟨_, (l68.tr (l9.tr l10)) _ _ h9, rfl, k, rfl⟩ (h10.mono (l68.tr (l9.tr l10)))) rv (shaped_prs _) (lay_prs' _)) fun _ _ _ r => ⟨_, r, rfl⟩
        · exact eNil fun g10 l10 => have l8x := l9.tr l10; ⟨.inl rfl, q4.o2 w ++ (p2.o2 w ++ (fa, listO [.ref ca, tv4] k4) :: [(L + 3, o1'), (L + 2, o2'), (L + 1, o3')]), rfl, p2, tv4, k4, tt + 3, ms, na8, nv8, nn8, o1', o2', o3', _, _, _, ep2, N4', hn4,
            l8x _ _ hna8, hni8, hL2, hml, hB2, (l68.tr l8x) _ _ h5, (l68.tr l8x) _ _ h6, h7, h8.up (l68.tr l8x), htv4, Nat.add_le_add_right htt 3, ho1', ho2', ho3'⟩
  rintro gL m5 hot5 lL ⟨p5, tv5, n5, tt5, ns, na5, nv5, nn5, o1, o2, o3, v1, v2, v3, ep5, N5, hnum5, hna5, hni5, hN, hnl5, hB, hpna, hpra, hpn5, hpr5, htv5, htt5, ho1, ho2, ho3⟩
  clear hB htt5 htv5 hna5 hni5 hnum5 ho1 ho2 ho3 hpn hpr hpn' hpr' N4 hnum4 hnaK hnum N3 htv hol hob hoa ht20 ht hm2
  have WL := WK.up lL
  -- numbers
  refine eAsgC (x := "numbers") (n := many) (B := fun i m => ∃ v, IsI i v ∧ m "at" = some v) (keep := []) (cl := []) (fun o ho => Src.name (itRange hh WL (Nat.lt_of_le_of_lt hm8 (by decide)) rfl rfl ((nV (.head _) ho N5.many).imp fun _ _ _ r => r ▸ hmv))) (fun _ hq => nomatch hq) (fun C => ⟨rfl, rfl⟩)
    (fun i g ys => IntsV ys ((List.range i).map fun i : Nat => 100 + 10 * (i : Int))) (fun _ => true) (Nat.le_trans hm8 (by decide)) (fun _ _ => IntsV.nil) (fun _ _ _ _ l h => h) (fun _ _ _ _ _ _ _ _ _ _ => tests0) ?_ (fun _ _ _ h => nomatch h) (fun gM na6 nv6 nn6 lM hna6 hni6 => ?_) rfl (by decide) rfl (by decide)
  · rintro i C oC m ext g3 ys l3 hj ⟨v, hv, hm⟩ _ hoC hA
    refine Cn.imp (R := fun _ v => IsI (100 + 10 * (i : Int)) v) (bin (R1 := fun _ v => IsI 100 v) cI (fun g5 _ l5 _ => bin (R1 := fun _ v => IsI 10 v) cI (fun _ _ _ _ => nV (.head _) hoC hm) fun g2 g3 u v' l2 l3 ru rv => by subst rv; exact oMul ru hv (mulSmall (by decide))) fun g2 g3 u v l2 l3 ru rv => oAdd ru rv) fun g4 u l4 r => ?_
    rw [List.range_succ, List.map_append]
    exact hA.snoc r
  have hni6' : IntsV nv6 (ns9 many) := hni6
  have hl9 := ns9_len many
  have hD9 : Drawn' forms goals (ns9 many).length := hl9.symm ▸ Dr
  have N6 := N5.numbers (v := .ref na6)
  have hnum6 : up m5 "numbers" (.ref na6) "numbers" = some (.ref na6) := rfl
  generalize up m5 "numbers" (.ref na6) = m6 at N6 hnum6
  have lKM := lL.tr lM
  have WM := WK.up lKM
  -- due
  refine eAsg (R1 := fun g u => Rd g u (.list ((lwTo forms goals (ns9 many) (ns9 many).length).map prD))) (fun o ho => lostC hh (show A.depth + 1 < 870 from dlt hd (by decide)) WM (.head _) ho N6.forms N6.goals hnum6 (lKM _ _ hfoK) hfv (lKM _ _ hgoK) (hgvK.up lKM) hna6 hni6' hD9 (hl8 hl9)) fun gN due lN hdue => ?_
  have N7 : Nm (up m6 "due" due) fa p.pa q.pa foa goa mv uv := ⟨N6.feed, N6.program, N6.mate, N6.many, N6.times, N6.forms, N6.goals⟩
  have hnum7 : up m6 "due" due "numbers" = some (.ref na6) := hnum6
  have hdue7 : up m6 "due" due "due" = some due := rfl
  generalize up m6 "due" due = m7 at N7 hnum7 hdue7
  have lKN := lKM.tr lN
  have WN := WK.up lKN
  have lLN := lM.tr lN
  rw [hl9] at hdue
  show Em w _ _ gN m7 (q4.o2 w ++ (p5.o2 w ++ (fa, listO [.ref ca, tv5] n5) :: [(L + 3, o1), (L + 2, o2), (L + 1, o3)])) _ _
  have P5 : PgIn p5 w gN (q4.o2 w ++ (p5.o2 w ++ (fa, listO [.ref ca, tv5] n5) :: [(L + 3, o1), (L + 2, o2), (L + 1, o3)])) := .mid ((lLN _ _ hpna)) ((lLN _ _ hpra))
  refine eIfE (emBool (emOr (Em.le (emTCmp false (mCallE (f := 149) (S := fun g us => ∃ vn vo vs', us = [.ref p5.pa, vn, vo, vs'] ∧ IsI 100 vn ∧ IsI 0 vo ∧ IsI 10 vs') WN rfl rfl rfl (fun o ho => Cn.imp (arg4 (R1 := fun _ v => v = .ref p5.pa) (R2 := fun _ v => IsI 100 v) (R3 := fun _ v => IsI 0 v) (R4 := fun _ v => IsI 10 v) (nV (.head _) ho (ep5 ▸ N7.program)) (fun _ _ => cI) (fun _ _ => cI) fun _ _ => cI) fun g5 us l5 ⟨x, y, z, u, e, e1, e2, e3, e4⟩ => ⟨y, z, u, by rw [e, e1], e2, e3, e4⟩) fun o ho gO us lO rr => ?_)))))
  obtain ⟨vn, vo, vs', rfl, hvn, hvo, hvs⟩ := rr
  refine Cc.imp (c_told (l1 := (L, o) :: (q4.o2 w ++ [(p5.pa, instObj 52 p5.da)])) (l2 := (fa, listO [.ref ca, tv5] n5) :: [(L + 3, o1), (L + 2, o2), (L + 1, o3)]) (rows := rowsOf forms goals ns many) p5 hh (show A.depth + 1 < 780 from dlt hd (by decide)) (show A.units + 3 + 500 < cLine from ult hu (by decide)) (P5.t lO) (List.mem_append_left _ (.tail _ (List.mem_append_right _ (.head _)))) (WN.up lO) hpn5 hN.up (hpr5.up (lLN.tr lO)) (Dr.good hm8) (hnl5.trans Dr.len.symm) hvn hvo hvs (PlaceAt.zero hN) (ns9_ok hnl5 hm8) (fun _ _ => mulSmall (by decide)) (mulSmall (by decide))) fun gP hotP vP lP rr => ?_
  obtain ⟨p2, e1, e2, e3, h5, h6, h7, h8, ad, us, k, h9, h10⟩ := rr
  rw [ns9_new hnl5] at h7 h8 h10
  rw [hnl5, lost_law Dr hN hnl5 hl9 many (Nat.le_refl _)] at h10
  rw [rows_law Dr hN hnl5 hl9 many (Nat.le_refl _)] at h8
  refine ⟨o, q4.o2 w ++ (p2.o2 w ++ (fa, listO [.ref ca, tv5] n5) :: [(L + 3, o1), (L + 2, o2), (L + 1, o3)]), by rw [← e1, ← e2, ← e3]; rfl, ho, fun o' ho' => Cn.imp (nV (.head _) ho' hdue7) fun gQ v lQ e gR lR => ?_⟩
  subst e
  have lNR := lO.tr (lP.tr (lQ.tr lR))
  have hz9 : (ns9 many).length ≤ 8 := hl8 hl9
  have hshape := shaped_prs (lwTo forms goals (ns9 many) many)
  have hlay := lay_prs' (lwTo forms goals (ns9 many) many)
  refine ⟨neSame (show A.units + 3 + 64 < cLine from ult hu (by decide)) (Rd.ofList ⟨_, (lQ.tr lR) _ _ h9, rfl, k, rfl⟩ (h10.mono (lQ.tr lR))) (hdue.mono lNR) hshape hlay, fun gS lS lNS => ⟨rfl, ?_⟩⟩
  have ep2 : p2.pa = p.pa := e1.trans ep5
  have lPS := lQ.tr (lR.tr lS)
  have WS := WN.up lNS
  have lKS := lKN.tr lNS
  have Q5 : PgIn q4 w gS (q4.o2 w ++ (p2.o2 w ++ (fa, listO [.ref ca, tv5] n5) :: [(L + 3, o1), (L + 2, o2), (L + 1, o3)])) := .fst ((lKS _ _ hqn')) ((lKS _ _ hqr'))
  clear P5 hpna hpra hpn5 hpr5
  -- the mate
  refine emOr (Em.le (emTCmp false (mCallE (f := 149) (S := fun g us => ∃ vn vo vs', us = [.ref q4.pa, vn, vo, vs'] ∧ IsI 100 vn ∧ IsI 0 vo ∧ IsI 10 vs') WS rfl rfl rfl (fun o ho => Cn.imp (arg4 (R1 := fun _ v => v = .ref q4.pa) (R2 := fun _ v => IsI 100 v) (R3 := fun _ v => IsI 0 v) (R4 := fun _ v => IsI 10 v) (nV (.head _) ho (eq ▸ N7.mate)) (fun _ _ => cI) (fun _ _ => cI) fun _ _ => cI) fun g5 us l5 ⟨x, y, z, u, e, e1, e2, e3, e4⟩ => ⟨y, z, u, by rw [e, e1], e2, e3, e4⟩) fun o ho gT us lT rr => ?_)))
  obtain ⟨vn2, vo2, vs2', rfl, hvn2, hvo2, hvs2⟩ := rr
  refine Cc.imp (c_told (l1 := [(L, o), (q4.pa, instObj 52 q4.da)]) (l2 := p2.o2 w ++ (fa, listO [.ref ca, tv5] n5) :: [(L + 3, o1), (L + 2, o2), (L + 1, o3)]) (rows := rowsOf forms goals (ns0 many) many) q4 hh (show A.depth + 1 < 780 from dlt hd (by decide)) (show A.units + 3 + 500 < cLine from ult hu (by decide)) (Q5.t lT) mem1 (WS.up lT) hqn (ns0_lin many).up (hqr.up (lKS.tr lT)) (Dr.good hm8) (hnl.trans Dr.len.symm) hvn2 hvo2 hvs2 (PlaceAt.zero (ns0_lin many)) (ns9_ok hnl hm8) (fun _ _ => mulSmall (by decide)) (mulSmall (by decide))) fun gU hotU vU lU rr => ?_
  obtain ⟨q2, f1, f2, f3, j5, j6, j7, j8, ad2, us2, k2, j9, j10⟩ := rr
  rw [ns9_new hnl] at j7 j8 j10
  rw [hnl, lost_law Dr (ns0_lin many) hnl hl9 many (Nat.le_refl _)] at j10
  rw [rows_law Dr (ns0_lin many) hnl hl9 many (Nat.le_refl _)] at j8
  refine ⟨o, q2.o2 w ++ (p2.o2 w ++ (fa, listO [.ref ca, tv5] n5) :: [(L + 3, o1), (L + 2, o2), (L + 1, o3)]), by rw [← f1, ← f2, ← f3]; rfl, ho, fun o' ho' => Cn.imp (nV (.head _) ho' hdue7) fun gV v lV e gX lX => ?_⟩
  subst e
  have lSX := lT.tr (lU.tr (lV.tr lX))
  refine ⟨neSame (show A.units + 3 + 64 < cLine from ult hu (by decide)) (Rd.ofList ⟨_, (lV.tr lX) _ _ j9, rfl, k2, rfl⟩ (j10.mono (lV.tr lX))) (hdue.mono (lNS.tr lSX)) hshape hlay, fun gY lY lSY => ⟨rfl, emOr0 fun gZ lZ => ⟨rfl, ?_⟩⟩⟩
  have eq2 : q2.pa = q.pa := f1.trans eq
  have lSZ := lSY.tr lZ
  have lKZ := lKS.tr lSZ
  have lPZ := lPS.tr lSZ
  have lUZ := lV.tr (lX.tr (lY.tr lZ))
  have WZ := WK.up lKZ
  have PZ : PgIn p2 w gZ (q2.o2 w ++ (p2.o2 w ++ (fa, listO [.ref ca, tv5] n5) :: [(L + 3, o1), (L + 2, o2), (L + 1, o3)])) := .mid ((lPZ _ _ h5)) ((lPZ _ _ h6))
  have QZ : PgIn q2 w gZ (q2.o2 w ++ (p2.o2 w ++ (fa, listO [.ref ca, tv5] n5) :: [(L + 3, o1), (L + 2, o2), (L + 1, o3)])) := .fst ((lUZ _ _ j5)) ((lUZ _ _ j6))
  have hrk := fun ts h => (rowsOf_ok forms goals (ns9 many) many ts h).2
  -- the end
  refine eRet (R1 := fun _ v => v = .bool true) (fun o ho => vAnd3 (sameC p2 hh (show A.depth + 1 < 860 from dlt hd (by decide)) (show A.units + 3 + 400 < cLine from ult hu (by decide)) WZ (PZ.t (Le.rf _)) (.head _) ho (ep2 ▸ N7.program) N7.forms N7.goals hnum7 (lKZ _ _ hfoK) hfv (lKZ _ _ hgoK) (hgvK.up lKZ) ((lN.tr (lNS.tr lSZ)) _ _ hna6) hni6' hD9 hz9 h7 (hl9.symm ▸ h8.up lPZ)) (fun g1 l1 => ?_) fun g1 l1 => ?_) fun g1 v l r => ⟨_, (List.append_nil _).symm, r⟩
  · refine cmp (R1 := fun _ v => v = .ref p2.ra) (R2 := fun _ v => v = .ref q2.ra) (attrNm (nV (.head _) ho N7.program) fun g2 v l2 r2 => by subst r2; exact ep2 ▸ getRows (WZ.up (l1.tr l2)) (.tail _ PZ.i) (.tail _ PZ.d)) (fun g2 _ l2 _ => attrNm (nV (.head _) ho N7.mate) fun g3 v l3 r2 => by subst r2; exact eq2 ▸ getRows (WZ.up (l1.tr (l2.tr l3))) (.tail _ QZ.i) (.tail _ QZ.d)) fun g2 g3 u v l2 l3 ru rv => ?_
    subst ru rv
    have lX' := l1.tr (l2.tr l3)
    refine Cn.imp (cEqD (RdH.ofP ((PZ.t lX').r) (h8.up (lPZ.tr lX')).rdAll) (RdH.ofP ((QZ.t lX').r) (j8.up (lUZ.tr lX')).rdAll) (shaped_rows _ hrk) (shaped_rows _ hrk) (show A.units + 3 + 64 < cLine from ult hu (by decide))) fun g5 r l5 e => ?_
    rw [e, PySem.SeqAt.eqv_refl _ (by simpa [PyData.canLay0] using (lay_rows _ hrk).1)]
  · refine cmp (R1 := fun _ v => v = .ref p2.na) (R2 := fun _ v => v = .ref q2.na) (attrNm (nV (.head _) ho N7.program) fun g2 v l2 r2 => by subst r2; exact ep2 ▸ getNumbers (WZ.up (l1.tr l2)) (.tail _ PZ.i) (.tail _ PZ.d)) (fun g2 _ l2 _ => attrNm (nV (.head _) ho N7.mate) fun g3 v l3 r2 => by subst r2; exact eq2 ▸ getNumbers (WZ.up (l1.tr (l2.tr l3))) (.tail _ QZ.i) (.tail _ QZ.d)) fun g2 g3 u v l2 l3 ru rv => ?_
    subst ru rv
    have lX' := l1.tr (l2.tr l3)
    refine Cn.imp (cEqD (RdH.ofP ((PZ.t lX').n) (h7.rdAll _)) (RdH.ofP ((QZ.t lX').n) (j7.rdAll _)) (shaped_intsZ _) (shaped_intsZ _) (show A.units + 3 + 64 < cLine from ult hu (by decide))) fun g5 r l5 e => ?_
    rw [e, PySem.SeqAt.eqv_refl _ (by simpa [PyData.canLay0] using lay_intsZ _)]
end Mine

/-! the join -/
set_option maxRecDepth 100000 in
set_option maxHeartbeats 8000000 in
theorem PySem.Challenge.cw_xm0999_01_holds : PySem.Challenge.rw_xm0999_01.Holds := by
  refine Mine.hdx ?_
  intro w s₀ s₁ mg mb G Y fa o pm cd doc dV kV ho hd hcd hD hmg hg args vals as hpre hlay hrd hwl hlo
  have KX : (Mine.KK w.params).In s₁.heap := kIn_of Y
  clear hd hcd hD
  wrow_args hpre hlay hrd hwl hlo
  rename_i xs _ _ _ _ _ _ _ sa sv _ hL ra _ _ _ _ hz _
  have ef : mg (PySem.Str.ofString "law") = some (.ref 154) := mg_of KX G.T.g rfl
  have ea : fa = 154 := by
    have := hmg.symm.trans ef
    cases this
    rfl
  subst ea
  have bi : ∀ x v, Mine.biTab.lookup x = some v → mb x = some v := Mine.bi_all fun x hx => G.T.builtins x hx
  refine Mine.c_law (w := w) (A := callerA) (g := s₁.heap) (xs := xs) rfl (by decide +kernel) (by decide +kernel) rfl ⟨KX, G.T.nolimit, mb, G.T.b, bi⟩ hL (Mine.RdAll.ints ⟨_, ra⟩) (by omega) s₁ _ _ s₁.heap (Mine.Le.rf _) ⟨Mine.Le.rf _, fun p hp => (nomatch hp), fun p hp => (nomatch hp), List.nodup_nil⟩ fun v g1 h1 tk l1 H1 r => ?_
  subst r
  exact GoodW.toG ⟨.inl ⟨_, .bool true, [], rfl, fun _ => rfl, .bool true, by wrow_post, fun _ => ⟨List.nodup_nil, fun a ha => (nomatch ha)⟩⟩, l1.tr H1.keep, rfl, hg⟩
