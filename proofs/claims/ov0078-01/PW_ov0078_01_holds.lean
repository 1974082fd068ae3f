import PyProof.Rows.All
import Wide.All
import OpenK.AllK
import KE.KPar
import Wide.FinOn
import Lean
import PySem.Challenge.RW_ov0078_01
open PySem PySem.W PySem.Calls PyProof.Rows
set_option Elab.async false
set_option maxRecDepth 100000

namespace Mine.Hd
noncomputable abbrev rp : Program := PySem.Challenge.pw_ov0078_01
noncomputable def stm (i : Nat) : Stmt := (rp.main.body[i]?).getD default
noncomputable def fdP : Stmt → Arguments | .FunctionDef _ a .. => a | _ => default
noncomputable def fdB : Stmt → List Stmt | .FunctionDef _ _ b .. => b | .ClassDef _ _ _ b .. => b | _ => []
noncomputable def fdS : Stmt → Scope | .FunctionDef _ _ _ _ _ _ s .. => s | _ => default
noncomputable def sub (s : Stmt) (j : Nat) : Stmt := ((fdB s)[j]?).getD default
noncomputable def o45 : Obj := { cls := Value.type "code", data := Data.fields #[Value.str (Str.ofString "<module>") 182, Value.str (Str.ofString "<module>") 183, Value.str (Str.ofString "/claim/cut.py") 184, Value.int 1 0, Value.int 0 0, Value.int 0 0, Value.int 0 0, Value.int 0 0, Value.ref 11, Value.bool false, Value.int 181 0, Value.ref 12, Value.none, Value.none, Value.none, Value.none, Value.int 185 0, Value.int 1 0, Value.str (Str.ofString "/claim/cut.py") 186] }
noncomputable def o46 : Obj := { cls := Value.type "frame", slots := #[some (Value.ref 13), some (Value.ref 3), some (Value.ref 3), none, some (Value.str (Str.ofString "__main__") 164), none, some (Value.ref 0)] }
noncomputable def o49 (P : Params) : Obj := { cls := Value.type "dict", data := Data.dict #[{ hash := PyData.keyHash P (Str.ofString "__name__"), key := Value.str (Str.ofString "__name__") 165, val := Value.str (Str.ofString "vectorcove.numtext") 231 }, { hash := PyData.keyHash P (Str.ofString "__doc__"), key := Value.str (Str.ofString "__doc__") 166, val := Value.none }, { hash := PyData.keyHash P (Str.ofString "__package__"), key := Value.str (Str.ofString "__package__") 167, val := Value.none }, { hash := PyData.keyHash P (Str.ofString "__loader__"), key := Value.str (Str.ofString "__loader__") 168, val := Value.builtin "__main__.__loader__#opaque" }, { hash := PyData.keyHash P (Str.ofString "__spec__"), key := Value.str (Str.ofString "__spec__") 169, val := Value.none }, { hash := PyData.keyHash P (Str.ofString "__annotations__"), key := Value.str (Str.ofString "__annotations__") 170, val := Value.ref 6 }, { hash := PyData.keyHash P (Str.ofString "__builtins__"), key := Value.str (Str.ofString "__builtins__") 171, val := Value.ref 4 }, { hash := PyData.keyHash P (Str.ofString "__file__"), key := Value.str (Str.ofString "__file__") 173, val := Value.str (Str.ofString "/claim/cut.py") 172 }, { hash := PyData.keyHash P (Str.ofString "__cached__"), key := Value.str (Str.ofString "__cached__") 174, val := Value.none }, { hash := PyData.keyHash P (Str.ofString "_wall"), key := Value.str (Str.ofString "_wall") 193, val := Value.ref 21 }, { hash := PyData.keyHash P (Str.ofString "is_finite"), key := Value.str (Str.ofString "is_finite") 202, val := Value.ref 28 }, { hash := PyData.keyHash P (Str.ofString "to_whole"), key := Value.str (Str.ofString "to_whole") 210, val := Value.ref 35 }, { hash := PyData.keyHash P (Str.ofString "nearest_whole"), key := Value.str (Str.ofString "nearest_whole") 220, val := Value.ref 42 }, { hash := PyData.keyHash P (Str.ofString "exponent"), key := Value.str (Str.ofString "exponent") 230, val := Value.ref 49 }, { hash := PyData.keyHash P (Str.ofString "whole_text"), key := Value.str (Str.ofString "whole_text") 242, val := Value.ref 56 }, { hash := PyData.keyHash P (Str.ofString "special_text"), key := Value.str (Str.ofString "special_text") 249, val := Value.ref 63 }, { hash := PyData.keyHash P (Str.ofString "scaled"), key := Value.str (Str.ofString "scaled") 259, val := Value.ref 70 }, { hash := PyData.keyHash P (Str.ofString "significant"), key := Value.str (Str.ofString "significant") 269, val := Value.ref 77 }, { hash := PyData.keyHash P (Str.ofString "without_tail"), key := Value.str (Str.ofString "without_tail") 277, val := Value.ref 84 }, { hash := PyData.keyHash P (Str.ofString "scientific_text"), key := Value.str (Str.ofString "scientific_text") 289, val := Value.ref 91 }, { hash := PyData.keyHash P (Str.ofString "fixed_text"), key := Value.str (Str.ofString "fixed_text") 299, val := Value.ref 98 }] 21 }
noncomputable def o50 : Obj := { cls := Value.none, data := Data.fields #[Value.int 1 0, Value.int 0 0, Value.ref 20, Value.int 5 0, Value.int 0 0, Value.ref 27, Value.int 7 0, Value.int 0 0, Value.ref 34, Value.int 12 0, Value.int 0 0, Value.ref 41, Value.int 18 0, Value.int 0 0, Value.ref 48, Value.int 30 0, Value.int 0 0, Value.ref 55, Value.int 41 0, Value.int 0 0, Value.ref 62, Value.int 49 0, Value.int 0 0, Value.ref 69, Value.int 54 0, Value.int 0 0, Value.ref 76, Value.int 63 0, Value.int 0 0, Value.ref 83, Value.int 68 0, Value.int 0 0, Value.ref 90, Value.int 75 0, Value.int 0 0, Value.ref 97] }
noncomputable def o53 : Obj := { cls := Value.type "tuple", data := Data.seq #[Value.str (Str.ofString "k") 190] }
noncomputable def o55 : Obj := { cls := Value.none, data := Data.func { name := Str.ofString "_wall", qualname := Str.ofString "_wall", params := fdP (stm 0), body := FuncBody.stmts (fdB (stm 0)), scope := fdS (stm 0), globals := 0, closure := [], defaults := Value.none, kwdefaults := Value.none } }
noncomputable def o56 : Obj := { cls := Value.type "code", data := Data.fields #[Value.str (Str.ofString "_wall") 187, Value.str (Str.ofString "_wall") 188, Value.str (Str.ofString "/claim/cut.py") 189, Value.int 1 0, Value.int 1 0, Value.int 0 0, Value.int 0 0, Value.int 3 0, Value.ref 15, Value.bool true, Value.int 181 0, Value.ref 16, Value.none, Value.ref 17, Value.ref 18, Value.ref 19, Value.int 191 0, Value.int 1 0, Value.str (Str.ofString "/claim/cut.py") 192] }
noncomputable def o57 : Obj := { cls := Value.type "function", data := Data.func { name := Str.ofString "_wall", qualname := Str.ofString "_wall", params := fdP (stm 0), body := FuncBody.stmts (fdB (stm 0)), scope := fdS (stm 0), globals := 3, closure := [], defaults := Value.none, kwdefaults := Value.none, pyModule := Value.str (Str.ofString "__main__") 164, code := Value.ref 20 } }
noncomputable def o60 : Obj := { cls := Value.type "tuple", data := Data.seq #[Value.str (Str.ofString "x") 199] }
noncomputable def o62 : Obj := { cls := Value.none, data := Data.func { name := Str.ofString "is_finite", qualname := Str.ofString "is_finite", params := fdP (stm 2), body := FuncBody.stmts (fdB (stm 2)), scope := fdS (stm 2), globals := 0, closure := [], defaults := Value.none, kwdefaults := Value.none } }
noncomputable def o63 : Obj := { cls := Value.type "code", data := Data.fields #[Value.str (Str.ofString "is_finite") 196, Value.str (Str.ofString "is_finite") 197, Value.str (Str.ofString "/claim/cut.py") 198, Value.int 5 0, Value.int 1 0, Value.int 0 0, Value.int 0 0, Value.int 3 0, Value.ref 22, Value.bool true, Value.int 181 0, Value.ref 23, Value.none, Value.ref 24, Value.ref 25, Value.ref 26, Value.int 200 0, Value.int 5 0, Value.str (Str.ofString "/claim/cut.py") 201] }
noncomputable def o64 : Obj := { cls := Value.type "function", data := Data.func { name := Str.ofString "is_finite", qualname := Str.ofString "is_finite", params := fdP (stm 2), body := FuncBody.stmts (fdB (stm 2)), scope := fdS (stm 2), globals := 3, closure := [], defaults := Value.none, kwdefaults := Value.none, pyModule := Value.str (Str.ofString "vectorcove.rational") 194, code := Value.ref 27 } }
noncomputable def o67 : Obj := { cls := Value.type "tuple", data := Data.seq #[Value.str (Str.ofString "x") 206, Value.str (Str.ofString "found") 207] }
noncomputable def o69 : Obj := { cls := Value.none, data := Data.func { name := Str.ofString "to_whole", qualname := Str.ofString "to_whole", params := fdP (stm 3), body := FuncBody.stmts (fdB (stm 3)), scope := fdS (stm 3), globals := 0, closure := [], defaults := Value.none, kwdefaults := Value.none } }
noncomputable def o70 : Obj := { cls := Value.type "code", data := Data.fields #[Value.str (Str.ofString "to_whole") 203, Value.str (Str.ofString "to_whole") 204, Value.str (Str.ofString "/claim/cut.py") 205, Value.int 7 0, Value.int 1 0, Value.int 0 0, Value.int 0 0, Value.int 3 0, Value.ref 29, Value.bool true, Value.int 181 0, Value.ref 30, Value.none, Value.ref 31, Value.ref 32, Value.ref 33, Value.int 208 0, Value.int 7 0, Value.str (Str.ofString "/claim/cut.py") 209] }
noncomputable def o71 : Obj := { cls := Value.type "function", data := Data.func { name := Str.ofString "to_whole", qualname := Str.ofString "to_whole", params := fdP (stm 3), body := FuncBody.stmts (fdB (stm 3)), scope := fdS (stm 3), globals := 3, closure := [], defaults := Value.none, kwdefaults := Value.none, pyModule := Value.str (Str.ofString "vectorcove.rational") 194, code := Value.ref 34 } }
noncomputable def o74 : Obj := { cls := Value.type "tuple", data := Data.seq #[Value.str (Str.ofString "n") 214, Value.str (Str.ofString "d") 215, Value.str (Str.ofString "low") 216, Value.str (Str.ofString "rest") 217] }
noncomputable def o76 : Obj := { cls := Value.none, data := Data.func { name := Str.ofString "nearest_whole", qualname := Str.ofString "nearest_whole", params := fdP (stm 4), body := FuncBody.stmts (fdB (stm 4)), scope := fdS (stm 4), globals := 0, closure := [], defaults := Value.none, kwdefaults := Value.none } }
noncomputable def o77 : Obj := { cls := Value.type "code", data := Data.fields #[Value.str (Str.ofString "nearest_whole") 211, Value.str (Str.ofString "nearest_whole") 212, Value.str (Str.ofString "/claim/cut.py") 213, Value.int 12 0, Value.int 2 0, Value.int 0 0, Value.int 0 0, Value.int 3 0, Value.ref 36, Value.bool true, Value.int 181 0, Value.ref 37, Value.none, Value.ref 38, Value.ref 39, Value.ref 40, Value.int 218 0, Value.int 12 0, Value.str (Str.ofString "/claim/cut.py") 219] }
noncomputable def o78 : Obj := { cls := Value.type "function", data := Data.func { name := Str.ofString "nearest_whole", qualname := Str.ofString "nearest_whole", params := fdP (stm 4), body := FuncBody.stmts (fdB (stm 4)), scope := fdS (stm 4), globals := 3, closure := [], defaults := Value.none, kwdefaults := Value.none, pyModule := Value.str (Str.ofString "vectorcove.rational") 194, code := Value.ref 41 } }
noncomputable def o81 : Obj := { cls := Value.type "tuple", data := Data.seq #[Value.str (Str.ofString "x") 224, Value.str (Str.ofString "n") 225, Value.str (Str.ofString "d") 226, Value.str (Str.ofString "e") 227] }
noncomputable def o83 : Obj := { cls := Value.none, data := Data.func { name := Str.ofString "exponent", qualname := Str.ofString "exponent", params := fdP (stm 5), body := FuncBody.stmts (fdB (stm 5)), scope := fdS (stm 5), globals := 0, closure := [], defaults := Value.none, kwdefaults := Value.none } }
noncomputable def o84 : Obj := { cls := Value.type "code", data := Data.fields #[Value.str (Str.ofString "exponent") 221, Value.str (Str.ofString "exponent") 222, Value.str (Str.ofString "/claim/cut.py") 223, Value.int 18 0, Value.int 1 0, Value.int 0 0, Value.int 0 0, Value.int 3 0, Value.ref 43, Value.bool true, Value.int 181 0, Value.ref 44, Value.none, Value.ref 45, Value.ref 46, Value.ref 47, Value.int 228 0, Value.int 18 0, Value.str (Str.ofString "/claim/cut.py") 229] }
noncomputable def o85 : Obj := { cls := Value.type "function", data := Data.func { name := Str.ofString "exponent", qualname := Str.ofString "exponent", params := fdP (stm 5), body := FuncBody.stmts (fdB (stm 5)), scope := fdS (stm 5), globals := 3, closure := [], defaults := Value.none, kwdefaults := Value.none, pyModule := Value.str (Str.ofString "vectorcove.rational") 194, code := Value.ref 48 } }
noncomputable def o88 : Obj := { cls := Value.type "tuple", data := Data.seq #[Value.str (Str.ofString "n") 236, Value.str (Str.ofString "rest") 237, Value.str (Str.ofString "row") 238, Value.str (Str.ofString "part") 239] }
noncomputable def o90 : Obj := { cls := Value.none, data := Data.func { name := Str.ofString "whole_text", qualname := Str.ofString "whole_text", params := fdP (stm 7), body := FuncBody.stmts (fdB (stm 7)), scope := fdS (stm 7), globals := 0, closure := [], defaults := Value.none, kwdefaults := Value.none } }
noncomputable def o91 : Obj := { cls := Value.type "code", data := Data.fields #[Value.str (Str.ofString "whole_text") 233, Value.str (Str.ofString "whole_text") 234, Value.str (Str.ofString "/claim/cut.py") 235, Value.int 30 0, Value.int 1 0, Value.int 0 0, Value.int 0 0, Value.int 3 0, Value.ref 50, Value.bool true, Value.int 181 0, Value.ref 51, Value.none, Value.ref 52, Value.ref 53, Value.ref 54, Value.int 240 0, Value.int 30 0, Value.str (Str.ofString "/claim/cut.py") 241] }
noncomputable def o92 : Obj := { cls := Value.type "function", data := Data.func { name := Str.ofString "whole_text", qualname := Str.ofString "whole_text", params := fdP (stm 7), body := FuncBody.stmts (fdB (stm 7)), scope := fdS (stm 7), globals := 3, closure := [], defaults := Value.none, kwdefaults := Value.none, pyModule := Value.str (Str.ofString "vectorcove.numtext") 231, code := Value.ref 55 } }
noncomputable def o95 : Obj := { cls := Value.type "tuple", data := Data.seq #[Value.str (Str.ofString "x") 246] }
noncomputable def o97 : Obj := { cls := Value.none, data := Data.func { name := Str.ofString "special_text", qualname := Str.ofString "special_text", params := fdP (stm 8), body := FuncBody.stmts (fdB (stm 8)), scope := fdS (stm 8), globals := 0, closure := [], defaults := Value.none, kwdefaults := Value.none } }
noncomputable def o98 : Obj := { cls := Value.type "code", data := Data.fields #[Value.str (Str.ofString "special_text") 243, Value.str (Str.ofString "special_text") 244, Value.str (Str.ofString "/claim/cut.py") 245, Value.int 41 0, Value.int 1 0, Value.int 0 0, Value.int 0 0, Value.int 3 0, Value.ref 57, Value.bool true, Value.int 181 0, Value.ref 58, Value.none, Value.ref 59, Value.ref 60, Value.ref 61, Value.int 247 0, Value.int 41 0, Value.str (Str.ofString "/claim/cut.py") 248] }
noncomputable def o99 : Obj := { cls := Value.type "function", data := Data.func { name := Str.ofString "special_text", qualname := Str.ofString "special_text", params := fdP (stm 8), body := FuncBody.stmts (fdB (stm 8)), scope := fdS (stm 8), globals := 3, closure := [], defaults := Value.none, kwdefaults := Value.none, pyModule := Value.str (Str.ofString "vectorcove.numtext") 231, code := Value.ref 62 } }
noncomputable def o102 : Obj := { cls := Value.type "tuple", data := Data.seq #[Value.str (Str.ofString "x") 253, Value.str (Str.ofString "e") 254, Value.str (Str.ofString "digits") 255, Value.str (Str.ofString "shift") 256] }
noncomputable def o104 : Obj := { cls := Value.none, data := Data.func { name := Str.ofString "scaled", qualname := Str.ofString "scaled", params := fdP (stm 9), body := FuncBody.stmts (fdB (stm 9)), scope := fdS (stm 9), globals := 0, closure := [], defaults := Value.none, kwdefaults := Value.none } }
noncomputable def o105 : Obj := { cls := Value.type "code", data := Data.fields #[Value.str (Str.ofString "scaled") 250, Value.str (Str.ofString "scaled") 251, Value.str (Str.ofString "/claim/cut.py") 252, Value.int 49 0, Value.int 3 0, Value.int 0 0, Value.int 0 0, Value.int 3 0, Value.ref 64, Value.bool true, Value.int 181 0, Value.ref 65, Value.none, Value.ref 66, Value.ref 67, Value.ref 68, Value.int 257 0, Value.int 49 0, Value.str (Str.ofString "/claim/cut.py") 258] }
noncomputable def o106 : Obj := { cls := Value.type "function", data := Data.func { name := Str.ofString "scaled", qualname := Str.ofString "scaled", params := fdP (stm 9), body := FuncBody.stmts (fdB (stm 9)), scope := fdS (stm 9), globals := 3, closure := [], defaults := Value.none, kwdefaults := Value.none, pyModule := Value.str (Str.ofString "vectorcove.numtext") 231, code := Value.ref 69 } }
noncomputable def o109 : Obj := { cls := Value.type "tuple", data := Data.seq #[Value.str (Str.ofString "x") 263, Value.str (Str.ofString "digits") 264, Value.str (Str.ofString "e") 265, Value.str (Str.ofString "n") 266] }
noncomputable def o111 : Obj := { cls := Value.none, data := Data.func { name := Str.ofString "significant", qualname := Str.ofString "significant", params := fdP (stm 10), body := FuncBody.stmts (fdB (stm 10)), scope := fdS (stm 10), globals := 0, closure := [], defaults := Value.none, kwdefaults := Value.none } }
noncomputable def o112 : Obj := { cls := Value.type "code", data := Data.fields #[Value.str (Str.ofString "significant") 260, Value.str (Str.ofString "significant") 261, Value.str (Str.ofString "/claim/cut.py") 262, Value.int 54 0, Value.int 2 0, Value.int 0 0, Value.int 0 0, Value.int 3 0, Value.ref 71, Value.bool true, Value.int 181 0, Value.ref 72, Value.none, Value.ref 73, Value.ref 74, Value.ref 75, Value.int 267 0, Value.int 54 0, Value.str (Str.ofString "/claim/cut.py") 268] }
noncomputable def o113 : Obj := { cls := Value.type "function", data := Data.func { name := Str.ofString "significant", qualname := Str.ofString "significant", params := fdP (stm 10), body := FuncBody.stmts (fdB (stm 10)), scope := fdS (stm 10), globals := 3, closure := [], defaults := Value.none, kwdefaults := Value.none, pyModule := Value.str (Str.ofString "vectorcove.numtext") 231, code := Value.ref 76 } }
noncomputable def o116 : Obj := { cls := Value.type "tuple", data := Data.seq #[Value.str (Str.ofString "text") 273, Value.str (Str.ofString "end") 274] }
noncomputable def o118 : Obj := { cls := Value.none, data := Data.func { name := Str.ofString "without_tail", qualname := Str.ofString "without_tail", params := fdP (stm 11), body := FuncBody.stmts (fdB (stm 11)), scope := fdS (stm 11), globals := 0, closure := [], defaults := Value.none, kwdefaults := Value.none } }
noncomputable def o119 : Obj := { cls := Value.type "code", data := Data.fields #[Value.str (Str.ofString "without_tail") 270, Value.str (Str.ofString "without_tail") 271, Value.str (Str.ofString "/claim/cut.py") 272, Value.int 63 0, Value.int 1 0, Value.int 0 0, Value.int 0 0, Value.int 3 0, Value.ref 78, Value.bool true, Value.int 181 0, Value.ref 79, Value.none, Value.ref 80, Value.ref 81, Value.ref 82, Value.int 275 0, Value.int 63 0, Value.str (Str.ofString "/claim/cut.py") 276] }
noncomputable def o120 : Obj := { cls := Value.type "function", data := Data.func { name := Str.ofString "without_tail", qualname := Str.ofString "without_tail", params := fdP (stm 11), body := FuncBody.stmts (fdB (stm 11)), scope := fdS (stm 11), globals := 3, closure := [], defaults := Value.none, kwdefaults := Value.none, pyModule := Value.str (Str.ofString "vectorcove.numtext") 231, code := Value.ref 83 } }
noncomputable def o123 : Obj := { cls := Value.type "tuple", data := Data.seq #[Value.str (Str.ofString "x") 281, Value.str (Str.ofString "digits") 282, Value.str (Str.ofString "side") 283, Value.str (Str.ofString "text") 284, Value.str (Str.ofString "e") 285, Value.str (Str.ofString "row") 286] }
noncomputable def o125 : Obj := { cls := Value.none, data := Data.func { name := Str.ofString "scientific_text", qualname := Str.ofString "scientific_text", params := fdP (stm 12), body := FuncBody.stmts (fdB (stm 12)), scope := fdS (stm 12), globals := 0, closure := [], defaults := Value.none, kwdefaults := Value.none } }
noncomputable def o126 : Obj := { cls := Value.type "code", data := Data.fields #[Value.str (Str.ofString "scientific_text") 278, Value.str (Str.ofString "scientific_text") 279, Value.str (Str.ofString "/claim/cut.py") 280, Value.int 68 0, Value.int 2 0, Value.int 0 0, Value.int 0 0, Value.int 3 0, Value.ref 85, Value.bool true, Value.int 181 0, Value.ref 86, Value.none, Value.ref 87, Value.ref 88, Value.ref 89, Value.int 287 0, Value.int 68 0, Value.str (Str.ofString "/claim/cut.py") 288] }
noncomputable def o127 : Obj := { cls := Value.type "function", data := Data.func { name := Str.ofString "scientific_text", qualname := Str.ofString "scientific_text", params := fdP (stm 12), body := FuncBody.stmts (fdB (stm 12)), scope := fdS (stm 12), globals := 3, closure := [], defaults := Value.none, kwdefaults := Value.none, pyModule := Value.str (Str.ofString "vectorcove.numtext") 231, code := Value.ref 90 } }
noncomputable def o130 : Obj := { cls := Value.type "tuple", data := Data.seq #[Value.str (Str.ofString "x") 293, Value.str (Str.ofString "places") 294, Value.str (Str.ofString "n") 295, Value.str (Str.ofString "text") 296] }
noncomputable def o132 : Obj := { cls := Value.none, data := Data.func { name := Str.ofString "fixed_text", qualname := Str.ofString "fixed_text", params := fdP (stm 13), body := FuncBody.stmts (fdB (stm 13)), scope := fdS (stm 13), globals := 0, closure := [], defaults := Value.none, kwdefaults := Value.none } }
noncomputable def o133 : Obj := { cls := Value.type "code", data := Data.fields #[Value.str (Str.ofString "fixed_text") 290, Value.str (Str.ofString "fixed_text") 291, Value.str (Str.ofString "/claim/cut.py") 292, Value.int 75 0, Value.int 2 0, Value.int 0 0, Value.int 0 0, Value.int 3 0, Value.ref 92, Value.bool true, Value.int 181 0, Value.ref 93, Value.none, Value.ref 94, Value.ref 95, Value.ref 96, Value.int 297 0, Value.int 75 0, Value.str (Str.ofString "/claim/cut.py") 298] }
noncomputable def o134 : Obj := { cls := Value.type "function", data := Data.func { name := Str.ofString "fixed_text", qualname := Str.ofString "fixed_text", params := fdP (stm 13), body := FuncBody.stmts (fdB (stm 13)), scope := fdS (stm 13), globals := 3, closure := [], defaults := Value.none, kwdefaults := Value.none, pyModule := Value.str (Str.ofString "vectorcove.numtext") 231, code := Value.ref 97 } }
noncomputable def o135 (P : Params) : Obj := { cls := Value.type "dict", data := Data.dict #[{ hash := PyData.keyHash P (Str.ofString "__name__"), key := Value.str (Str.ofString "__name__") 165, val := Value.str (Str.ofString "vectorcove.values") 354 }, { hash := PyData.keyHash P (Str.ofString "__doc__"), key := Value.str (Str.ofString "__doc__") 166, val := Value.none }, { hash := PyData.keyHash P (Str.ofString "__package__"), key := Value.str (Str.ofString "__package__") 167, val := Value.none }, { hash := PyData.keyHash P (Str.ofString "__loader__"), key := Value.str (Str.ofString "__loader__") 168, val := Value.builtin "__main__.__loader__#opaque" }, { hash := PyData.keyHash P (Str.ofString "__spec__"), key := Value.str (Str.ofString "__spec__") 169, val := Value.none }, { hash := PyData.keyHash P (Str.ofString "__annotations__"), key := Value.str (Str.ofString "__annotations__") 170, val := Value.ref 6 }, { hash := PyData.keyHash P (Str.ofString "__builtins__"), key := Value.str (Str.ofString "__builtins__") 171, val := Value.ref 4 }, { hash := PyData.keyHash P (Str.ofString "__file__"), key := Value.str (Str.ofString "__file__") 173, val := Value.str (Str.ofString "/claim/cut.py") 172 }, { hash := PyData.keyHash P (Str.ofString "__cached__"), key := Value.str (Str.ofString "__cached__") 174, val := Value.none }, { hash := PyData.keyHash P (Str.ofString "_wall"), key := Value.str (Str.ofString "_wall") 193, val := Value.ref 21 }, { hash := PyData.keyHash P (Str.ofString "is_finite"), key := Value.str (Str.ofString "is_finite") 202, val := Value.ref 28 }, { hash := PyData.keyHash P (Str.ofString "to_whole"), key := Value.str (Str.ofString "to_whole") 210, val := Value.ref 35 }, { hash := PyData.keyHash P (Str.ofString "nearest_whole"), key := Value.str (Str.ofString "nearest_whole") 220, val := Value.ref 42 }, { hash := PyData.keyHash P (Str.ofString "exponent"), key := Value.str (Str.ofString "exponent") 230, val := Value.ref 49 }, { hash := PyData.keyHash P (Str.ofString "whole_text"), key := Value.str (Str.ofString "whole_text") 242, val := Value.ref 56 }, { hash := PyData.keyHash P (Str.ofString "special_text"), key := Value.str (Str.ofString "special_text") 249, val := Value.ref 63 }, { hash := PyData.keyHash P (Str.ofString "scaled"), key := Value.str (Str.ofString "scaled") 259, val := Value.ref 70 }, { hash := PyData.keyHash P (Str.ofString "significant"), key := Value.str (Str.ofString "significant") 269, val := Value.ref 77 }, { hash := PyData.keyHash P (Str.ofString "without_tail"), key := Value.str (Str.ofString "without_tail") 277, val := Value.ref 84 }, { hash := PyData.keyHash P (Str.ofString "scientific_text"), key := Value.str (Str.ofString "scientific_text") 289, val := Value.ref 91 }, { hash := PyData.keyHash P (Str.ofString "fixed_text"), key := Value.str (Str.ofString "fixed_text") 299, val := Value.ref 98 }, { hash := PyData.keyHash P (Str.ofString "measures"), key := Value.str (Str.ofString "measures") 312, val := Value.ref 105 }, { hash := PyData.keyHash P (Str.ofString "chosen_form"), key := Value.str (Str.ofString "chosen_form") 329, val := Value.ref 112 }, { hash := PyData.keyHash P (Str.ofString "formed"), key := Value.str (Str.ofString "formed") 338, val := Value.ref 119 }, { hash := PyData.keyHash P (Str.ofString "common_texts"), key := Value.str (Str.ofString "common_texts") 344, val := Value.ref 124 }, { hash := PyData.keyHash P (Str.ofString "number_text"), key := Value.str (Str.ofString "number_text") 353, val := Value.ref 132 }, { hash := PyData.keyHash P (Str.ofString "Null"), key := Value.str (Str.ofString "Null") 384, val := Value.ref 149 }] 27 }
noncomputable def o136 : Obj := { cls := Value.none, data := Data.fields #[Value.int 1 0, Value.int 0 0, Value.ref 20, Value.int 5 0, Value.int 0 0, Value.ref 27, Value.int 7 0, Value.int 0 0, Value.ref 34, Value.int 12 0, Value.int 0 0, Value.ref 41, Value.int 18 0, Value.int 0 0, Value.ref 48, Value.int 30 0, Value.int 0 0, Value.ref 55, Value.int 41 0, Value.int 0 0, Value.ref 62, Value.int 49 0, Value.int 0 0, Value.ref 69, Value.int 54 0, Value.int 0 0, Value.ref 76, Value.int 63 0, Value.int 0 0, Value.ref 83, Value.int 68 0, Value.int 0 0, Value.ref 90, Value.int 75 0, Value.int 0 0, Value.ref 97, Value.int 83 0, Value.int 0 0, Value.ref 104, Value.int 90 0, Value.int 0 0, Value.ref 111, Value.int 110 0, Value.int 0 0, Value.ref 118, Value.int 117 0, Value.int 0 0, Value.ref 123, Value.int 121 0, Value.int 0 0, Value.ref 131, Value.int 124 0, Value.int 0 0, Value.ref 138] }
noncomputable def o139 : Obj := { cls := Value.type "tuple", data := Data.seq #[Value.str (Str.ofString "x") 303, Value.str (Str.ofString "digits") 304, Value.str (Str.ofString "side") 305, Value.str (Str.ofString "text") 306, Value.str (Str.ofString "e") 307, Value.str (Str.ofString "count") 308, Value.str (Str.ofString "left") 309] }
noncomputable def o141 : Obj := { cls := Value.none, data := Data.func { name := Str.ofString "measures", qualname := Str.ofString "measures", params := fdP (stm 14), body := FuncBody.stmts (fdB (stm 14)), scope := fdS (stm 14), globals := 0, closure := [], defaults := Value.none, kwdefaults := Value.none } }
noncomputable def o142 : Obj := { cls := Value.type "code", data := Data.fields #[Value.str (Str.ofString "measures") 300, Value.str (Str.ofString "measures") 301, Value.str (Str.ofString "/claim/cut.py") 302, Value.int 83 0, Value.int 2 0, Value.int 0 0, Value.int 0 0, Value.int 3 0, Value.ref 99, Value.bool true, Value.int 181 0, Value.ref 100, Value.none, Value.ref 101, Value.ref 102, Value.ref 103, Value.int 310 0, Value.int 83 0, Value.str (Str.ofString "/claim/cut.py") 311] }
noncomputable def o143 : Obj := { cls := Value.type "function", data := Data.func { name := Str.ofString "measures", qualname := Str.ofString "measures", params := fdP (stm 14), body := FuncBody.stmts (fdB (stm 14)), scope := fdS (stm 14), globals := 3, closure := [], defaults := Value.none, kwdefaults := Value.none, pyModule := Value.str (Str.ofString "vectorcove.numtext") 231, code := Value.ref 104 } }
noncomputable def o146 : Obj := { cls := Value.type "tuple", data := Data.seq #[Value.str (Str.ofString "xs") 316, Value.str (Str.ofString "digits") 317, Value.str (Str.ofString "count") 318, Value.str (Str.ofString "left") 319, Value.str (Str.ofString "places") 320, Value.str (Str.ofString "wide") 321, Value.str (Str.ofString "minus") 322, Value.str (Str.ofString "x") 323, Value.str (Str.ofString "row") 324, Value.str (Str.ofString "fixed_width") 325, Value.str (Str.ofString "scientific_width") 326] }
noncomputable def o148 : Obj := { cls := Value.none, data := Data.func { name := Str.ofString "chosen_form", qualname := Str.ofString "chosen_form", params := fdP (stm 15), body := FuncBody.stmts (fdB (stm 15)), scope := fdS (stm 15), globals := 0, closure := [], defaults := Value.none, kwdefaults := Value.none } }
noncomputable def o149 : Obj := { cls := Value.type "code", data := Data.fields #[Value.str (Str.ofString "chosen_form") 313, Value.str (Str.ofString "chosen_form") 314, Value.str (Str.ofString "/claim/cut.py") 315, Value.int 90 0, Value.int 2 0, Value.int 0 0, Value.int 0 0, Value.int 3 0, Value.ref 106, Value.bool true, Value.int 181 0, Value.ref 107, Value.none, Value.ref 108, Value.ref 109, Value.ref 110, Value.int 327 0, Value.int 90 0, Value.str (Str.ofString "/claim/cut.py") 328] }
noncomputable def o150 : Obj := { cls := Value.type "function", data := Data.func { name := Str.ofString "chosen_form", qualname := Str.ofString "chosen_form", params := fdP (stm 15), body := FuncBody.stmts (fdB (stm 15)), scope := fdS (stm 15), globals := 3, closure := [], defaults := Value.none, kwdefaults := Value.none, pyModule := Value.str (Str.ofString "vectorcove.numtext") 231, code := Value.ref 111 } }
noncomputable def o153 : Obj := { cls := Value.type "tuple", data := Data.seq #[Value.str (Str.ofString "x") 333, Value.str (Str.ofString "form") 334, Value.str (Str.ofString "text") 335] }
noncomputable def o155 : Obj := { cls := Value.none, data := Data.func { name := Str.ofString "formed", qualname := Str.ofString "formed", params := fdP (stm 16), body := FuncBody.stmts (fdB (stm 16)), scope := fdS (stm 16), globals := 0, closure := [], defaults := Value.none, kwdefaults := Value.none } }
noncomputable def o156 : Obj := { cls := Value.type "code", data := Data.fields #[Value.str (Str.ofString "formed") 330, Value.str (Str.ofString "formed") 331, Value.str (Str.ofString "/claim/cut.py") 332, Value.int 110 0, Value.int 2 0, Value.int 0 0, Value.int 0 0, Value.int 3 0, Value.ref 113, Value.bool true, Value.int 181 0, Value.ref 114, Value.none, Value.ref 115, Value.ref 116, Value.ref 117, Value.int 336 0, Value.int 110 0, Value.str (Str.ofString "/claim/cut.py") 337] }
noncomputable def o157 : Obj := { cls := Value.type "function", data := Data.func { name := Str.ofString "formed", qualname := Str.ofString "formed", params := fdP (stm 16), body := FuncBody.stmts (fdB (stm 16)), scope := fdS (stm 16), globals := 3, closure := [], defaults := Value.none, kwdefaults := Value.none, pyModule := Value.str (Str.ofString "vectorcove.numtext") 231, code := Value.ref 118 } }
noncomputable def o160 : Obj := { cls := Value.none, data := Data.func { name := Str.ofString "common_texts", qualname := Str.ofString "common_texts", params := fdP (stm 17), body := FuncBody.stmts (fdB (stm 17)), scope := fdS (stm 17), globals := 0, closure := [], defaults := Value.none, kwdefaults := Value.none } }
noncomputable def o161 : Obj := { cls := Value.type "code", data := Data.fields #[Value.str (Str.ofString "common_texts") 339, Value.str (Str.ofString "common_texts") 340, Value.str (Str.ofString "/claim/cut.py") 341, Value.int 117 0, Value.int 2 0, Value.int 0 0, Value.int 0 0, Value.int 3 0, Value.ref 120, Value.bool true, Value.int 181 0, Value.ref 121, Value.none, Value.none, Value.none, Value.ref 122, Value.int 342 0, Value.int 117 0, Value.str (Str.ofString "/claim/cut.py") 343] }
noncomputable def o162 : Obj := { cls := Value.type "function", data := Data.func { name := Str.ofString "common_texts", qualname := Str.ofString "common_texts", params := fdP (stm 17), body := FuncBody.stmts (fdB (stm 17)), scope := fdS (stm 17), globals := 3, closure := [], defaults := Value.none, kwdefaults := Value.none, pyModule := Value.str (Str.ofString "vectorcove.numtext") 231, code := Value.ref 123 } }
noncomputable def o163 : Obj := { cls := Value.type "tuple", data := Data.seq #[Value.int 7 345] }
noncomputable def o164 : Obj := { cls := Value.type "tuple", data := Data.seq #[] }
noncomputable def o166 : Obj := { cls := Value.type "tuple", data := Data.seq #[Value.str (Str.ofString "x") 349, Value.str (Str.ofString "digits") 350] }
noncomputable def o168 : Obj := { cls := Value.none, data := Data.func { name := Str.ofString "number_text", qualname := Str.ofString "number_text", params := fdP (stm 18), body := FuncBody.stmts (fdB (stm 18)), scope := fdS (stm 18), globals := 0, closure := [], defaults := Value.none, kwdefaults := Value.none } }
noncomputable def o169 : Obj := { cls := Value.type "code", data := Data.fields #[Value.str (Str.ofString "number_text") 346, Value.str (Str.ofString "number_text") 347, Value.str (Str.ofString "/claim/cut.py") 348, Value.int 121 0, Value.int 2 0, Value.int 0 0, Value.int 0 0, Value.int 3 0, Value.ref 126, Value.bool true, Value.int 181 0, Value.ref 127, Value.none, Value.ref 128, Value.ref 129, Value.ref 130, Value.int 351 0, Value.int 121 0, Value.str (Str.ofString "/claim/cut.py") 352] }
noncomputable def o170 : Obj := { cls := Value.type "function", data := Data.func { name := Str.ofString "number_text", qualname := Str.ofString "number_text", params := fdP (stm 18), body := FuncBody.stmts (fdB (stm 18)), scope := fdS (stm 18), globals := 3, closure := [], defaults := Value.ref 125, kwdefaults := Value.none, pyModule := Value.str (Str.ofString "vectorcove.numtext") 231, code := Value.ref 131 } }
noncomputable def o173 (P : Params) : Obj := { cls := Value.type "dict", data := Data.dict #[{ hash := PyData.keyHash P (Str.ofString "__module__"), key := Value.str (Str.ofString "__module__") 363, val := Value.str (Str.ofString "vectorcove.values") 354 }, { hash := PyData.keyHash P (Str.ofString "__qualname__"), key := Value.str (Str.ofString "__qualname__") 365, val := Value.str (Str.ofString "Null") 364 }, { hash := PyData.keyHash P (Str.ofString "__firstlineno__"), key := Value.str (Str.ofString "__firstlineno__") 367, val := Value.int 124 366 }, { hash := PyData.keyHash P (Str.ofString "__init__"), key := Value.str (Str.ofString "__init__") 374, val := Value.ref 146 }, { hash := PyData.keyHash P (Str.ofString "__static_attributes__"), key := Value.str (Str.ofString "__static_attributes__") 377, val := Value.ref 147 }] 5 }
noncomputable def o175 : Obj := { cls := Value.none, data := Data.fields #[Value.int 126 0, Value.int 4 0, Value.ref 145] }
noncomputable def o176 : Obj := { cls := Value.type "code", data := Data.fields #[Value.str (Str.ofString "Null") 358, Value.str (Str.ofString "Null") 359, Value.str (Str.ofString "/claim/cut.py") 360, Value.int 124 0, Value.int 0 0, Value.int 0 0, Value.int 0 0, Value.int 0 0, Value.ref 136, Value.bool false, Value.int 181 0, Value.ref 137, Value.none, Value.none, Value.none, Value.none, Value.int 361 0, Value.int 124 0, Value.str (Str.ofString "/claim/cut.py") 362] }
noncomputable def o177 : Obj := { cls := Value.type "frame", slots := #[some (Value.ref 138), some (Value.ref 3), some (Value.ref 135), none, some (Value.str (Str.ofString "vectorcove.values") 354), none, some (Value.ref 0)] }
noncomputable def o180 : Obj := { cls := Value.type "tuple", data := Data.seq #[Value.str (Str.ofString "self") 371] }
noncomputable def o182 : Obj := { cls := Value.none, data := Data.func { name := Str.ofString "__init__", qualname := Str.ofString "Null.__init__", params := fdP (sub (stm 20) 0), body := FuncBody.stmts (fdB (sub (stm 20) 0)), scope := fdS (sub (stm 20) 0), globals := 0, closure := [], defaults := Value.none, kwdefaults := Value.none } }
noncomputable def o183 : Obj := { cls := Value.type "code", data := Data.fields #[Value.str (Str.ofString "__init__") 368, Value.str (Str.ofString "Null.__init__") 369, Value.str (Str.ofString "/claim/cut.py") 370, Value.int 126 0, Value.int 1 0, Value.int 0 0, Value.int 0 0, Value.int 3 0, Value.ref 140, Value.bool true, Value.int 181 0, Value.ref 141, Value.none, Value.ref 142, Value.ref 143, Value.ref 144, Value.int 372 0, Value.int 126 0, Value.str (Str.ofString "/claim/cut.py") 373] }
noncomputable def o184 : Obj := { cls := Value.type "function", data := Data.func { name := Str.ofString "__init__", qualname := Str.ofString "Null.__init__", params := fdP (sub (stm 20) 0), body := FuncBody.stmts (fdB (sub (stm 20) 0)), scope := fdS (sub (stm 20) 0), globals := 3, closure := [], defaults := Value.none, kwdefaults := Value.none, pyModule := Value.str (Str.ofString "vectorcove.values") 354, code := Value.ref 145 } }
noncomputable def o185 : Obj := { cls := Value.type "tuple", data := Data.seq #[Value.str (Str.ofString "attrs") 375, Value.str (Str.ofString "kind") 376] }
noncomputable def o186 (P : Params) : Obj := { cls := Value.type "dict", data := Data.dict #[{ hash := PyData.keyHash P (Str.ofString "__module__"), key := Value.str (Str.ofString "__module__") 363, val := Value.str (Str.ofString "vectorcove.values") 354 }, { hash := PyData.keyHash P (Str.ofString "__firstlineno__"), key := Value.str (Str.ofString "__firstlineno__") 367, val := Value.int 124 366 }, { hash := PyData.keyHash P (Str.ofString "__init__"), key := Value.str (Str.ofString "__init__") 374, val := Value.ref 146 }, { hash := PyData.keyHash P (Str.ofString "__static_attributes__"), key := Value.str (Str.ofString "__static_attributes__") 377, val := Value.ref 147 }, { hash := PyData.keyHash P (Str.ofString "__dict__"), key := Value.str (Str.ofString "__dict__") 379, val := Value.ref 150 }, { hash := PyData.keyHash P (Str.ofString "__weakref__"), key := Value.str (Str.ofString "__weakref__") 381, val := Value.ref 151 }, { hash := PyData.keyHash P (Str.ofString "__doc__"), key := Value.str (Str.ofString "__doc__") 382, val := Value.none }] 4 }
noncomputable def o187 : Obj := { cls := Value.type "type", data := Data.cls { name := Str.ofString "Null", bases := [Value.type "object"], mro := [Value.ref 149, Value.type "object"], ns := 148, qualname := Str.ofString "Null" }, slots := #[none, none, some (Value.str (Str.ofString "Null") 356), some (Value.str (Str.ofString "Null") 364), some (Value.builtin "object.__new__"), some (Value.bool true)] }
noncomputable def o188 : Obj := { cls := Value.type "getset_descriptor", data := Data.fields #[Value.str (Str.ofString "__dict__") 378, Value.ref 149, Value.builtin "function.__dict__", Value.builtin "function.__dict__#set"] }
noncomputable def o189 : Obj := { cls := Value.type "getset_descriptor", data := Data.fields #[Value.str (Str.ofString "__weakref__") 380, Value.ref 149, Value.builtin "ExceptionGroup.__weakref__", Value.none] }
noncomputable def o190 : Obj := { cls := Value.type "super", data := Data.fields #[Value.ref 149, Value.ref 149, Value.ref 149] }
noncomputable def o191 : Obj := { cls := Value.type "builtin_function_or_method", data := Data.fields #[Value.builtin "object.__init_subclass__", Value.ref 149] }
noncomputable def o192 (P : Params) : Obj := { cls := Value.type "dict", data := Data.dict #[{ hash := PyData.keyHash P (Str.ofString "__name__"), key := Value.str (Str.ofString "__name__") 165, val := Value.str (Str.ofString "vectorcove.values") 354 }, { hash := PyData.keyHash P (Str.ofString "__doc__"), key := Value.str (Str.ofString "__doc__") 166, val := Value.none }, { hash := PyData.keyHash P (Str.ofString "__package__"), key := Value.str (Str.ofString "__package__") 167, val := Value.none }, { hash := PyData.keyHash P (Str.ofString "__loader__"), key := Value.str (Str.ofString "__loader__") 168, val := Value.builtin "__main__.__loader__#opaque" }, { hash := PyData.keyHash P (Str.ofString "__spec__"), key := Value.str (Str.ofString "__spec__") 169, val := Value.none }, { hash := PyData.keyHash P (Str.ofString "__annotations__"), key := Value.str (Str.ofString "__annotations__") 170, val := Value.ref 6 }, { hash := PyData.keyHash P (Str.ofString "__builtins__"), key := Value.str (Str.ofString "__builtins__") 171, val := Value.ref 4 }, { hash := PyData.keyHash P (Str.ofString "__file__"), key := Value.str (Str.ofString "__file__") 173, val := Value.str (Str.ofString "/claim/cut.py") 172 }, { hash := PyData.keyHash P (Str.ofString "__cached__"), key := Value.str (Str.ofString "__cached__") 174, val := Value.none }, { hash := PyData.keyHash P (Str.ofString "_wall"), key := Value.str (Str.ofString "_wall") 193, val := Value.ref 21 }, { hash := PyData.keyHash P (Str.ofString "is_finite"), key := Value.str (Str.ofString "is_finite") 202, val := Value.ref 28 }, { hash := PyData.keyHash P (Str.ofString "to_whole"), key := Value.str (Str.ofString "to_whole") 210, val := Value.ref 35 }, { hash := PyData.keyHash P (Str.ofString "nearest_whole"), key := Value.str (Str.ofString "nearest_whole") 220, val := Value.ref 42 }, { hash := PyData.keyHash P (Str.ofString "exponent"), key := Value.str (Str.ofString "exponent") 230, val := Value.ref 49 }, { hash := PyData.keyHash P (Str.ofString "whole_text"), key := Value.str (Str.ofString "whole_text") 242, val := Value.ref 56 }, { hash := PyData.keyHash P (Str.ofString "special_text"), key := Value.str (Str.ofString "special_text") 249, val := Value.ref 63 }, { hash := PyData.keyHash P (Str.ofString "scaled"), key := Value.str (Str.ofString "scaled") 259, val := Value.ref 70 }, { hash := PyData.keyHash P (Str.ofString "significant"), key := Value.str (Str.ofString "significant") 269, val := Value.ref 77 }, { hash := PyData.keyHash P (Str.ofString "without_tail"), key := Value.str (Str.ofString "without_tail") 277, val := Value.ref 84 }, { hash := PyData.keyHash P (Str.ofString "scientific_text"), key := Value.str (Str.ofString "scientific_text") 289, val := Value.ref 91 }, { hash := PyData.keyHash P (Str.ofString "fixed_text"), key := Value.str (Str.ofString "fixed_text") 299, val := Value.ref 98 }, { hash := PyData.keyHash P (Str.ofString "measures"), key := Value.str (Str.ofString "measures") 312, val := Value.ref 105 }, { hash := PyData.keyHash P (Str.ofString "chosen_form"), key := Value.str (Str.ofString "chosen_form") 329, val := Value.ref 112 }, { hash := PyData.keyHash P (Str.ofString "formed"), key := Value.str (Str.ofString "formed") 338, val := Value.ref 119 }, { hash := PyData.keyHash P (Str.ofString "common_texts"), key := Value.str (Str.ofString "common_texts") 344, val := Value.ref 124 }, { hash := PyData.keyHash P (Str.ofString "number_text"), key := Value.str (Str.ofString "number_text") 353, val := Value.ref 132 }, { hash := PyData.keyHash P (Str.ofString "Null"), key := Value.str (Str.ofString "Null") 384, val := Value.ref 149 }, { hash := PyData.keyHash P (Str.ofString "Vector"), key := Value.str (Str.ofString "Vector") 426, val := Value.ref 178 }, { hash := PyData.keyHash P (Str.ofString "integer"), key := Value.str (Str.ofString "integer") 433, val := Value.ref 189 }, { hash := PyData.keyHash P (Str.ofString "character"), key := Value.str (Str.ofString "character") 440, val := Value.ref 196 }, { hash := PyData.keyHash P (Str.ofString "is_vector"), key := Value.str (Str.ofString "is_vector") 447, val := Value.ref 203 }, { hash := PyData.keyHash P (Str.ofString "is_atomic"), key := Value.str (Str.ofString "is_atomic") 454, val := Value.ref 210 }] 32 }
noncomputable def o193 : Obj := { cls := Value.none, data := Data.fields #[Value.int 1 0, Value.int 0 0, Value.ref 20, Value.int 5 0, Value.int 0 0, Value.ref 27, Value.int 7 0, Value.int 0 0, Value.ref 34, Value.int 12 0, Value.int 0 0, Value.ref 41, Value.int 18 0, Value.int 0 0, Value.ref 48, Value.int 30 0, Value.int 0 0, Value.ref 55, Value.int 41 0, Value.int 0 0, Value.ref 62, Value.int 49 0, Value.int 0 0, Value.ref 69, Value.int 54 0, Value.int 0 0, Value.ref 76, Value.int 63 0, Value.int 0 0, Value.ref 83, Value.int 68 0, Value.int 0 0, Value.ref 90, Value.int 75 0, Value.int 0 0, Value.ref 97, Value.int 83 0, Value.int 0 0, Value.ref 104, Value.int 90 0, Value.int 0 0, Value.ref 111, Value.int 110 0, Value.int 0 0, Value.ref 118, Value.int 117 0, Value.int 0 0, Value.ref 123, Value.int 121 0, Value.int 0 0, Value.ref 131, Value.int 124 0, Value.int 0 0, Value.ref 138, Value.int 129 0, Value.int 0 0, Value.ref 159, Value.int 140 0, Value.int 0 0, Value.ref 188, Value.int 142 0, Value.int 0 0, Value.ref 195, Value.int 144 0, Value.int 0 0, Value.ref 202, Value.int 146 0, Value.int 0 0, Value.ref 209] }
noncomputable def o196 (P : Params) : Obj := { cls := Value.type "dict", data := Data.dict #[{ hash := PyData.keyHash P (Str.ofString "__module__"), key := Value.str (Str.ofString "__module__") 392, val := Value.str (Str.ofString "vectorcove.values") 354 }, { hash := PyData.keyHash P (Str.ofString "__qualname__"), key := Value.str (Str.ofString "__qualname__") 394, val := Value.str (Str.ofString "Vector") 393 }, { hash := PyData.keyHash P (Str.ofString "__firstlineno__"), key := Value.str (Str.ofString "__firstlineno__") 396, val := Value.int 129 395 }, { hash := PyData.keyHash P (Str.ofString "__init__"), key := Value.str (Str.ofString "__init__") 406, val := Value.ref 168 }, { hash := PyData.keyHash P (Str.ofString "copy"), key := Value.str (Str.ofString "copy") 413, val := Value.ref 175 }, { hash := PyData.keyHash P (Str.ofString "__static_attributes__"), key := Value.str (Str.ofString "__static_attributes__") 419, val := Value.ref 176 }] 6 }
noncomputable def o198 : Obj := { cls := Value.none, data := Data.fields #[Value.int 131 0, Value.int 4 0, Value.ref 167, Value.int 138 0, Value.int 4 0, Value.ref 174] }
noncomputable def o199 : Obj := { cls := Value.type "code", data := Data.fields #[Value.str (Str.ofString "Vector") 387, Value.str (Str.ofString "Vector") 388, Value.str (Str.ofString "/claim/cut.py") 389, Value.int 129 0, Value.int 0 0, Value.int 0 0, Value.int 0 0, Value.int 0 0, Value.ref 157, Value.bool false, Value.int 181 0, Value.ref 158, Value.none, Value.none, Value.none, Value.none, Value.int 390 0, Value.int 129 0, Value.str (Str.ofString "/claim/cut.py") 391] }
noncomputable def o200 : Obj := { cls := Value.type "frame", slots := #[some (Value.ref 159), some (Value.ref 3), some (Value.ref 156), none, some (Value.str (Str.ofString "vectorcove.values") 354), none, some (Value.ref 0)] }
noncomputable def o201 : Obj := { cls := Value.type "tuple", data := Data.seq #[Value.none] }
noncomputable def o204 : Obj := { cls := Value.type "tuple", data := Data.seq #[Value.str (Str.ofString "self") 400, Value.str (Str.ofString "kind") 401, Value.str (Str.ofString "items") 402, Value.str (Str.ofString "attrs") 403] }
noncomputable def o206 : Obj := { cls := Value.none, data := Data.func { name := Str.ofString "__init__", qualname := Str.ofString "Vector.__init__", params := fdP (sub (stm 21) 0), body := FuncBody.stmts (fdB (sub (stm 21) 0)), scope := fdS (sub (stm 21) 0), globals := 0, closure := [], defaults := Value.none, kwdefaults := Value.none } }
noncomputable def o207 : Obj := { cls := Value.type "code", data := Data.fields #[Value.str (Str.ofString "__init__") 397, Value.str (Str.ofString "Vector.__init__") 398, Value.str (Str.ofString "/claim/cut.py") 399, Value.int 131 0, Value.int 4 0, Value.int 0 0, Value.int 0 0, Value.int 3 0, Value.ref 162, Value.bool true, Value.int 181 0, Value.ref 163, Value.none, Value.ref 164, Value.ref 165, Value.ref 166, Value.int 404 0, Value.int 131 0, Value.str (Str.ofString "/claim/cut.py") 405] }
noncomputable def o208 : Obj := { cls := Value.type "function", data := Data.func { name := Str.ofString "__init__", qualname := Str.ofString "Vector.__init__", params := fdP (sub (stm 21) 0), body := FuncBody.stmts (fdB (sub (stm 21) 0)), scope := fdS (sub (stm 21) 0), globals := 3, closure := [], defaults := Value.ref 161, kwdefaults := Value.none, pyModule := Value.str (Str.ofString "vectorcove.values") 354, code := Value.ref 167 } }
noncomputable def o211 : Obj := { cls := Value.type "tuple", data := Data.seq #[Value.str (Str.ofString "self") 410] }
noncomputable def o213 : Obj := { cls := Value.none, data := Data.func { name := Str.ofString "copy", qualname := Str.ofString "Vector.copy", params := fdP (sub (stm 21) 1), body := FuncBody.stmts (fdB (sub (stm 21) 1)), scope := fdS (sub (stm 21) 1), globals := 0, closure := [], defaults := Value.none, kwdefaults := Value.none } }
noncomputable def o214 : Obj := { cls := Value.type "code", data := Data.fields #[Value.str (Str.ofString "copy") 407, Value.str (Str.ofString "Vector.copy") 408, Value.str (Str.ofString "/claim/cut.py") 409, Value.int 138 0, Value.int 1 0, Value.int 0 0, Value.int 0 0, Value.int 3 0, Value.ref 169, Value.bool true, Value.int 181 0, Value.ref 170, Value.none, Value.ref 171, Value.ref 172, Value.ref 173, Value.int 411 0, Value.int 138 0, Value.str (Str.ofString "/claim/cut.py") 412] }
noncomputable def o215 : Obj := { cls := Value.type "function", data := Data.func { name := Str.ofString "copy", qualname := Str.ofString "Vector.copy", params := fdP (sub (stm 21) 1), body := FuncBody.stmts (fdB (sub (stm 21) 1)), scope := fdS (sub (stm 21) 1), globals := 3, closure := [], defaults := Value.none, kwdefaults := Value.none, pyModule := Value.str (Str.ofString "vectorcove.values") 354, code := Value.ref 174 } }
noncomputable def o216 : Obj := { cls := Value.type "tuple", data := Data.seq #[Value.str (Str.ofString "attrs") 414, Value.str (Str.ofString "items") 415, Value.str (Str.ofString "kind") 416, Value.str (Str.ofString "loose") 417, Value.str (Str.ofString "shared") 418] }
noncomputable def o217 (P : Params) : Obj := { cls := Value.type "dict", data := Data.dict #[{ hash := PyData.keyHash P (Str.ofString "__module__"), key := Value.str (Str.ofString "__module__") 392, val := Value.str (Str.ofString "vectorcove.values") 354 }, { hash := PyData.keyHash P (Str.ofString "__firstlineno__"), key := Value.str (Str.ofString "__firstlineno__") 396, val := Value.int 129 395 }, { hash := PyData.keyHash P (Str.ofString "__init__"), key := Value.str (Str.ofString "__init__") 406, val := Value.ref 168 }, { hash := PyData.keyHash P (Str.ofString "copy"), key := Value.str (Str.ofString "copy") 413, val := Value.ref 175 }, { hash := PyData.keyHash P (Str.ofString "__static_attributes__"), key := Value.str (Str.ofString "__static_attributes__") 419, val := Value.ref 176 }, { hash := PyData.keyHash P (Str.ofString "__dict__"), key := Value.str (Str.ofString "__dict__") 421, val := Value.ref 179 }, { hash := PyData.keyHash P (Str.ofString "__weakref__"), key := Value.str (Str.ofString "__weakref__") 423, val := Value.ref 180 }, { hash := PyData.keyHash P (Str.ofString "__doc__"), key := Value.str (Str.ofString "__doc__") 424, val := Value.none }] 4 }
noncomputable def o218 : Obj := { cls := Value.type "type", data := Data.cls { name := Str.ofString "Vector", bases := [Value.type "object"], mro := [Value.ref 178, Value.type "object"], ns := 177, qualname := Str.ofString "Vector" }, slots := #[none, none, some (Value.str (Str.ofString "Vector") 385), some (Value.str (Str.ofString "Vector") 393), some (Value.builtin "object.__new__"), some (Value.bool true)] }
noncomputable def o219 : Obj := { cls := Value.type "getset_descriptor", data := Data.fields #[Value.str (Str.ofString "__dict__") 420, Value.ref 178, Value.builtin "function.__dict__", Value.builtin "function.__dict__#set"] }
noncomputable def o220 : Obj := { cls := Value.type "getset_descriptor", data := Data.fields #[Value.str (Str.ofString "__weakref__") 422, Value.ref 178, Value.builtin "ExceptionGroup.__weakref__", Value.none] }
noncomputable def o221 : Obj := { cls := Value.type "super", data := Data.fields #[Value.ref 178, Value.ref 178, Value.ref 178] }
noncomputable def o222 : Obj := { cls := Value.type "builtin_function_or_method", data := Data.fields #[Value.builtin "object.__init_subclass__", Value.ref 178] }
noncomputable def o225 : Obj := { cls := Value.type "tuple", data := Data.seq #[Value.str (Str.ofString "items") 430] }
noncomputable def o227 : Obj := { cls := Value.none, data := Data.func { name := Str.ofString "integer", qualname := Str.ofString "integer", params := fdP (stm 22), body := FuncBody.stmts (fdB (stm 22)), scope := fdS (stm 22), globals := 0, closure := [], defaults := Value.none, kwdefaults := Value.none } }
noncomputable def o228 : Obj := { cls := Value.type "code", data := Data.fields #[Value.str (Str.ofString "integer") 427, Value.str (Str.ofString "integer") 428, Value.str (Str.ofString "/claim/cut.py") 429, Value.int 140 0, Value.int 1 0, Value.int 0 0, Value.int 0 0, Value.int 3 0, Value.ref 183, Value.bool true, Value.int 181 0, Value.ref 184, Value.none, Value.ref 185, Value.ref 186, Value.ref 187, Value.int 431 0, Value.int 140 0, Value.str (Str.ofString "/claim/cut.py") 432] }
noncomputable def o229 : Obj := { cls := Value.type "function", data := Data.func { name := Str.ofString "integer", qualname := Str.ofString "integer", params := fdP (stm 22), body := FuncBody.stmts (fdB (stm 22)), scope := fdS (stm 22), globals := 3, closure := [], defaults := Value.none, kwdefaults := Value.none, pyModule := Value.str (Str.ofString "vectorcove.values") 354, code := Value.ref 188 } }
noncomputable def o232 : Obj := { cls := Value.type "tuple", data := Data.seq #[Value.str (Str.ofString "items") 437] }
noncomputable def o234 : Obj := { cls := Value.none, data := Data.func { name := Str.ofString "character", qualname := Str.ofString "character", params := fdP (stm 23), body := FuncBody.stmts (fdB (stm 23)), scope := fdS (stm 23), globals := 0, closure := [], defaults := Value.none, kwdefaults := Value.none } }
noncomputable def o235 : Obj := { cls := Value.type "code", data := Data.fields #[Value.str (Str.ofString "character") 434, Value.str (Str.ofString "character") 435, Value.str (Str.ofString "/claim/cut.py") 436, Value.int 142 0, Value.int 1 0, Value.int 0 0, Value.int 0 0, Value.int 3 0, Value.ref 190, Value.bool true, Value.int 181 0, Value.ref 191, Value.none, Value.ref 192, Value.ref 193, Value.ref 194, Value.int 438 0, Value.int 142 0, Value.str (Str.ofString "/claim/cut.py") 439] }
noncomputable def o236 : Obj := { cls := Value.type "function", data := Data.func { name := Str.ofString "character", qualname := Str.ofString "character", params := fdP (stm 23), body := FuncBody.stmts (fdB (stm 23)), scope := fdS (stm 23), globals := 3, closure := [], defaults := Value.none, kwdefaults := Value.none, pyModule := Value.str (Str.ofString "vectorcove.values") 354, code := Value.ref 195 } }
noncomputable def o239 : Obj := { cls := Value.type "tuple", data := Data.seq #[Value.str (Str.ofString "v") 444] }
noncomputable def o241 : Obj := { cls := Value.none, data := Data.func { name := Str.ofString "is_vector", qualname := Str.ofString "is_vector", params := fdP (stm 24), body := FuncBody.stmts (fdB (stm 24)), scope := fdS (stm 24), globals := 0, closure := [], defaults := Value.none, kwdefaults := Value.none } }
noncomputable def o242 : Obj := { cls := Value.type "code", data := Data.fields #[Value.str (Str.ofString "is_vector") 441, Value.str (Str.ofString "is_vector") 442, Value.str (Str.ofString "/claim/cut.py") 443, Value.int 144 0, Value.int 1 0, Value.int 0 0, Value.int 0 0, Value.int 3 0, Value.ref 197, Value.bool true, Value.int 181 0, Value.ref 198, Value.none, Value.ref 199, Value.ref 200, Value.ref 201, Value.int 445 0, Value.int 144 0, Value.str (Str.ofString "/claim/cut.py") 446] }
noncomputable def o243 : Obj := { cls := Value.type "function", data := Data.func { name := Str.ofString "is_vector", qualname := Str.ofString "is_vector", params := fdP (stm 24), body := FuncBody.stmts (fdB (stm 24)), scope := fdS (stm 24), globals := 3, closure := [], defaults := Value.none, kwdefaults := Value.none, pyModule := Value.str (Str.ofString "vectorcove.values") 354, code := Value.ref 202 } }
noncomputable def o246 : Obj := { cls := Value.type "tuple", data := Data.seq #[Value.str (Str.ofString "v") 451] }
noncomputable def o248 : Obj := { cls := Value.none, data := Data.func { name := Str.ofString "is_atomic", qualname := Str.ofString "is_atomic", params := fdP (stm 25), body := FuncBody.stmts (fdB (stm 25)), scope := fdS (stm 25), globals := 0, closure := [], defaults := Value.none, kwdefaults := Value.none } }
noncomputable def o249 : Obj := { cls := Value.type "code", data := Data.fields #[Value.str (Str.ofString "is_atomic") 448, Value.str (Str.ofString "is_atomic") 449, Value.str (Str.ofString "/claim/cut.py") 450, Value.int 146 0, Value.int 1 0, Value.int 0 0, Value.int 0 0, Value.int 3 0, Value.ref 204, Value.bool true, Value.int 181 0, Value.ref 205, Value.none, Value.ref 206, Value.ref 207, Value.ref 208, Value.int 452 0, Value.int 146 0, Value.str (Str.ofString "/claim/cut.py") 453] }
noncomputable def o250 : Obj := { cls := Value.type "function", data := Data.func { name := Str.ofString "is_atomic", qualname := Str.ofString "is_atomic", params := fdP (stm 25), body := FuncBody.stmts (fdB (stm 25)), scope := fdS (stm 25), globals := 3, closure := [], defaults := Value.none, kwdefaults := Value.none, pyModule := Value.str (Str.ofString "vectorcove.values") 354, code := Value.ref 209 } }
noncomputable def o251 (P : Params) : Obj := { cls := Value.type "dict", data := Data.dict #[{ hash := PyData.keyHash P (Str.ofString "__name__"), key := Value.str (Str.ofString "__name__") 165, val := Value.str (Str.ofString "vectorcove.errors") 522 }, { hash := PyData.keyHash P (Str.ofString "__doc__"), key := Value.str (Str.ofString "__doc__") 166, val := Value.none }, { hash := PyData.keyHash P (Str.ofString "__package__"), key := Value.str (Str.ofString "__package__") 167, val := Value.none }, { hash := PyData.keyHash P (Str.ofString "__loader__"), key := Value.str (Str.ofString "__loader__") 168, val := Value.builtin "__main__.__loader__#opaque" }, { hash := PyData.keyHash P (Str.ofString "__spec__"), key := Value.str (Str.ofString "__spec__") 169, val := Value.none }, { hash := PyData.keyHash P (Str.ofString "__annotations__"), key := Value.str (Str.ofString "__annotations__") 170, val := Value.ref 6 }, { hash := PyData.keyHash P (Str.ofString "__builtins__"), key := Value.str (Str.ofString "__builtins__") 171, val := Value.ref 4 }, { hash := PyData.keyHash P (Str.ofString "__file__"), key := Value.str (Str.ofString "__file__") 173, val := Value.str (Str.ofString "/claim/cut.py") 172 }, { hash := PyData.keyHash P (Str.ofString "__cached__"), key := Value.str (Str.ofString "__cached__") 174, val := Value.none }, { hash := PyData.keyHash P (Str.ofString "_wall"), key := Value.str (Str.ofString "_wall") 193, val := Value.ref 21 }, { hash := PyData.keyHash P (Str.ofString "is_finite"), key := Value.str (Str.ofString "is_finite") 202, val := Value.ref 28 }, { hash := PyData.keyHash P (Str.ofString "to_whole"), key := Value.str (Str.ofString "to_whole") 210, val := Value.ref 35 }, { hash := PyData.keyHash P (Str.ofString "nearest_whole"), key := Value.str (Str.ofString "nearest_whole") 220, val := Value.ref 42 }, { hash := PyData.keyHash P (Str.ofString "exponent"), key := Value.str (Str.ofString "exponent") 230, val := Value.ref 49 }, { hash := PyData.keyHash P (Str.ofString "whole_text"), key := Value.str (Str.ofString "whole_text") 242, val := Value.ref 56 }, { hash := PyData.keyHash P (Str.ofString "special_text"), key := Value.str (Str.ofString "special_text") 249, val := Value.ref 63 }, { hash := PyData.keyHash P (Str.ofString "scaled"), key := Value.str (Str.ofString "scaled") 259, val := Value.ref 70 }, { hash := PyData.keyHash P (Str.ofString "significant"), key := Value.str (Str.ofString "significant") 269, val := Value.ref 77 }, { hash := PyData.keyHash P (Str.ofString "without_tail"), key := Value.str (Str.ofString "without_tail") 277, val := Value.ref 84 }, { hash := PyData.keyHash P (Str.ofString "scientific_text"), key := Value.str (Str.ofString "scientific_text") 289, val := Value.ref 91 }, { hash := PyData.keyHash P (Str.ofString "fixed_text"), key := Value.str (Str.ofString "fixed_text") 299, val := Value.ref 98 }, { hash := PyData.keyHash P (Str.ofString "measures"), key := Value.str (Str.ofString "measures") 312, val := Value.ref 105 }, { hash := PyData.keyHash P (Str.ofString "chosen_form"), key := Value.str (Str.ofString "chosen_form") 329, val := Value.ref 112 }, { hash := PyData.keyHash P (Str.ofString "formed"), key := Value.str (Str.ofString "formed") 338, val := Value.ref 119 }, { hash := PyData.keyHash P (Str.ofString "common_texts"), key := Value.str (Str.ofString "common_texts") 344, val := Value.ref 124 }, { hash := PyData.keyHash P (Str.ofString "number_text"), key := Value.str (Str.ofString "number_text") 353, val := Value.ref 132 }, { hash := PyData.keyHash P (Str.ofString "Null"), key := Value.str (Str.ofString "Null") 384, val := Value.ref 149 }, { hash := PyData.keyHash P (Str.ofString "Vector"), key := Value.str (Str.ofString "Vector") 426, val := Value.ref 178 }, { hash := PyData.keyHash P (Str.ofString "integer"), key := Value.str (Str.ofString "integer") 433, val := Value.ref 189 }, { hash := PyData.keyHash P (Str.ofString "character"), key := Value.str (Str.ofString "character") 440, val := Value.ref 196 }, { hash := PyData.keyHash P (Str.ofString "is_vector"), key := Value.str (Str.ofString "is_vector") 447, val := Value.ref 203 }, { hash := PyData.keyHash P (Str.ofString "is_atomic"), key := Value.str (Str.ofString "is_atomic") 454, val := Value.ref 210 }, { hash := PyData.keyHash P (Str.ofString "share"), key := Value.str (Str.ofString "share") 461, val := Value.ref 217 }, { hash := PyData.keyHash P (Str.ofString "get_attr"), key := Value.str (Str.ofString "get_attr") 471, val := Value.ref 224 }, { hash := PyData.keyHash P (Str.ofString "label_text"), key := Value.str (Str.ofString "label_text") 479, val := Value.ref 231 }, { hash := PyData.keyHash P (Str.ofString "level_at"), key := Value.str (Str.ofString "level_at") 487, val := Value.ref 238 }, { hash := PyData.keyHash P (Str.ofString "label_texts"), key := Value.str (Str.ofString "label_texts") 493, val := Value.ref 243 }, { hash := PyData.keyHash P (Str.ofString "names_of"), key := Value.str (Str.ofString "names_of") 499, val := Value.ref 248 }, { hash := PyData.keyHash P (Str.ofString "dim_of"), key := Value.str (Str.ofString "dim_of") 507, val := Value.ref 255 }, { hash := PyData.keyHash P (Str.ofString "dimnames_of"), key := Value.str (Str.ofString "dimnames_of") 513, val := Value.ref 260 }, { hash := PyData.keyHash P (Str.ofString "class_attr"), key := Value.str (Str.ofString "class_attr") 521, val := Value.ref 267 }] 41 }
noncomputable def o252 : Obj := { cls := Value.none, data := Data.fields #[Value.int 1 0, Value.int 0 0, Value.ref 20, Value.int 5 0, Value.int 0 0, Value.ref 27, Value.int 7 0, Value.int 0 0, Value.ref 34, Value.int 12 0, Value.int 0 0, Value.ref 41, Value.int 18 0, Value.int 0 0, Value.ref 48, Value.int 30 0, Value.int 0 0, Value.ref 55, Value.int 41 0, Value.int 0 0, Value.ref 62, Value.int 49 0, Value.int 0 0, Value.ref 69, Value.int 54 0, Value.int 0 0, Value.ref 76, Value.int 63 0, Value.int 0 0, Value.ref 83, Value.int 68 0, Value.int 0 0, Value.ref 90, Value.int 75 0, Value.int 0 0, Value.ref 97, Value.int 83 0, Value.int 0 0, Value.ref 104, Value.int 90 0, Value.int 0 0, Value.ref 111, Value.int 110 0, Value.int 0 0, Value.ref 118, Value.int 117 0, Value.int 0 0, Value.ref 123, Value.int 121 0, Value.int 0 0, Value.ref 131, Value.int 124 0, Value.int 0 0, Value.ref 138, Value.int 129 0, Value.int 0 0, Value.ref 159, Value.int 140 0, Value.int 0 0, Value.ref 188, Value.int 142 0, Value.int 0 0, Value.ref 195, Value.int 144 0, Value.int 0 0, Value.ref 202, Value.int 146 0, Value.int 0 0, Value.ref 209, Value.int 148 0, Value.int 0 0, Value.ref 216, Value.int 153 0, Value.int 0 0, Value.ref 223, Value.int 157 0, Value.int 0 0, Value.ref 230, Value.int 165 0, Value.int 0 0, Value.ref 237, Value.int 169 0, Value.int 0 0, Value.ref 242, Value.int 175 0, Value.int 0 0, Value.ref 247, Value.int 191 0, Value.int 0 0, Value.ref 254, Value.int 196 0, Value.int 0 0, Value.ref 259, Value.int 201 0, Value.int 0 0, Value.ref 266] }
noncomputable def o255 : Obj := { cls := Value.type "tuple", data := Data.seq #[Value.str (Str.ofString "v") 458] }
noncomputable def o257 : Obj := { cls := Value.none, data := Data.func { name := Str.ofString "share", qualname := Str.ofString "share", params := fdP (stm 26), body := FuncBody.stmts (fdB (stm 26)), scope := fdS (stm 26), globals := 0, closure := [], defaults := Value.none, kwdefaults := Value.none } }
noncomputable def o258 : Obj := { cls := Value.type "code", data := Data.fields #[Value.str (Str.ofString "share") 455, Value.str (Str.ofString "share") 456, Value.str (Str.ofString "/claim/cut.py") 457, Value.int 148 0, Value.int 1 0, Value.int 0 0, Value.int 0 0, Value.int 3 0, Value.ref 211, Value.bool true, Value.int 181 0, Value.ref 212, Value.none, Value.ref 213, Value.ref 214, Value.ref 215, Value.int 459 0, Value.int 148 0, Value.str (Str.ofString "/claim/cut.py") 460] }
noncomputable def o259 : Obj := { cls := Value.type "function", data := Data.func { name := Str.ofString "share", qualname := Str.ofString "share", params := fdP (stm 26), body := FuncBody.stmts (fdB (stm 26)), scope := fdS (stm 26), globals := 3, closure := [], defaults := Value.none, kwdefaults := Value.none, pyModule := Value.str (Str.ofString "vectorcove.values") 354, code := Value.ref 216 } }
noncomputable def o262 : Obj := { cls := Value.type "tuple", data := Data.seq #[Value.str (Str.ofString "v") 467, Value.str (Str.ofString "name") 468] }
noncomputable def o264 : Obj := { cls := Value.none, data := Data.func { name := Str.ofString "get_attr", qualname := Str.ofString "get_attr", params := fdP (stm 28), body := FuncBody.stmts (fdB (stm 28)), scope := fdS (stm 28), globals := 0, closure := [], defaults := Value.none, kwdefaults := Value.none } }
noncomputable def o265 : Obj := { cls := Value.type "code", data := Data.fields #[Value.str (Str.ofString "get_attr") 464, Value.str (Str.ofString "get_attr") 465, Value.str (Str.ofString "/claim/cut.py") 466, Value.int 153 0, Value.int 2 0, Value.int 0 0, Value.int 0 0, Value.int 3 0, Value.ref 218, Value.bool true, Value.int 181 0, Value.ref 219, Value.none, Value.ref 220, Value.ref 221, Value.ref 222, Value.int 469 0, Value.int 153 0, Value.str (Str.ofString "/claim/cut.py") 470] }
noncomputable def o266 : Obj := { cls := Value.type "function", data := Data.func { name := Str.ofString "get_attr", qualname := Str.ofString "get_attr", params := fdP (stm 28), body := FuncBody.stmts (fdB (stm 28)), scope := fdS (stm 28), globals := 3, closure := [], defaults := Value.none, kwdefaults := Value.none, pyModule := Value.str (Str.ofString "vectorcove.attrs") 462, code := Value.ref 223 } }
noncomputable def o269 : Obj := { cls := Value.type "tuple", data := Data.seq #[Value.str (Str.ofString "kind") 475, Value.str (Str.ofString "item") 476] }
noncomputable def o271 : Obj := { cls := Value.none, data := Data.func { name := Str.ofString "label_text", qualname := Str.ofString "label_text", params := fdP (stm 29), body := FuncBody.stmts (fdB (stm 29)), scope := fdS (stm 29), globals := 0, closure := [], defaults := Value.none, kwdefaults := Value.none } }
noncomputable def o272 : Obj := { cls := Value.type "code", data := Data.fields #[Value.str (Str.ofString "label_text") 472, Value.str (Str.ofString "label_text") 473, Value.str (Str.ofString "/claim/cut.py") 474, Value.int 157 0, Value.int 2 0, Value.int 0 0, Value.int 0 0, Value.int 3 0, Value.ref 225, Value.bool true, Value.int 181 0, Value.ref 226, Value.none, Value.ref 227, Value.ref 228, Value.ref 229, Value.int 477 0, Value.int 157 0, Value.str (Str.ofString "/claim/cut.py") 478] }
noncomputable def o273 : Obj := { cls := Value.type "function", data := Data.func { name := Str.ofString "label_text", qualname := Str.ofString "label_text", params := fdP (stm 29), body := FuncBody.stmts (fdB (stm 29)), scope := fdS (stm 29), globals := 3, closure := [], defaults := Value.none, kwdefaults := Value.none, pyModule := Value.str (Str.ofString "vectorcove.attrs") 462, code := Value.ref 230 } }
noncomputable def o276 : Obj := { cls := Value.type "tuple", data := Data.seq #[Value.str (Str.ofString "texts") 483, Value.str (Str.ofString "code") 484] }
noncomputable def o278 : Obj := { cls := Value.none, data := Data.func { name := Str.ofString "level_at", qualname := Str.ofString "level_at", params := fdP (stm 30), body := FuncBody.stmts (fdB (stm 30)), scope := fdS (stm 30), globals := 0, closure := [], defaults := Value.none, kwdefaults := Value.none } }
noncomputable def o279 : Obj := { cls := Value.type "code", data := Data.fields #[Value.str (Str.ofString "level_at") 480, Value.str (Str.ofString "level_at") 481, Value.str (Str.ofString "/claim/cut.py") 482, Value.int 165 0, Value.int 2 0, Value.int 0 0, Value.int 0 0, Value.int 3 0, Value.ref 232, Value.bool true, Value.int 181 0, Value.ref 233, Value.none, Value.ref 234, Value.ref 235, Value.ref 236, Value.int 485 0, Value.int 165 0, Value.str (Str.ofString "/claim/cut.py") 486] }
noncomputable def o280 : Obj := { cls := Value.type "function", data := Data.func { name := Str.ofString "level_at", qualname := Str.ofString "level_at", params := fdP (stm 30), body := FuncBody.stmts (fdB (stm 30)), scope := fdS (stm 30), globals := 3, closure := [], defaults := Value.none, kwdefaults := Value.none, pyModule := Value.str (Str.ofString "vectorcove.attrs") 462, code := Value.ref 237 } }
noncomputable def o283 : Obj := { cls := Value.none, data := Data.func { name := Str.ofString "label_texts", qualname := Str.ofString "label_texts", params := fdP (stm 31), body := FuncBody.stmts (fdB (stm 31)), scope := fdS (stm 31), globals := 0, closure := [], defaults := Value.none, kwdefaults := Value.none } }
noncomputable def o284 : Obj := { cls := Value.type "code", data := Data.fields #[Value.str (Str.ofString "label_texts") 488, Value.str (Str.ofString "label_texts") 489, Value.str (Str.ofString "/claim/cut.py") 490, Value.int 169 0, Value.int 1 0, Value.int 0 0, Value.int 0 0, Value.int 3 0, Value.ref 239, Value.bool true, Value.int 181 0, Value.ref 240, Value.none, Value.none, Value.none, Value.ref 241, Value.int 491 0, Value.int 169 0, Value.str (Str.ofString "/claim/cut.py") 492] }
noncomputable def o285 : Obj := { cls := Value.type "function", data := Data.func { name := Str.ofString "label_texts", qualname := Str.ofString "label_texts", params := fdP (stm 31), body := FuncBody.stmts (fdB (stm 31)), scope := fdS (stm 31), globals := 3, closure := [], defaults := Value.none, kwdefaults := Value.none, pyModule := Value.str (Str.ofString "vectorcove.attrs") 462, code := Value.ref 242 } }
noncomputable def o288 : Obj := { cls := Value.none, data := Data.func { name := Str.ofString "names_of", qualname := Str.ofString "names_of", params := fdP (stm 32), body := FuncBody.stmts (fdB (stm 32)), scope := fdS (stm 32), globals := 0, closure := [], defaults := Value.none, kwdefaults := Value.none } }
noncomputable def o289 : Obj := { cls := Value.type "code", data := Data.fields #[Value.str (Str.ofString "names_of") 494, Value.str (Str.ofString "names_of") 495, Value.str (Str.ofString "/claim/cut.py") 496, Value.int 175 0, Value.int 1 0, Value.int 0 0, Value.int 0 0, Value.int 3 0, Value.ref 244, Value.bool true, Value.int 181 0, Value.ref 245, Value.none, Value.none, Value.none, Value.ref 246, Value.int 497 0, Value.int 175 0, Value.str (Str.ofString "/claim/cut.py") 498] }
noncomputable def o290 : Obj := { cls := Value.type "function", data := Data.func { name := Str.ofString "names_of", qualname := Str.ofString "names_of", params := fdP (stm 32), body := FuncBody.stmts (fdB (stm 32)), scope := fdS (stm 32), globals := 3, closure := [], defaults := Value.none, kwdefaults := Value.none, pyModule := Value.str (Str.ofString "vectorcove.attrs") 462, code := Value.ref 247 } }
noncomputable def o293 : Obj := { cls := Value.type "tuple", data := Data.seq #[Value.str (Str.ofString "v") 503, Value.str (Str.ofString "dims") 504] }
noncomputable def o295 : Obj := { cls := Value.none, data := Data.func { name := Str.ofString "dim_of", qualname := Str.ofString "dim_of", params := fdP (stm 33), body := FuncBody.stmts (fdB (stm 33)), scope := fdS (stm 33), globals := 0, closure := [], defaults := Value.none, kwdefaults := Value.none } }
noncomputable def o296 : Obj := { cls := Value.type "code", data := Data.fields #[Value.str (Str.ofString "dim_of") 500, Value.str (Str.ofString "dim_of") 501, Value.str (Str.ofString "/claim/cut.py") 502, Value.int 191 0, Value.int 1 0, Value.int 0 0, Value.int 0 0, Value.int 3 0, Value.ref 249, Value.bool true, Value.int 181 0, Value.ref 250, Value.none, Value.ref 251, Value.ref 252, Value.ref 253, Value.int 505 0, Value.int 191 0, Value.str (Str.ofString "/claim/cut.py") 506] }
noncomputable def o297 : Obj := { cls := Value.type "function", data := Data.func { name := Str.ofString "dim_of", qualname := Str.ofString "dim_of", params := fdP (stm 33), body := FuncBody.stmts (fdB (stm 33)), scope := fdS (stm 33), globals := 3, closure := [], defaults := Value.none, kwdefaults := Value.none, pyModule := Value.str (Str.ofString "vectorcove.attrs") 462, code := Value.ref 254 } }
noncomputable def o300 : Obj := { cls := Value.none, data := Data.func { name := Str.ofString "dimnames_of", qualname := Str.ofString "dimnames_of", params := fdP (stm 34), body := FuncBody.stmts (fdB (stm 34)), scope := fdS (stm 34), globals := 0, closure := [], defaults := Value.none, kwdefaults := Value.none } }
noncomputable def o301 : Obj := { cls := Value.type "code", data := Data.fields #[Value.str (Str.ofString "dimnames_of") 508, Value.str (Str.ofString "dimnames_of") 509, Value.str (Str.ofString "/claim/cut.py") 510, Value.int 196 0, Value.int 1 0, Value.int 0 0, Value.int 0 0, Value.int 3 0, Value.ref 256, Value.bool true, Value.int 181 0, Value.ref 257, Value.none, Value.none, Value.none, Value.ref 258, Value.int 511 0, Value.int 196 0, Value.str (Str.ofString "/claim/cut.py") 512] }
noncomputable def o302 : Obj := { cls := Value.type "function", data := Data.func { name := Str.ofString "dimnames_of", qualname := Str.ofString "dimnames_of", params := fdP (stm 34), body := FuncBody.stmts (fdB (stm 34)), scope := fdS (stm 34), globals := 3, closure := [], defaults := Value.none, kwdefaults := Value.none, pyModule := Value.str (Str.ofString "vectorcove.attrs") 462, code := Value.ref 259 } }
noncomputable def o305 : Obj := { cls := Value.type "tuple", data := Data.seq #[Value.str (Str.ofString "v") 517, Value.str (Str.ofString "found") 518] }
noncomputable def o307 : Obj := { cls := Value.none, data := Data.func { name := Str.ofString "class_attr", qualname := Str.ofString "class_attr", params := fdP (stm 35), body := FuncBody.stmts (fdB (stm 35)), scope := fdS (stm 35), globals := 0, closure := [], defaults := Value.none, kwdefaults := Value.none } }
noncomputable def o308 : Obj := { cls := Value.type "code", data := Data.fields #[Value.str (Str.ofString "class_attr") 514, Value.str (Str.ofString "class_attr") 515, Value.str (Str.ofString "/claim/cut.py") 516, Value.int 201 0, Value.int 1 0, Value.int 0 0, Value.int 0 0, Value.int 3 0, Value.ref 261, Value.bool true, Value.int 181 0, Value.ref 262, Value.none, Value.ref 263, Value.ref 264, Value.ref 265, Value.int 519 0, Value.int 201 0, Value.str (Str.ofString "/claim/cut.py") 520] }
noncomputable def o309 : Obj := { cls := Value.type "function", data := Data.func { name := Str.ofString "class_attr", qualname := Str.ofString "class_attr", params := fdP (stm 35), body := FuncBody.stmts (fdB (stm 35)), scope := fdS (stm 35), globals := 3, closure := [], defaults := Value.none, kwdefaults := Value.none, pyModule := Value.str (Str.ofString "vectorcove.attrs") 462, code := Value.ref 266 } }
noncomputable def o310 (P : Params) : Obj := { cls := Value.none, data := Data.dict #[{ hash := PyData.keyHash P (Str.ofString "type.__subclasses__.Exception.0"), key := Value.str (Str.ofString "type.__subclasses__.Exception.0") 540, val := Value.int 277 0 }, { hash := PyData.keyHash P (Str.ofString "type.__subclasses__.Exception.n"), key := Value.str (Str.ofString "type.__subclasses__.Exception.n") 541, val := Value.int 1 0 }] 2 }
noncomputable def o311 (P : Params) : Obj := { cls := Value.type "dict", data := Data.dict #[{ hash := PyData.keyHash P (Str.ofString "__name__"), key := Value.str (Str.ofString "__name__") 165, val := Value.str (Str.ofString "vectorcove.errors") 522 }, { hash := PyData.keyHash P (Str.ofString "__doc__"), key := Value.str (Str.ofString "__doc__") 166, val := Value.none }, { hash := PyData.keyHash P (Str.ofString "__package__"), key := Value.str (Str.ofString "__package__") 167, val := Value.none }, { hash := PyData.keyHash P (Str.ofString "__loader__"), key := Value.str (Str.ofString "__loader__") 168, val := Value.builtin "__main__.__loader__#opaque" }, { hash := PyData.keyHash P (Str.ofString "__spec__"), key := Value.str (Str.ofString "__spec__") 169, val := Value.none }, { hash := PyData.keyHash P (Str.ofString "__annotations__"), key := Value.str (Str.ofString "__annotations__") 170, val := Value.ref 6 }, { hash := PyData.keyHash P (Str.ofString "__builtins__"), key := Value.str (Str.ofString "__builtins__") 171, val := Value.ref 4 }, { hash := PyData.keyHash P (Str.ofString "__file__"), key := Value.str (Str.ofString "__file__") 173, val := Value.str (Str.ofString "/claim/cut.py") 172 }, { hash := PyData.keyHash P (Str.ofString "__cached__"), key := Value.str (Str.ofString "__cached__") 174, val := Value.none }, { hash := PyData.keyHash P (Str.ofString "_wall"), key := Value.str (Str.ofString "_wall") 193, val := Value.ref 21 }, { hash := PyData.keyHash P (Str.ofString "is_finite"), key := Value.str (Str.ofString "is_finite") 202, val := Value.ref 28 }, { hash := PyData.keyHash P (Str.ofString "to_whole"), key := Value.str (Str.ofString "to_whole") 210, val := Value.ref 35 }, { hash := PyData.keyHash P (Str.ofString "nearest_whole"), key := Value.str (Str.ofString "nearest_whole") 220, val := Value.ref 42 }, { hash := PyData.keyHash P (Str.ofString "exponent"), key := Value.str (Str.ofString "exponent") 230, val := Value.ref 49 }, { hash := PyData.keyHash P (Str.ofString "whole_text"), key := Value.str (Str.ofString "whole_text") 242, val := Value.ref 56 }, { hash := PyData.keyHash P (Str.ofString "special_text"), key := Value.str (Str.ofString "special_text") 249, val := Value.ref 63 }, { hash := PyData.keyHash P (Str.ofString "scaled"), key := Value.str (Str.ofString "scaled") 259, val := Value.ref 70 }, { hash := PyData.keyHash P (Str.ofString "significant"), key := Value.str (Str.ofString "significant") 269, val := Value.ref 77 }, { hash := PyData.keyHash P (Str.ofString "without_tail"), key := Value.str (Str.ofString "without_tail") 277, val := Value.ref 84 }, { hash := PyData.keyHash P (Str.ofString "scientific_text"), key := Value.str (Str.ofString "scientific_text") 289, val := Value.ref 91 }, { hash := PyData.keyHash P (Str.ofString "fixed_text"), key := Value.str (Str.ofString "fixed_text") 299, val := Value.ref 98 }, { hash := PyData.keyHash P (Str.ofString "measures"), key := Value.str (Str.ofString "measures") 312, val := Value.ref 105 }, { hash := PyData.keyHash P (Str.ofString "chosen_form"), key := Value.str (Str.ofString "chosen_form") 329, val := Value.ref 112 }, { hash := PyData.keyHash P (Str.ofString "formed"), key := Value.str (Str.ofString "formed") 338, val := Value.ref 119 }, { hash := PyData.keyHash P (Str.ofString "common_texts"), key := Value.str (Str.ofString "common_texts") 344, val := Value.ref 124 }, { hash := PyData.keyHash P (Str.ofString "number_text"), key := Value.str (Str.ofString "number_text") 353, val := Value.ref 132 }, { hash := PyData.keyHash P (Str.ofString "Null"), key := Value.str (Str.ofString "Null") 384, val := Value.ref 149 }, { hash := PyData.keyHash P (Str.ofString "Vector"), key := Value.str (Str.ofString "Vector") 426, val := Value.ref 178 }, { hash := PyData.keyHash P (Str.ofString "integer"), key := Value.str (Str.ofString "integer") 433, val := Value.ref 189 }, { hash := PyData.keyHash P (Str.ofString "character"), key := Value.str (Str.ofString "character") 440, val := Value.ref 196 }, { hash := PyData.keyHash P (Str.ofString "is_vector"), key := Value.str (Str.ofString "is_vector") 447, val := Value.ref 203 }, { hash := PyData.keyHash P (Str.ofString "is_atomic"), key := Value.str (Str.ofString "is_atomic") 454, val := Value.ref 210 }, { hash := PyData.keyHash P (Str.ofString "share"), key := Value.str (Str.ofString "share") 461, val := Value.ref 217 }, { hash := PyData.keyHash P (Str.ofString "get_attr"), key := Value.str (Str.ofString "get_attr") 471, val := Value.ref 224 }, { hash := PyData.keyHash P (Str.ofString "label_text"), key := Value.str (Str.ofString "label_text") 479, val := Value.ref 231 }, { hash := PyData.keyHash P (Str.ofString "level_at"), key := Value.str (Str.ofString "level_at") 487, val := Value.ref 238 }, { hash := PyData.keyHash P (Str.ofString "label_texts"), key := Value.str (Str.ofString "label_texts") 493, val := Value.ref 243 }, { hash := PyData.keyHash P (Str.ofString "names_of"), key := Value.str (Str.ofString "names_of") 499, val := Value.ref 248 }, { hash := PyData.keyHash P (Str.ofString "dim_of"), key := Value.str (Str.ofString "dim_of") 507, val := Value.ref 255 }, { hash := PyData.keyHash P (Str.ofString "dimnames_of"), key := Value.str (Str.ofString "dimnames_of") 513, val := Value.ref 260 }, { hash := PyData.keyHash P (Str.ofString "class_attr"), key := Value.str (Str.ofString "class_attr") 521, val := Value.ref 267 }, { hash := PyData.keyHash P (Str.ofString "CoveError"), key := Value.str (Str.ofString "CoveError") 543, val := Value.ref 277 }] 42 }
noncomputable def o312 : Obj := { cls := Value.none, data := Data.fields #[Value.int 1 0, Value.int 0 0, Value.ref 20, Value.int 5 0, Value.int 0 0, Value.ref 27, Value.int 7 0, Value.int 0 0, Value.ref 34, Value.int 12 0, Value.int 0 0, Value.ref 41, Value.int 18 0, Value.int 0 0, Value.ref 48, Value.int 30 0, Value.int 0 0, Value.ref 55, Value.int 41 0, Value.int 0 0, Value.ref 62, Value.int 49 0, Value.int 0 0, Value.ref 69, Value.int 54 0, Value.int 0 0, Value.ref 76, Value.int 63 0, Value.int 0 0, Value.ref 83, Value.int 68 0, Value.int 0 0, Value.ref 90, Value.int 75 0, Value.int 0 0, Value.ref 97, Value.int 83 0, Value.int 0 0, Value.ref 104, Value.int 90 0, Value.int 0 0, Value.ref 111, Value.int 110 0, Value.int 0 0, Value.ref 118, Value.int 117 0, Value.int 0 0, Value.ref 123, Value.int 121 0, Value.int 0 0, Value.ref 131, Value.int 124 0, Value.int 0 0, Value.ref 138, Value.int 129 0, Value.int 0 0, Value.ref 159, Value.int 140 0, Value.int 0 0, Value.ref 188, Value.int 142 0, Value.int 0 0, Value.ref 195, Value.int 144 0, Value.int 0 0, Value.ref 202, Value.int 146 0, Value.int 0 0, Value.ref 209, Value.int 148 0, Value.int 0 0, Value.ref 216, Value.int 153 0, Value.int 0 0, Value.ref 223, Value.int 157 0, Value.int 0 0, Value.ref 230, Value.int 165 0, Value.int 0 0, Value.ref 237, Value.int 169 0, Value.int 0 0, Value.ref 242, Value.int 175 0, Value.int 0 0, Value.ref 247, Value.int 191 0, Value.int 0 0, Value.ref 254, Value.int 196 0, Value.int 0 0, Value.ref 259, Value.int 201 0, Value.int 0 0, Value.ref 266, Value.int 207 0, Value.int 0 0, Value.ref 273] }
noncomputable def o313 : Obj := { cls := Value.type "tuple", data := Data.seq #[Value.type "Exception"] }
noncomputable def o315 (P : Params) : Obj := { cls := Value.type "dict", data := Data.dict #[{ hash := PyData.keyHash P (Str.ofString "__module__"), key := Value.str (Str.ofString "__module__") 531, val := Value.str (Str.ofString "vectorcove.errors") 522 }, { hash := PyData.keyHash P (Str.ofString "__qualname__"), key := Value.str (Str.ofString "__qualname__") 533, val := Value.str (Str.ofString "CoveError") 532 }, { hash := PyData.keyHash P (Str.ofString "__firstlineno__"), key := Value.str (Str.ofString "__firstlineno__") 535, val := Value.int 207 534 }, { hash := PyData.keyHash P (Str.ofString "__static_attributes__"), key := Value.str (Str.ofString "__static_attributes__") 536, val := Value.ref 275 }] 4 }
noncomputable def o318 : Obj := { cls := Value.type "code", data := Data.fields #[Value.str (Str.ofString "CoveError") 526, Value.str (Str.ofString "CoveError") 527, Value.str (Str.ofString "/claim/cut.py") 528, Value.int 207 0, Value.int 0 0, Value.int 0 0, Value.int 0 0, Value.int 0 0, Value.ref 271, Value.bool false, Value.int 181 0, Value.ref 272, Value.none, Value.none, Value.none, Value.none, Value.int 529 0, Value.int 207 0, Value.str (Str.ofString "/claim/cut.py") 530] }
noncomputable def o319 : Obj := { cls := Value.type "frame", slots := #[some (Value.ref 273), some (Value.ref 3), some (Value.ref 270), none, some (Value.str (Str.ofString "vectorcove.errors") 522), none, some (Value.ref 0)] }
noncomputable def o321 (P : Params) : Obj := { cls := Value.type "dict", data := Data.dict #[{ hash := PyData.keyHash P (Str.ofString "__module__"), key := Value.str (Str.ofString "__module__") 531, val := Value.str (Str.ofString "vectorcove.errors") 522 }, { hash := PyData.keyHash P (Str.ofString "__firstlineno__"), key := Value.str (Str.ofString "__firstlineno__") 535, val := Value.int 207 534 }, { hash := PyData.keyHash P (Str.ofString "__static_attributes__"), key := Value.str (Str.ofString "__static_attributes__") 536, val := Value.ref 275 }, { hash := PyData.keyHash P (Str.ofString "__weakref__"), key := Value.str (Str.ofString "__weakref__") 538, val := Value.ref 278 }, { hash := PyData.keyHash P (Str.ofString "__doc__"), key := Value.str (Str.ofString "__doc__") 539, val := Value.none }] 3 }
noncomputable def o322 : Obj := { cls := Value.type "type", data := Data.cls { name := Str.ofString "CoveError", bases := [Value.type "Exception"], mro := [Value.ref 277, Value.type "Exception", Value.type "BaseException", Value.type "object"], ns := 276, qualname := Str.ofString "CoveError" }, slots := #[some (Value.ref 268), none, some (Value.str (Str.ofString "CoveError") 524), some (Value.str (Str.ofString "CoveError") 532), some (Value.builtin "Exception.__new__"), some (Value.bool true)] }
noncomputable def o323 : Obj := { cls := Value.type "getset_descriptor", data := Data.fields #[Value.str (Str.ofString "__weakref__") 537, Value.ref 277, Value.builtin "ExceptionGroup.__weakref__", Value.none] }
noncomputable def o324 : Obj := { cls := Value.type "super", data := Data.fields #[Value.ref 277, Value.ref 277, Value.ref 277] }
noncomputable def o325 : Obj := { cls := Value.type "builtin_function_or_method", data := Data.fields #[Value.builtin "object.__init_subclass__", Value.ref 277] }
noncomputable def o326 (P : Params) : Obj := { cls := Value.type "dict", data := Data.dict #[{ hash := PyData.keyHash P (Str.ofString "__name__"), key := Value.str (Str.ofString "__name__") 165, val := Value.str (Str.ofString "vectorcove.index") 569 }, { hash := PyData.keyHash P (Str.ofString "__doc__"), key := Value.str (Str.ofString "__doc__") 166, val := Value.none }, { hash := PyData.keyHash P (Str.ofString "__package__"), key := Value.str (Str.ofString "__package__") 167, val := Value.none }, { hash := PyData.keyHash P (Str.ofString "__loader__"), key := Value.str (Str.ofString "__loader__") 168, val := Value.builtin "__main__.__loader__#opaque" }, { hash := PyData.keyHash P (Str.ofString "__spec__"), key := Value.str (Str.ofString "__spec__") 169, val := Value.none }, { hash := PyData.keyHash P (Str.ofString "__annotations__"), key := Value.str (Str.ofString "__annotations__") 170, val := Value.ref 6 }, { hash := PyData.keyHash P (Str.ofString "__builtins__"), key := Value.str (Str.ofString "__builtins__") 171, val := Value.ref 4 }, { hash := PyData.keyHash P (Str.ofString "__file__"), key := Value.str (Str.ofString "__file__") 173, val := Value.str (Str.ofString "/claim/cut.py") 172 }, { hash := PyData.keyHash P (Str.ofString "__cached__"), key := Value.str (Str.ofString "__cached__") 174, val := Value.none }, { hash := PyData.keyHash P (Str.ofString "_wall"), key := Value.str (Str.ofString "_wall") 193, val := Value.ref 21 }, { hash := PyData.keyHash P (Str.ofString "is_finite"), key := Value.str (Str.ofString "is_finite") 202, val := Value.ref 28 }, { hash := PyData.keyHash P (Str.ofString "to_whole"), key := Value.str (Str.ofString "to_whole") 210, val := Value.ref 35 }, { hash := PyData.keyHash P (Str.ofString "nearest_whole"), key := Value.str (Str.ofString "nearest_whole") 220, val := Value.ref 42 }, { hash := PyData.keyHash P (Str.ofString "exponent"), key := Value.str (Str.ofString "exponent") 230, val := Value.ref 49 }, { hash := PyData.keyHash P (Str.ofString "whole_text"), key := Value.str (Str.ofString "whole_text") 242, val := Value.ref 56 }, { hash := PyData.keyHash P (Str.ofString "special_text"), key := Value.str (Str.ofString "special_text") 249, val := Value.ref 63 }, { hash := PyData.keyHash P (Str.ofString "scaled"), key := Value.str (Str.ofString "scaled") 259, val := Value.ref 70 }, { hash := PyData.keyHash P (Str.ofString "significant"), key := Value.str (Str.ofString "significant") 269, val := Value.ref 77 }, { hash := PyData.keyHash P (Str.ofString "without_tail"), key := Value.str (Str.ofString "without_tail") 277, val := Value.ref 84 }, { hash := PyData.keyHash P (Str.ofString "scientific_text"), key := Value.str (Str.ofString "scientific_text") 289, val := Value.ref 91 }, { hash := PyData.keyHash P (Str.ofString "fixed_text"), key := Value.str (Str.ofString "fixed_text") 299, val := Value.ref 98 }, { hash := PyData.keyHash P (Str.ofString "measures"), key := Value.str (Str.ofString "measures") 312, val := Value.ref 105 }, { hash := PyData.keyHash P (Str.ofString "chosen_form"), key := Value.str (Str.ofString "chosen_form") 329, val := Value.ref 112 }, { hash := PyData.keyHash P (Str.ofString "formed"), key := Value.str (Str.ofString "formed") 338, val := Value.ref 119 }, { hash := PyData.keyHash P (Str.ofString "common_texts"), key := Value.str (Str.ofString "common_texts") 344, val := Value.ref 124 }, { hash := PyData.keyHash P (Str.ofString "number_text"), key := Value.str (Str.ofString "number_text") 353, val := Value.ref 132 }, { hash := PyData.keyHash P (Str.ofString "Null"), key := Value.str (Str.ofString "Null") 384, val := Value.ref 149 }, { hash := PyData.keyHash P (Str.ofString "Vector"), key := Value.str (Str.ofString "Vector") 426, val := Value.ref 178 }, { hash := PyData.keyHash P (Str.ofString "integer"), key := Value.str (Str.ofString "integer") 433, val := Value.ref 189 }, { hash := PyData.keyHash P (Str.ofString "character"), key := Value.str (Str.ofString "character") 440, val := Value.ref 196 }, { hash := PyData.keyHash P (Str.ofString "is_vector"), key := Value.str (Str.ofString "is_vector") 447, val := Value.ref 203 }, { hash := PyData.keyHash P (Str.ofString "is_atomic"), key := Value.str (Str.ofString "is_atomic") 454, val := Value.ref 210 }, { hash := PyData.keyHash P (Str.ofString "share"), key := Value.str (Str.ofString "share") 461, val := Value.ref 217 }, { hash := PyData.keyHash P (Str.ofString "get_attr"), key := Value.str (Str.ofString "get_attr") 471, val := Value.ref 224 }, { hash := PyData.keyHash P (Str.ofString "label_text"), key := Value.str (Str.ofString "label_text") 479, val := Value.ref 231 }, { hash := PyData.keyHash P (Str.ofString "level_at"), key := Value.str (Str.ofString "level_at") 487, val := Value.ref 238 }, { hash := PyData.keyHash P (Str.ofString "label_texts"), key := Value.str (Str.ofString "label_texts") 493, val := Value.ref 243 }, { hash := PyData.keyHash P (Str.ofString "names_of"), key := Value.str (Str.ofString "names_of") 499, val := Value.ref 248 }, { hash := PyData.keyHash P (Str.ofString "dim_of"), key := Value.str (Str.ofString "dim_of") 507, val := Value.ref 255 }, { hash := PyData.keyHash P (Str.ofString "dimnames_of"), key := Value.str (Str.ofString "dimnames_of") 513, val := Value.ref 260 }, { hash := PyData.keyHash P (Str.ofString "class_attr"), key := Value.str (Str.ofString "class_attr") 521, val := Value.ref 267 }, { hash := PyData.keyHash P (Str.ofString "CoveError"), key := Value.str (Str.ofString "CoveError") 543, val := Value.ref 277 }, { hash := PyData.keyHash P (Str.ofString "Refusal"), key := Value.str (Str.ofString "Refusal") 568, val := Value.ref 297 }, { hash := PyData.keyHash P (Str.ofString "whole_subscripts"), key := Value.str (Str.ofString "whole_subscripts") 579, val := Value.ref 306 }, { hash := PyData.keyHash P (Str.ofString "logical_places"), key := Value.str (Str.ofString "logical_places") 591, val := Value.ref 313 }, { hash := PyData.keyHash P (Str.ofString "whole_places"), key := Value.str (Str.ofString "whole_places") 597, val := Value.ref 318 }, { hash := PyData.keyHash P (Str.ofString "first_places"), key := Value.str (Str.ofString "first_places") 607, val := Value.ref 325 }] 47 }
noncomputable def o327 : Obj := { cls := Value.none, data := Data.fields #[Value.int 1 0, Value.int 0 0, Value.ref 20, Value.int 5 0, Value.int 0 0, Value.ref 27, Value.int 7 0, Value.int 0 0, Value.ref 34, Value.int 12 0, Value.int 0 0, Value.ref 41, Value.int 18 0, Value.int 0 0, Value.ref 48, Value.int 30 0, Value.int 0 0, Value.ref 55, Value.int 41 0, Value.int 0 0, Value.ref 62, Value.int 49 0, Value.int 0 0, Value.ref 69, Value.int 54 0, Value.int 0 0, Value.ref 76, Value.int 63 0, Value.int 0 0, Value.ref 83, Value.int 68 0, Value.int 0 0, Value.ref 90, Value.int 75 0, Value.int 0 0, Value.ref 97, Value.int 83 0, Value.int 0 0, Value.ref 104, Value.int 90 0, Value.int 0 0, Value.ref 111, Value.int 110 0, Value.int 0 0, Value.ref 118, Value.int 117 0, Value.int 0 0, Value.ref 123, Value.int 121 0, Value.int 0 0, Value.ref 131, Value.int 124 0, Value.int 0 0, Value.ref 138, Value.int 129 0, Value.int 0 0, Value.ref 159, Value.int 140 0, Value.int 0 0, Value.ref 188, Value.int 142 0, Value.int 0 0, Value.ref 195, Value.int 144 0, Value.int 0 0, Value.ref 202, Value.int 146 0, Value.int 0 0, Value.ref 209, Value.int 148 0, Value.int 0 0, Value.ref 216, Value.int 153 0, Value.int 0 0, Value.ref 223, Value.int 157 0, Value.int 0 0, Value.ref 230, Value.int 165 0, Value.int 0 0, Value.ref 237, Value.int 169 0, Value.int 0 0, Value.ref 242, Value.int 175 0, Value.int 0 0, Value.ref 247, Value.int 191 0, Value.int 0 0, Value.ref 254, Value.int 196 0, Value.int 0 0, Value.ref 259, Value.int 201 0, Value.int 0 0, Value.ref 266, Value.int 207 0, Value.int 0 0, Value.ref 273, Value.int 209 0, Value.int 0 0, Value.ref 286, Value.int 214 0, Value.int 0 0, Value.ref 305, Value.int 224 0, Value.int 0 0, Value.ref 312, Value.int 236 0, Value.int 0 0, Value.ref 317, Value.int 255 0, Value.int 0 0, Value.ref 324] }
noncomputable def o328 : Obj := { cls := Value.type "type", data := Data.cls { name := Str.ofString "CoveError", bases := [Value.type "Exception"], mro := [Value.ref 277, Value.type "Exception", Value.type "BaseException", Value.type "object"], ns := 276, qualname := Str.ofString "CoveError", subclasses := [Value.ref 297] }, slots := #[some (Value.ref 268), none, some (Value.str (Str.ofString "CoveError") 524), some (Value.str (Str.ofString "CoveError") 532), some (Value.builtin "Exception.__new__"), some (Value.bool true)] }
noncomputable def o329 : Obj := { cls := Value.type "tuple", data := Data.seq #[Value.ref 277] }
noncomputable def o330 : Obj := { cls := Value.type "builtin_function_or_method", data := Data.fields #[Value.builtin "type.__prepare__", Value.type "type"] }
noncomputable def o331 (P : Params) : Obj := { cls := Value.type "dict", data := Data.dict #[{ hash := PyData.keyHash P (Str.ofString "__module__"), key := Value.str (Str.ofString "__module__") 551, val := Value.str (Str.ofString "vectorcove.errors") 522 }, { hash := PyData.keyHash P (Str.ofString "__qualname__"), key := Value.str (Str.ofString "__qualname__") 553, val := Value.str (Str.ofString "Refusal") 552 }, { hash := PyData.keyHash P (Str.ofString "__firstlineno__"), key := Value.str (Str.ofString "__firstlineno__") 555, val := Value.int 209 554 }, { hash := PyData.keyHash P (Str.ofString "__init__"), key := Value.str (Str.ofString "__init__") 563, val := Value.ref 294 }, { hash := PyData.keyHash P (Str.ofString "__static_attributes__"), key := Value.str (Str.ofString "__static_attributes__") 565, val := Value.ref 295 }] 5 }
noncomputable def o333 : Obj := { cls := Value.none, data := Data.fields #[Value.int 211 0, Value.int 4 0, Value.ref 293] }
noncomputable def o334 : Obj := { cls := Value.type "code", data := Data.fields #[Value.str (Str.ofString "Refusal") 546, Value.str (Str.ofString "Refusal") 547, Value.str (Str.ofString "/claim/cut.py") 548, Value.int 209 0, Value.int 0 0, Value.int 0 0, Value.int 0 0, Value.int 0 0, Value.ref 284, Value.bool false, Value.int 181 0, Value.ref 285, Value.none, Value.none, Value.none, Value.none, Value.int 549 0, Value.int 209 0, Value.str (Str.ofString "/claim/cut.py") 550] }
noncomputable def o335 : Obj := { cls := Value.type "frame", slots := #[some (Value.ref 286), some (Value.ref 3), some (Value.ref 283), none, some (Value.str (Str.ofString "vectorcove.errors") 522), none, some (Value.ref 0)] }
noncomputable def o338 : Obj := { cls := Value.type "tuple", data := Data.seq #[Value.str (Str.ofString "self") 559, Value.str (Str.ofString "message") 560] }
noncomputable def o340 : Obj := { cls := Value.none, data := Data.func { name := Str.ofString "__init__", qualname := Str.ofString "Refusal.__init__", params := fdP (sub (stm 38) 0), body := FuncBody.stmts (fdB (sub (stm 38) 0)), scope := fdS (sub (stm 38) 0), globals := 0, closure := [], defaults := Value.none, kwdefaults := Value.none } }
noncomputable def o341 : Obj := { cls := Value.type "code", data := Data.fields #[Value.str (Str.ofString "__init__") 556, Value.str (Str.ofString "Refusal.__init__") 557, Value.str (Str.ofString "/claim/cut.py") 558, Value.int 211 0, Value.int 2 0, Value.int 0 0, Value.int 0 0, Value.int 3 0, Value.ref 288, Value.bool true, Value.int 181 0, Value.ref 289, Value.none, Value.ref 290, Value.ref 291, Value.ref 292, Value.int 561 0, Value.int 211 0, Value.str (Str.ofString "/claim/cut.py") 562] }
noncomputable def o342 : Obj := { cls := Value.type "function", data := Data.func { name := Str.ofString "__init__", qualname := Str.ofString "Refusal.__init__", params := fdP (sub (stm 38) 0), body := FuncBody.stmts (fdB (sub (stm 38) 0)), scope := fdS (sub (stm 38) 0), globals := 3, closure := [], defaults := Value.none, kwdefaults := Value.none, pyModule := Value.str (Str.ofString "vectorcove.errors") 522, code := Value.ref 293 } }
noncomputable def o343 : Obj := { cls := Value.type "tuple", data := Data.seq #[Value.str (Str.ofString "message") 564] }
noncomputable def o344 (P : Params) : Obj := { cls := Value.type "dict", data := Data.dict #[{ hash := PyData.keyHash P (Str.ofString "__module__"), key := Value.str (Str.ofString "__module__") 551, val := Value.str (Str.ofString "vectorcove.errors") 522 }, { hash := PyData.keyHash P (Str.ofString "__firstlineno__"), key := Value.str (Str.ofString "__firstlineno__") 555, val := Value.int 209 554 }, { hash := PyData.keyHash P (Str.ofString "__init__"), key := Value.str (Str.ofString "__init__") 563, val := Value.ref 294 }, { hash := PyData.keyHash P (Str.ofString "__static_attributes__"), key := Value.str (Str.ofString "__static_attributes__") 565, val := Value.ref 295 }, { hash := PyData.keyHash P (Str.ofString "__doc__"), key := Value.str (Str.ofString "__doc__") 566, val := Value.none }] 2 }
noncomputable def o345 : Obj := { cls := Value.type "type", data := Data.cls { name := Str.ofString "Refusal", bases := [Value.ref 277], mro := [Value.ref 297, Value.ref 277, Value.type "Exception", Value.type "BaseException", Value.type "object"], ns := 296, qualname := Str.ofString "Refusal" }, slots := #[some (Value.ref 281), none, some (Value.str (Str.ofString "Refusal") 544), some (Value.str (Str.ofString "Refusal") 552), some (Value.builtin "Exception.__new__"), some (Value.bool true)] }
noncomputable def o346 : Obj := { cls := Value.type "super", data := Data.fields #[Value.ref 297, Value.ref 297, Value.ref 297] }
noncomputable def o347 : Obj := { cls := Value.type "builtin_function_or_method", data := Data.fields #[Value.builtin "object.__init_subclass__", Value.ref 297] }
noncomputable def o350 : Obj := { cls := Value.type "tuple", data := Data.seq #[Value.str (Str.ofString "ix") 574, Value.str (Str.ofString "found") 575, Value.str (Str.ofString "item") 576] }
noncomputable def o352 : Obj := { cls := Value.none, data := Data.func { name := Str.ofString "whole_subscripts", qualname := Str.ofString "whole_subscripts", params := fdP (stm 40), body := FuncBody.stmts (fdB (stm 40)), scope := fdS (stm 40), globals := 0, closure := [], defaults := Value.none, kwdefaults := Value.none } }
noncomputable def o353 : Obj := { cls := Value.type "code", data := Data.fields #[Value.str (Str.ofString "whole_subscripts") 571, Value.str (Str.ofString "whole_subscripts") 572, Value.str (Str.ofString "/claim/cut.py") 573, Value.int 214 0, Value.int 1 0, Value.int 0 0, Value.int 0 0, Value.int 3 0, Value.ref 300, Value.bool true, Value.int 181 0, Value.ref 301, Value.none, Value.ref 302, Value.ref 303, Value.ref 304, Value.int 577 0, Value.int 214 0, Value.str (Str.ofString "/claim/cut.py") 578] }
noncomputable def o354 : Obj := { cls := Value.type "function", data := Data.func { name := Str.ofString "whole_subscripts", qualname := Str.ofString "whole_subscripts", params := fdP (stm 40), body := FuncBody.stmts (fdB (stm 40)), scope := fdS (stm 40), globals := 3, closure := [], defaults := Value.none, kwdefaults := Value.none, pyModule := Value.str (Str.ofString "vectorcove.index") 569, code := Value.ref 305 } }
noncomputable def o357 : Obj := { cls := Value.type "tuple", data := Data.seq #[Value.str (Str.ofString "items") 583, Value.str (Str.ofString "n") 584, Value.str (Str.ofString "count") 585, Value.str (Str.ofString "places") 586, Value.str (Str.ofString "i") 587, Value.str (Str.ofString "item") 588] }
noncomputable def o359 : Obj := { cls := Value.none, data := Data.func { name := Str.ofString "logical_places", qualname := Str.ofString "logical_places", params := fdP (stm 41), body := FuncBody.stmts (fdB (stm 41)), scope := fdS (stm 41), globals := 0, closure := [], defaults := Value.none, kwdefaults := Value.none } }
noncomputable def o360 : Obj := { cls := Value.type "code", data := Data.fields #[Value.str (Str.ofString "logical_places") 580, Value.str (Str.ofString "logical_places") 581, Value.str (Str.ofString "/claim/cut.py") 582, Value.int 224 0, Value.int 2 0, Value.int 0 0, Value.int 0 0, Value.int 3 0, Value.ref 307, Value.bool true, Value.int 181 0, Value.ref 308, Value.none, Value.ref 309, Value.ref 310, Value.ref 311, Value.int 589 0, Value.int 224 0, Value.str (Str.ofString "/claim/cut.py") 590] }
noncomputable def o361 : Obj := { cls := Value.type "function", data := Data.func { name := Str.ofString "logical_places", qualname := Str.ofString "logical_places", params := fdP (stm 41), body := FuncBody.stmts (fdB (stm 41)), scope := fdS (stm 41), globals := 3, closure := [], defaults := Value.none, kwdefaults := Value.none, pyModule := Value.str (Str.ofString "vectorcove.index") 569, code := Value.ref 312 } }
noncomputable def o364 : Obj := { cls := Value.none, data := Data.func { name := Str.ofString "whole_places", qualname := Str.ofString "whole_places", params := fdP (stm 42), body := FuncBody.stmts (fdB (stm 42)), scope := fdS (stm 42), globals := 0, closure := [], defaults := Value.none, kwdefaults := Value.none } }
noncomputable def o365 : Obj := { cls := Value.type "code", data := Data.fields #[Value.str (Str.ofString "whole_places") 592, Value.str (Str.ofString "whole_places") 593, Value.str (Str.ofString "/claim/cut.py") 594, Value.int 236 0, Value.int 2 0, Value.int 0 0, Value.int 0 0, Value.int 3 0, Value.ref 314, Value.bool true, Value.int 181 0, Value.ref 315, Value.none, Value.none, Value.none, Value.ref 316, Value.int 595 0, Value.int 236 0, Value.str (Str.ofString "/claim/cut.py") 596] }
noncomputable def o366 : Obj := { cls := Value.type "function", data := Data.func { name := Str.ofString "whole_places", qualname := Str.ofString "whole_places", params := fdP (stm 42), body := FuncBody.stmts (fdB (stm 42)), scope := fdS (stm 42), globals := 3, closure := [], defaults := Value.none, kwdefaults := Value.none, pyModule := Value.str (Str.ofString "vectorcove.index") 569, code := Value.ref 317 } }
noncomputable def o369 : Obj := { cls := Value.type "tuple", data := Data.seq #[Value.str (Str.ofString "names") 601, Value.str (Str.ofString "table") 602, Value.str (Str.ofString "i") 603, Value.str (Str.ofString "name") 604] }
noncomputable def o371 : Obj := { cls := Value.none, data := Data.func { name := Str.ofString "first_places", qualname := Str.ofString "first_places", params := fdP (stm 43), body := FuncBody.stmts (fdB (stm 43)), scope := fdS (stm 43), globals := 0, closure := [], defaults := Value.none, kwdefaults := Value.none } }
noncomputable def o372 : Obj := { cls := Value.type "code", data := Data.fields #[Value.str (Str.ofString "first_places") 598, Value.str (Str.ofString "first_places") 599, Value.str (Str.ofString "/claim/cut.py") 600, Value.int 255 0, Value.int 1 0, Value.int 0 0, Value.int 0 0, Value.int 3 0, Value.ref 319, Value.bool true, Value.int 181 0, Value.ref 320, Value.none, Value.ref 321, Value.ref 322, Value.ref 323, Value.int 605 0, Value.int 255 0, Value.str (Str.ofString "/claim/cut.py") 606] }
noncomputable def o373 : Obj := { cls := Value.type "function", data := Data.func { name := Str.ofString "first_places", qualname := Str.ofString "first_places", params := fdP (stm 43), body := FuncBody.stmts (fdB (stm 43)), scope := fdS (stm 43), globals := 3, closure := [], defaults := Value.none, kwdefaults := Value.none, pyModule := Value.str (Str.ofString "vectorcove.index") 569, code := Value.ref 324 } }
noncomputable def o374 (P : Params) : Obj := { cls := Value.type "dict", data := Data.dict #[{ hash := PyData.keyHash P (Str.ofString "__name__"), key := Value.str (Str.ofString "__name__") 165, val := Value.str (Str.ofString "vectorcove.frames") 661 }, { hash := PyData.keyHash P (Str.ofString "__doc__"), key := Value.str (Str.ofString "__doc__") 166, val := Value.none }, { hash := PyData.keyHash P (Str.ofString "__package__"), key := Value.str (Str.ofString "__package__") 167, val := Value.none }, { hash := PyData.keyHash P (Str.ofString "__loader__"), key := Value.str (Str.ofString "__loader__") 168, val := Value.builtin "__main__.__loader__#opaque" }, { hash := PyData.keyHash P (Str.ofString "__spec__"), key := Value.str (Str.ofString "__spec__") 169, val := Value.none }, { hash := PyData.keyHash P (Str.ofString "__annotations__"), key := Value.str (Str.ofString "__annotations__") 170, val := Value.ref 6 }, { hash := PyData.keyHash P (Str.ofString "__builtins__"), key := Value.str (Str.ofString "__builtins__") 171, val := Value.ref 4 }, { hash := PyData.keyHash P (Str.ofString "__file__"), key := Value.str (Str.ofString "__file__") 173, val := Value.str (Str.ofString "/claim/cut.py") 172 }, { hash := PyData.keyHash P (Str.ofString "__cached__"), key := Value.str (Str.ofString "__cached__") 174, val := Value.none }, { hash := PyData.keyHash P (Str.ofString "_wall"), key := Value.str (Str.ofString "_wall") 193, val := Value.ref 21 }, { hash := PyData.keyHash P (Str.ofString "is_finite"), key := Value.str (Str.ofString "is_finite") 202, val := Value.ref 28 }, { hash := PyData.keyHash P (Str.ofString "to_whole"), key := Value.str (Str.ofString "to_whole") 210, val := Value.ref 35 }, { hash := PyData.keyHash P (Str.ofString "nearest_whole"), key := Value.str (Str.ofString "nearest_whole") 220, val := Value.ref 42 }, { hash := PyData.keyHash P (Str.ofString "exponent"), key := Value.str (Str.ofString "exponent") 230, val := Value.ref 49 }, { hash := PyData.keyHash P (Str.ofString "whole_text"), key := Value.str (Str.ofString "whole_text") 242, val := Value.ref 56 }, { hash := PyData.keyHash P (Str.ofString "special_text"), key := Value.str (Str.ofString "special_text") 249, val := Value.ref 63 }, { hash := PyData.keyHash P (Str.ofString "scaled"), key := Value.str (Str.ofString "scaled") 259, val := Value.ref 70 }, { hash := PyData.keyHash P (Str.ofString "significant"), key := Value.str (Str.ofString "significant") 269, val := Value.ref 77 }, { hash := PyData.keyHash P (Str.ofString "without_tail"), key := Value.str (Str.ofString "without_tail") 277, val := Value.ref 84 }, { hash := PyData.keyHash P (Str.ofString "scientific_text"), key := Value.str (Str.ofString "scientific_text") 289, val := Value.ref 91 }, { hash := PyData.keyHash P (Str.ofString "fixed_text"), key := Value.str (Str.ofString "fixed_text") 299, val := Value.ref 98 }, { hash := PyData.keyHash P (Str.ofString "measures"), key := Value.str (Str.ofString "measures") 312, val := Value.ref 105 }, { hash := PyData.keyHash P (Str.ofString "chosen_form"), key := Value.str (Str.ofString "chosen_form") 329, val := Value.ref 112 }, { hash := PyData.keyHash P (Str.ofString "formed"), key := Value.str (Str.ofString "formed") 338, val := Value.ref 119 }, { hash := PyData.keyHash P (Str.ofString "common_texts"), key := Value.str (Str.ofString "common_texts") 344, val := Value.ref 124 }, { hash := PyData.keyHash P (Str.ofString "number_text"), key := Value.str (Str.ofString "number_text") 353, val := Value.ref 132 }, { hash := PyData.keyHash P (Str.ofString "Null"), key := Value.str (Str.ofString "Null") 384, val := Value.ref 149 }, { hash := PyData.keyHash P (Str.ofString "Vector"), key := Value.str (Str.ofString "Vector") 426, val := Value.ref 178 }, { hash := PyData.keyHash P (Str.ofString "integer"), key := Value.str (Str.ofString "integer") 433, val := Value.ref 189 }, { hash := PyData.keyHash P (Str.ofString "character"), key := Value.str (Str.ofString "character") 440, val := Value.ref 196 }, { hash := PyData.keyHash P (Str.ofString "is_vector"), key := Value.str (Str.ofString "is_vector") 447, val := Value.ref 203 }, { hash := PyData.keyHash P (Str.ofString "is_atomic"), key := Value.str (Str.ofString "is_atomic") 454, val := Value.ref 210 }, { hash := PyData.keyHash P (Str.ofString "share"), key := Value.str (Str.ofString "share") 461, val := Value.ref 217 }, { hash := PyData.keyHash P (Str.ofString "get_attr"), key := Value.str (Str.ofString "get_attr") 471, val := Value.ref 224 }, { hash := PyData.keyHash P (Str.ofString "label_text"), key := Value.str (Str.ofString "label_text") 479, val := Value.ref 231 }, { hash := PyData.keyHash P (Str.ofString "level_at"), key := Value.str (Str.ofString "level_at") 487, val := Value.ref 238 }, { hash := PyData.keyHash P (Str.ofString "label_texts"), key := Value.str (Str.ofString "label_texts") 493, val := Value.ref 243 }, { hash := PyData.keyHash P (Str.ofString "names_of"), key := Value.str (Str.ofString "names_of") 499, val := Value.ref 248 }, { hash := PyData.keyHash P (Str.ofString "dim_of"), key := Value.str (Str.ofString "dim_of") 507, val := Value.ref 255 }, { hash := PyData.keyHash P (Str.ofString "dimnames_of"), key := Value.str (Str.ofString "dimnames_of") 513, val := Value.ref 260 }, { hash := PyData.keyHash P (Str.ofString "class_attr"), key := Value.str (Str.ofString "class_attr") 521, val := Value.ref 267 }, { hash := PyData.keyHash P (Str.ofString "CoveError"), key := Value.str (Str.ofString "CoveError") 543, val := Value.ref 277 }, { hash := PyData.keyHash P (Str.ofString "Refusal"), key := Value.str (Str.ofString "Refusal") 568, val := Value.ref 297 }, { hash := PyData.keyHash P (Str.ofString "whole_subscripts"), key := Value.str (Str.ofString "whole_subscripts") 579, val := Value.ref 306 }, { hash := PyData.keyHash P (Str.ofString "logical_places"), key := Value.str (Str.ofString "logical_places") 591, val := Value.ref 313 }, { hash := PyData.keyHash P (Str.ofString "whole_places"), key := Value.str (Str.ofString "whole_places") 597, val := Value.ref 318 }, { hash := PyData.keyHash P (Str.ofString "first_places"), key := Value.str (Str.ofString "first_places") 607, val := Value.ref 325 }, { hash := PyData.keyHash P (Str.ofString "name_places"), key := Value.str (Str.ofString "name_places") 618, val := Value.ref 332 }, { hash := PyData.keyHash P (Str.ofString "extending_places"), key := Value.str (Str.ofString "extending_places") 632, val := Value.ref 339 }, { hash := PyData.keyHash P (Str.ofString "positions"), key := Value.str (Str.ofString "positions") 643, val := Value.ref 346 }, { hash := PyData.keyHash P (Str.ofString "make_unique"), key := Value.str (Str.ofString "make_unique") 660, val := Value.ref 353 }, { hash := PyData.keyHash P (Str.ofString "is_frame"), key := Value.str (Str.ofString "is_frame") 671, val := Value.ref 360 }, { hash := PyData.keyHash P (Str.ofString "new_frame"), key := Value.str (Str.ofString "new_frame") 677, val := Value.ref 365 }, { hash := PyData.keyHash P (Str.ofString "plain_rows"), key := Value.str (Str.ofString "plain_rows") 684, val := Value.ref 372 }, { hash := PyData.keyHash P (Str.ofString "frame_rows"), key := Value.str (Str.ofString "frame_rows") 691, val := Value.ref 379 }, { hash := PyData.keyHash P (Str.ofString "column_names"), key := Value.str (Str.ofString "column_names") 697, val := Value.ref 384 }, { hash := PyData.keyHash P (Str.ofString "row_names"), key := Value.str (Str.ofString "row_names") 704, val := Value.ref 391 }, { hash := PyData.keyHash P (Str.ofString "kept_attrs"), key := Value.str (Str.ofString "kept_attrs") 713, val := Value.ref 398 }, { hash := PyData.keyHash P (Str.ofString "lacking"), key := Value.str (Str.ofString "lacking") 720, val := Value.ref 405 }] 59 }
noncomputable def o375 : Obj := { cls := Value.none, data := Data.fields #[Value.int 1 0, Value.int 0 0, Value.ref 20, Value.int 5 0, Value.int 0 0, Value.ref 27, Value.int 7 0, Value.int 0 0, Value.ref 34, Value.int 12 0, Value.int 0 0, Value.ref 41, Value.int 18 0, Value.int 0 0, Value.ref 48, Value.int 30 0, Value.int 0 0, Value.ref 55, Value.int 41 0, Value.int 0 0, Value.ref 62, Value.int 49 0, Value.int 0 0, Value.ref 69, Value.int 54 0, Value.int 0 0, Value.ref 76, Value.int 63 0, Value.int 0 0, Value.ref 83, Value.int 68 0, Value.int 0 0, Value.ref 90, Value.int 75 0, Value.int 0 0, Value.ref 97, Value.int 83 0, Value.int 0 0, Value.ref 104, Value.int 90 0, Value.int 0 0, Value.ref 111, Value.int 110 0, Value.int 0 0, Value.ref 118, Value.int 117 0, Value.int 0 0, Value.ref 123, Value.int 121 0, Value.int 0 0, Value.ref 131, Value.int 124 0, Value.int 0 0, Value.ref 138, Value.int 129 0, Value.int 0 0, Value.ref 159, Value.int 140 0, Value.int 0 0, Value.ref 188, Value.int 142 0, Value.int 0 0, Value.ref 195, Value.int 144 0, Value.int 0 0, Value.ref 202, Value.int 146 0, Value.int 0 0, Value.ref 209, Value.int 148 0, Value.int 0 0, Value.ref 216, Value.int 153 0, Value.int 0 0, Value.ref 223, Value.int 157 0, Value.int 0 0, Value.ref 230, Value.int 165 0, Value.int 0 0, Value.ref 237, Value.int 169 0, Value.int 0 0, Value.ref 242, Value.int 175 0, Value.int 0 0, Value.ref 247, Value.int 191 0, Value.int 0 0, Value.ref 254, Value.int 196 0, Value.int 0 0, Value.ref 259, Value.int 201 0, Value.int 0 0, Value.ref 266, Value.int 207 0, Value.int 0 0, Value.ref 273, Value.int 209 0, Value.int 0 0, Value.ref 286, Value.int 214 0, Value.int 0 0, Value.ref 305, Value.int 224 0, Value.int 0 0, Value.ref 312, Value.int 236 0, Value.int 0 0, Value.ref 317, Value.int 255 0, Value.int 0 0, Value.ref 324, Value.int 263 0, Value.int 0 0, Value.ref 331, Value.int 272 0, Value.int 0 0, Value.ref 338, Value.int 286 0, Value.int 0 0, Value.ref 345, Value.int 302 0, Value.int 0 0, Value.ref 352, Value.int 324 0, Value.int 0 0, Value.ref 359, Value.int 334 0, Value.int 0 0, Value.ref 364, Value.int 338 0, Value.int 0 0, Value.ref 371, Value.int 340 0, Value.int 0 0, Value.ref 378, Value.int 344 0, Value.int 0 0, Value.ref 383, Value.int 347 0, Value.int 0 0, Value.ref 390, Value.int 351 0, Value.int 0 0, Value.ref 397, Value.int 359 0, Value.int 0 0, Value.ref 404] }
noncomputable def o378 : Obj := { cls := Value.type "tuple", data := Data.seq #[Value.str (Str.ofString "texts") 611, Value.str (Str.ofString "names") 612, Value.str (Str.ofString "table") 613, Value.str (Str.ofString "places") 614, Value.str (Str.ofString "item") 615] }
noncomputable def o380 : Obj := { cls := Value.none, data := Data.func { name := Str.ofString "name_places", qualname := Str.ofString "name_places", params := fdP (stm 44), body := FuncBody.stmts (fdB (stm 44)), scope := fdS (stm 44), globals := 0, closure := [], defaults := Value.none, kwdefaults := Value.none } }
noncomputable def o381 : Obj := { cls := Value.type "code", data := Data.fields #[Value.str (Str.ofString "name_places") 608, Value.str (Str.ofString "name_places") 609, Value.str (Str.ofString "/claim/cut.py") 610, Value.int 263 0, Value.int 2 0, Value.int 0 0, Value.int 0 0, Value.int 3 0, Value.ref 326, Value.bool true, Value.int 181 0, Value.ref 327, Value.none, Value.ref 328, Value.ref 329, Value.ref 330, Value.int 616 0, Value.int 263 0, Value.str (Str.ofString "/claim/cut.py") 617] }
noncomputable def o382 : Obj := { cls := Value.type "function", data := Data.func { name := Str.ofString "name_places", qualname := Str.ofString "name_places", params := fdP (stm 44), body := FuncBody.stmts (fdB (stm 44)), scope := fdS (stm 44), globals := 3, closure := [], defaults := Value.none, kwdefaults := Value.none, pyModule := Value.str (Str.ofString "vectorcove.index") 569, code := Value.ref 331 } }
noncomputable def o385 : Obj := { cls := Value.type "tuple", data := Data.seq #[Value.str (Str.ofString "texts") 622, Value.str (Str.ofString "n") 623, Value.str (Str.ofString "names") 624, Value.str (Str.ofString "table") 625, Value.str (Str.ofString "places") 626, Value.str (Str.ofString "added") 627, Value.str (Str.ofString "item") 628, Value.str (Str.ofString "place") 629] }
noncomputable def o387 : Obj := { cls := Value.none, data := Data.func { name := Str.ofString "extending_places", qualname := Str.ofString "extending_places", params := fdP (stm 45), body := FuncBody.stmts (fdB (stm 45)), scope := fdS (stm 45), globals := 0, closure := [], defaults := Value.none, kwdefaults := Value.none } }
noncomputable def o388 : Obj := { cls := Value.type "code", data := Data.fields #[Value.str (Str.ofString "extending_places") 619, Value.str (Str.ofString "extending_places") 620, Value.str (Str.ofString "/claim/cut.py") 621, Value.int 272 0, Value.int 3 0, Value.int 0 0, Value.int 0 0, Value.int 3 0, Value.ref 333, Value.bool true, Value.int 181 0, Value.ref 334, Value.none, Value.ref 335, Value.ref 336, Value.ref 337, Value.int 630 0, Value.int 272 0, Value.str (Str.ofString "/claim/cut.py") 631] }
noncomputable def o389 : Obj := { cls := Value.type "function", data := Data.func { name := Str.ofString "extending_places", qualname := Str.ofString "extending_places", params := fdP (stm 45), body := FuncBody.stmts (fdB (stm 45)), scope := fdS (stm 45), globals := 3, closure := [], defaults := Value.none, kwdefaults := Value.none, pyModule := Value.str (Str.ofString "vectorcove.index") 569, code := Value.ref 338 } }
noncomputable def o392 : Obj := { cls := Value.type "tuple", data := Data.seq #[Value.str (Str.ofString "ix") 636, Value.str (Str.ofString "n") 637, Value.str (Str.ofString "names") 638, Value.str (Str.ofString "extend") 639, Value.str (Str.ofString "kind") 640] }
noncomputable def o394 : Obj := { cls := Value.none, data := Data.func { name := Str.ofString "positions", qualname := Str.ofString "positions", params := fdP (stm 46), body := FuncBody.stmts (fdB (stm 46)), scope := fdS (stm 46), globals := 0, closure := [], defaults := Value.none, kwdefaults := Value.none } }
noncomputable def o395 : Obj := { cls := Value.type "code", data := Data.fields #[Value.str (Str.ofString "positions") 633, Value.str (Str.ofString "positions") 634, Value.str (Str.ofString "/claim/cut.py") 635, Value.int 286 0, Value.int 4 0, Value.int 0 0, Value.int 0 0, Value.int 3 0, Value.ref 340, Value.bool true, Value.int 181 0, Value.ref 341, Value.none, Value.ref 342, Value.ref 343, Value.ref 344, Value.int 641 0, Value.int 286 0, Value.str (Str.ofString "/claim/cut.py") 642] }
noncomputable def o396 : Obj := { cls := Value.type "function", data := Data.func { name := Str.ofString "positions", qualname := Str.ofString "positions", params := fdP (stm 46), body := FuncBody.stmts (fdB (stm 46)), scope := fdS (stm 46), globals := 3, closure := [], defaults := Value.none, kwdefaults := Value.none, pyModule := Value.str (Str.ofString "vectorcove.index") 569, code := Value.ref 345 } }
noncomputable def o398 : Obj := { cls := Value.none, data := Data.fields #[] }
noncomputable def o399 : Obj := { cls := Value.type "tuple", data := Data.seq #[Value.str (Str.ofString "names") 649, Value.str (Str.ofString "sep") 650, Value.str (Str.ofString "taken") 651, Value.str (Str.ofString "name") 652, Value.str (Str.ofString "seen") 653, Value.str (Str.ofString "counts") 654, Value.str (Str.ofString "found") 655, Value.str (Str.ofString "number") 656, Value.str (Str.ofString "fresh") 657] }
noncomputable def o401 : Obj := { cls := Value.none, data := Data.func { name := Str.ofString "make_unique", qualname := Str.ofString "make_unique", params := fdP (stm 48), body := FuncBody.stmts (fdB (stm 48)), scope := fdS (stm 48), globals := 0, closure := [], defaults := Value.none, kwdefaults := Value.none } }
noncomputable def o402 : Obj := { cls := Value.type "code", data := Data.fields #[Value.str (Str.ofString "make_unique") 646, Value.str (Str.ofString "make_unique") 647, Value.str (Str.ofString "/claim/cut.py") 648, Value.int 302 0, Value.int 2 0, Value.int 0 0, Value.int 0 0, Value.int 3 0, Value.ref 347, Value.bool true, Value.int 181 0, Value.ref 348, Value.none, Value.ref 349, Value.ref 350, Value.ref 351, Value.int 658 0, Value.int 302 0, Value.str (Str.ofString "/claim/cut.py") 659] }
noncomputable def o403 : Obj := { cls := Value.type "function", data := Data.func { name := Str.ofString "make_unique", qualname := Str.ofString "make_unique", params := fdP (stm 48), body := FuncBody.stmts (fdB (stm 48)), scope := fdS (stm 48), globals := 3, closure := [], defaults := Value.none, kwdefaults := Value.none, pyModule := Value.str (Str.ofString "vectorcove.texts") 644, code := Value.ref 352 } }
noncomputable def o406 : Obj := { cls := Value.type "tuple", data := Data.seq #[Value.str (Str.ofString "v") 666, Value.str (Str.ofString "names") 667, Value.str (Str.ofString "column") 668] }
noncomputable def o408 : Obj := { cls := Value.none, data := Data.func { name := Str.ofString "is_frame", qualname := Str.ofString "is_frame", params := fdP (stm 50), body := FuncBody.stmts (fdB (stm 50)), scope := fdS (stm 50), globals := 0, closure := [], defaults := Value.none, kwdefaults := Value.none } }
noncomputable def o409 : Obj := { cls := Value.type "code", data := Data.fields #[Value.str (Str.ofString "is_frame") 663, Value.str (Str.ofString "is_frame") 664, Value.str (Str.ofString "/claim/cut.py") 665, Value.int 324 0, Value.int 1 0, Value.int 0 0, Value.int 0 0, Value.int 3 0, Value.ref 354, Value.bool true, Value.int 181 0, Value.ref 355, Value.none, Value.ref 356, Value.ref 357, Value.ref 358, Value.int 669 0, Value.int 324 0, Value.str (Str.ofString "/claim/cut.py") 670] }
noncomputable def o410 : Obj := { cls := Value.type "function", data := Data.func { name := Str.ofString "is_frame", qualname := Str.ofString "is_frame", params := fdP (stm 50), body := FuncBody.stmts (fdB (stm 50)), scope := fdS (stm 50), globals := 3, closure := [], defaults := Value.none, kwdefaults := Value.none, pyModule := Value.str (Str.ofString "vectorcove.frames") 661, code := Value.ref 359 } }
noncomputable def o413 : Obj := { cls := Value.none, data := Data.func { name := Str.ofString "new_frame", qualname := Str.ofString "new_frame", params := fdP (stm 51), body := FuncBody.stmts (fdB (stm 51)), scope := fdS (stm 51), globals := 0, closure := [], defaults := Value.none, kwdefaults := Value.none } }
noncomputable def o414 : Obj := { cls := Value.type "code", data := Data.fields #[Value.str (Str.ofString "new_frame") 672, Value.str (Str.ofString "new_frame") 673, Value.str (Str.ofString "/claim/cut.py") 674, Value.int 334 0, Value.int 3 0, Value.int 0 0, Value.int 0 0, Value.int 3 0, Value.ref 361, Value.bool true, Value.int 181 0, Value.ref 362, Value.none, Value.none, Value.none, Value.ref 363, Value.int 675 0, Value.int 334 0, Value.str (Str.ofString "/claim/cut.py") 676] }
noncomputable def o415 : Obj := { cls := Value.type "function", data := Data.func { name := Str.ofString "new_frame", qualname := Str.ofString "new_frame", params := fdP (stm 51), body := FuncBody.stmts (fdB (stm 51)), scope := fdS (stm 51), globals := 3, closure := [], defaults := Value.none, kwdefaults := Value.none, pyModule := Value.str (Str.ofString "vectorcove.frames") 661, code := Value.ref 364 } }
noncomputable def o418 : Obj := { cls := Value.type "tuple", data := Data.seq #[Value.str (Str.ofString "count") 681] }
noncomputable def o420 : Obj := { cls := Value.none, data := Data.func { name := Str.ofString "plain_rows", qualname := Str.ofString "plain_rows", params := fdP (stm 52), body := FuncBody.stmts (fdB (stm 52)), scope := fdS (stm 52), globals := 0, closure := [], defaults := Value.none, kwdefaults := Value.none } }
noncomputable def o421 : Obj := { cls := Value.type "code", data := Data.fields #[Value.str (Str.ofString "plain_rows") 678, Value.str (Str.ofString "plain_rows") 679, Value.str (Str.ofString "/claim/cut.py") 680, Value.int 338 0, Value.int 1 0, Value.int 0 0, Value.int 0 0, Value.int 3 0, Value.ref 366, Value.bool true, Value.int 181 0, Value.ref 367, Value.none, Value.ref 368, Value.ref 369, Value.ref 370, Value.int 682 0, Value.int 338 0, Value.str (Str.ofString "/claim/cut.py") 683] }
noncomputable def o422 : Obj := { cls := Value.type "function", data := Data.func { name := Str.ofString "plain_rows", qualname := Str.ofString "plain_rows", params := fdP (stm 52), body := FuncBody.stmts (fdB (stm 52)), scope := fdS (stm 52), globals := 3, closure := [], defaults := Value.none, kwdefaults := Value.none, pyModule := Value.str (Str.ofString "vectorcove.frames") 661, code := Value.ref 371 } }
noncomputable def o425 : Obj := { cls := Value.type "tuple", data := Data.seq #[Value.str (Str.ofString "df") 688] }
noncomputable def o427 : Obj := { cls := Value.none, data := Data.func { name := Str.ofString "frame_rows", qualname := Str.ofString "frame_rows", params := fdP (stm 53), body := FuncBody.stmts (fdB (stm 53)), scope := fdS (stm 53), globals := 0, closure := [], defaults := Value.none, kwdefaults := Value.none } }
noncomputable def o428 : Obj := { cls := Value.type "code", data := Data.fields #[Value.str (Str.ofString "frame_rows") 685, Value.str (Str.ofString "frame_rows") 686, Value.str (Str.ofString "/claim/cut.py") 687, Value.int 340 0, Value.int 1 0, Value.int 0 0, Value.int 0 0, Value.int 3 0, Value.ref 373, Value.bool true, Value.int 181 0, Value.ref 374, Value.none, Value.ref 375, Value.ref 376, Value.ref 377, Value.int 689 0, Value.int 340 0, Value.str (Str.ofString "/claim/cut.py") 690] }
noncomputable def o429 : Obj := { cls := Value.type "function", data := Data.func { name := Str.ofString "frame_rows", qualname := Str.ofString "frame_rows", params := fdP (stm 53), body := FuncBody.stmts (fdB (stm 53)), scope := fdS (stm 53), globals := 3, closure := [], defaults := Value.none, kwdefaults := Value.none, pyModule := Value.str (Str.ofString "vectorcove.frames") 661, code := Value.ref 378 } }
noncomputable def o432 : Obj := { cls := Value.none, data := Data.func { name := Str.ofString "column_names", qualname := Str.ofString "column_names", params := fdP (stm 54), body := FuncBody.stmts (fdB (stm 54)), scope := fdS (stm 54), globals := 0, closure := [], defaults := Value.none, kwdefaults := Value.none } }
noncomputable def o433 : Obj := { cls := Value.type "code", data := Data.fields #[Value.str (Str.ofString "column_names") 692, Value.str (Str.ofString "column_names") 693, Value.str (Str.ofString "/claim/cut.py") 694, Value.int 344 0, Value.int 1 0, Value.int 0 0, Value.int 0 0, Value.int 3 0, Value.ref 380, Value.bool true, Value.int 181 0, Value.ref 381, Value.none, Value.none, Value.none, Value.ref 382, Value.int 695 0, Value.int 344 0, Value.str (Str.ofString "/claim/cut.py") 696] }
noncomputable def o434 : Obj := { cls := Value.type "function", data := Data.func { name := Str.ofString "column_names", qualname := Str.ofString "column_names", params := fdP (stm 54), body := FuncBody.stmts (fdB (stm 54)), scope := fdS (stm 54), globals := 3, closure := [], defaults := Value.none, kwdefaults := Value.none, pyModule := Value.str (Str.ofString "vectorcove.frames") 661, code := Value.ref 383 } }
noncomputable def o437 : Obj := { cls := Value.type "tuple", data := Data.seq #[Value.str (Str.ofString "df") 701] }
noncomputable def o439 : Obj := { cls := Value.none, data := Data.func { name := Str.ofString "row_names", qualname := Str.ofString "row_names", params := fdP (stm 55), body := FuncBody.stmts (fdB (stm 55)), scope := fdS (stm 55), globals := 0, closure := [], defaults := Value.none, kwdefaults := Value.none } }
noncomputable def o440 : Obj := { cls := Value.type "code", data := Data.fields #[Value.str (Str.ofString "row_names") 698, Value.str (Str.ofString "row_names") 699, Value.str (Str.ofString "/claim/cut.py") 700, Value.int 347 0, Value.int 1 0, Value.int 0 0, Value.int 0 0, Value.int 3 0, Value.ref 385, Value.bool true, Value.int 181 0, Value.ref 386, Value.none, Value.ref 387, Value.ref 388, Value.ref 389, Value.int 702 0, Value.int 347 0, Value.str (Str.ofString "/claim/cut.py") 703] }
noncomputable def o441 : Obj := { cls := Value.type "function", data := Data.func { name := Str.ofString "row_names", qualname := Str.ofString "row_names", params := fdP (stm 55), body := FuncBody.stmts (fdB (stm 55)), scope := fdS (stm 55), globals := 3, closure := [], defaults := Value.none, kwdefaults := Value.none, pyModule := Value.str (Str.ofString "vectorcove.frames") 661, code := Value.ref 390 } }
noncomputable def o444 : Obj := { cls := Value.type "tuple", data := Data.seq #[Value.str (Str.ofString "column") 708, Value.str (Str.ofString "kept") 709, Value.str (Str.ofString "name") 710] }
noncomputable def o446 : Obj := { cls := Value.none, data := Data.func { name := Str.ofString "kept_attrs", qualname := Str.ofString "kept_attrs", params := fdP (stm 56), body := FuncBody.stmts (fdB (stm 56)), scope := fdS (stm 56), globals := 0, closure := [], defaults := Value.none, kwdefaults := Value.none } }
noncomputable def o447 : Obj := { cls := Value.type "code", data := Data.fields #[Value.str (Str.ofString "kept_attrs") 705, Value.str (Str.ofString "kept_attrs") 706, Value.str (Str.ofString "/claim/cut.py") 707, Value.int 351 0, Value.int 1 0, Value.int 0 0, Value.int 0 0, Value.int 3 0, Value.ref 392, Value.bool true, Value.int 181 0, Value.ref 393, Value.none, Value.ref 394, Value.ref 395, Value.ref 396, Value.int 711 0, Value.int 351 0, Value.str (Str.ofString "/claim/cut.py") 712] }
noncomputable def o448 : Obj := { cls := Value.type "function", data := Data.func { name := Str.ofString "kept_attrs", qualname := Str.ofString "kept_attrs", params := fdP (stm 56), body := FuncBody.stmts (fdB (stm 56)), scope := fdS (stm 56), globals := 3, closure := [], defaults := Value.none, kwdefaults := Value.none, pyModule := Value.str (Str.ofString "vectorcove.frames") 661, code := Value.ref 397 } }
noncomputable def o451 : Obj := { cls := Value.type "tuple", data := Data.seq #[Value.str (Str.ofString "kind") 717] }
noncomputable def o453 : Obj := { cls := Value.none, data := Data.func { name := Str.ofString "lacking", qualname := Str.ofString "lacking", params := fdP (stm 57), body := FuncBody.stmts (fdB (stm 57)), scope := fdS (stm 57), globals := 0, closure := [], defaults := Value.none, kwdefaults := Value.none } }
noncomputable def o454 : Obj := { cls := Value.type "code", data := Data.fields #[Value.str (Str.ofString "lacking") 714, Value.str (Str.ofString "lacking") 715, Value.str (Str.ofString "/claim/cut.py") 716, Value.int 359 0, Value.int 1 0, Value.int 0 0, Value.int 0 0, Value.int 3 0, Value.ref 399, Value.bool true, Value.int 181 0, Value.ref 400, Value.none, Value.ref 401, Value.ref 402, Value.ref 403, Value.int 718 0, Value.int 359 0, Value.str (Str.ofString "/claim/cut.py") 719] }
noncomputable def o455 : Obj := { cls := Value.type "function", data := Data.func { name := Str.ofString "lacking", qualname := Str.ofString "lacking", params := fdP (stm 57), body := FuncBody.stmts (fdB (stm 57)), scope := fdS (stm 57), globals := 3, closure := [], defaults := Value.none, kwdefaults := Value.none, pyModule := Value.str (Str.ofString "vectorcove.frames") 661, code := Value.ref 404 } }
noncomputable def o456 (P : Params) : Obj := { cls := Value.type "dict", data := Data.dict #[{ hash := PyData.keyHash P (Str.ofString "__name__"), key := Value.str (Str.ofString "__name__") 165, val := Value.str (Str.ofString "vectorcove.frames") 661 }, { hash := PyData.keyHash P (Str.ofString "__doc__"), key := Value.str (Str.ofString "__doc__") 166, val := Value.none }, { hash := PyData.keyHash P (Str.ofString "__package__"), key := Value.str (Str.ofString "__package__") 167, val := Value.none }, { hash := PyData.keyHash P (Str.ofString "__loader__"), key := Value.str (Str.ofString "__loader__") 168, val := Value.builtin "__main__.__loader__#opaque" }, { hash := PyData.keyHash P (Str.ofString "__spec__"), key := Value.str (Str.ofString "__spec__") 169, val := Value.none }, { hash := PyData.keyHash P (Str.ofString "__annotations__"), key := Value.str (Str.ofString "__annotations__") 170, val := Value.ref 6 }, { hash := PyData.keyHash P (Str.ofString "__builtins__"), key := Value.str (Str.ofString "__builtins__") 171, val := Value.ref 4 }, { hash := PyData.keyHash P (Str.ofString "__file__"), key := Value.str (Str.ofString "__file__") 173, val := Value.str (Str.ofString "/claim/cut.py") 172 }, { hash := PyData.keyHash P (Str.ofString "__cached__"), key := Value.str (Str.ofString "__cached__") 174, val := Value.none }, { hash := PyData.keyHash P (Str.ofString "_wall"), key := Value.str (Str.ofString "_wall") 193, val := Value.ref 21 }, { hash := PyData.keyHash P (Str.ofString "is_finite"), key := Value.str (Str.ofString "is_finite") 202, val := Value.ref 28 }, { hash := PyData.keyHash P (Str.ofString "to_whole"), key := Value.str (Str.ofString "to_whole") 210, val := Value.ref 35 }, { hash := PyData.keyHash P (Str.ofString "nearest_whole"), key := Value.str (Str.ofString "nearest_whole") 220, val := Value.ref 42 }, { hash := PyData.keyHash P (Str.ofString "exponent"), key := Value.str (Str.ofString "exponent") 230, val := Value.ref 49 }, { hash := PyData.keyHash P (Str.ofString "whole_text"), key := Value.str (Str.ofString "whole_text") 242, val := Value.ref 56 }, { hash := PyData.keyHash P (Str.ofString "special_text"), key := Value.str (Str.ofString "special_text") 249, val := Value.ref 63 }, { hash := PyData.keyHash P (Str.ofString "scaled"), key := Value.str (Str.ofString "scaled") 259, val := Value.ref 70 }, { hash := PyData.keyHash P (Str.ofString "significant"), key := Value.str (Str.ofString "significant") 269, val := Value.ref 77 }, { hash := PyData.keyHash P (Str.ofString "without_tail"), key := Value.str (Str.ofString "without_tail") 277, val := Value.ref 84 }, { hash := PyData.keyHash P (Str.ofString "scientific_text"), key := Value.str (Str.ofString "scientific_text") 289, val := Value.ref 91 }, { hash := PyData.keyHash P (Str.ofString "fixed_text"), key := Value.str (Str.ofString "fixed_text") 299, val := Value.ref 98 }, { hash := PyData.keyHash P (Str.ofString "measures"), key := Value.str (Str.ofString "measures") 312, val := Value.ref 105 }, { hash := PyData.keyHash P (Str.ofString "chosen_form"), key := Value.str (Str.ofString "chosen_form") 329, val := Value.ref 112 }, { hash := PyData.keyHash P (Str.ofString "formed"), key := Value.str (Str.ofString "formed") 338, val := Value.ref 119 }, { hash := PyData.keyHash P (Str.ofString "common_texts"), key := Value.str (Str.ofString "common_texts") 344, val := Value.ref 124 }, { hash := PyData.keyHash P (Str.ofString "number_text"), key := Value.str (Str.ofString "number_text") 353, val := Value.ref 132 }, { hash := PyData.keyHash P (Str.ofString "Null"), key := Value.str (Str.ofString "Null") 384, val := Value.ref 149 }, { hash := PyData.keyHash P (Str.ofString "Vector"), key := Value.str (Str.ofString "Vector") 426, val := Value.ref 178 }, { hash := PyData.keyHash P (Str.ofString "integer"), key := Value.str (Str.ofString "integer") 433, val := Value.ref 189 }, { hash := PyData.keyHash P (Str.ofString "character"), key := Value.str (Str.ofString "character") 440, val := Value.ref 196 }, { hash := PyData.keyHash P (Str.ofString "is_vector"), key := Value.str (Str.ofString "is_vector") 447, val := Value.ref 203 }, { hash := PyData.keyHash P (Str.ofString "is_atomic"), key := Value.str (Str.ofString "is_atomic") 454, val := Value.ref 210 }, { hash := PyData.keyHash P (Str.ofString "share"), key := Value.str (Str.ofString "share") 461, val := Value.ref 217 }, { hash := PyData.keyHash P (Str.ofString "get_attr"), key := Value.str (Str.ofString "get_attr") 471, val := Value.ref 224 }, { hash := PyData.keyHash P (Str.ofString "label_text"), key := Value.str (Str.ofString "label_text") 479, val := Value.ref 231 }, { hash := PyData.keyHash P (Str.ofString "level_at"), key := Value.str (Str.ofString "level_at") 487, val := Value.ref 238 }, { hash := PyData.keyHash P (Str.ofString "label_texts"), key := Value.str (Str.ofString "label_texts") 493, val := Value.ref 243 }, { hash := PyData.keyHash P (Str.ofString "names_of"), key := Value.str (Str.ofString "names_of") 499, val := Value.ref 248 }, { hash := PyData.keyHash P (Str.ofString "dim_of"), key := Value.str (Str.ofString "dim_of") 507, val := Value.ref 255 }, { hash := PyData.keyHash P (Str.ofString "dimnames_of"), key := Value.str (Str.ofString "dimnames_of") 513, val := Value.ref 260 }, { hash := PyData.keyHash P (Str.ofString "class_attr"), key := Value.str (Str.ofString "class_attr") 521, val := Value.ref 267 }, { hash := PyData.keyHash P (Str.ofString "CoveError"), key := Value.str (Str.ofString "CoveError") 543, val := Value.ref 277 }, { hash := PyData.keyHash P (Str.ofString "Refusal"), key := Value.str (Str.ofString "Refusal") 568, val := Value.ref 297 }, { hash := PyData.keyHash P (Str.ofString "whole_subscripts"), key := Value.str (Str.ofString "whole_subscripts") 579, val := Value.ref 306 }, { hash := PyData.keyHash P (Str.ofString "logical_places"), key := Value.str (Str.ofString "logical_places") 591, val := Value.ref 313 }, { hash := PyData.keyHash P (Str.ofString "whole_places"), key := Value.str (Str.ofString "whole_places") 597, val := Value.ref 318 }, { hash := PyData.keyHash P (Str.ofString "first_places"), key := Value.str (Str.ofString "first_places") 607, val := Value.ref 325 }, { hash := PyData.keyHash P (Str.ofString "name_places"), key := Value.str (Str.ofString "name_places") 618, val := Value.ref 332 }, { hash := PyData.keyHash P (Str.ofString "extending_places"), key := Value.str (Str.ofString "extending_places") 632, val := Value.ref 339 }, { hash := PyData.keyHash P (Str.ofString "positions"), key := Value.str (Str.ofString "positions") 643, val := Value.ref 346 }, { hash := PyData.keyHash P (Str.ofString "make_unique"), key := Value.str (Str.ofString "make_unique") 660, val := Value.ref 353 }, { hash := PyData.keyHash P (Str.ofString "is_frame"), key := Value.str (Str.ofString "is_frame") 671, val := Value.ref 360 }, { hash := PyData.keyHash P (Str.ofString "new_frame"), key := Value.str (Str.ofString "new_frame") 677, val := Value.ref 365 }, { hash := PyData.keyHash P (Str.ofString "plain_rows"), key := Value.str (Str.ofString "plain_rows") 684, val := Value.ref 372 }, { hash := PyData.keyHash P (Str.ofString "frame_rows"), key := Value.str (Str.ofString "frame_rows") 691, val := Value.ref 379 }, { hash := PyData.keyHash P (Str.ofString "column_names"), key := Value.str (Str.ofString "column_names") 697, val := Value.ref 384 }, { hash := PyData.keyHash P (Str.ofString "row_names"), key := Value.str (Str.ofString "row_names") 704, val := Value.ref 391 }, { hash := PyData.keyHash P (Str.ofString "kept_attrs"), key := Value.str (Str.ofString "kept_attrs") 713, val := Value.ref 398 }, { hash := PyData.keyHash P (Str.ofString "lacking"), key := Value.str (Str.ofString "lacking") 720, val := Value.ref 405 }, { hash := PyData.keyHash P (Str.ofString "pick_items"), key := Value.str (Str.ofString "pick_items") 731, val := Value.ref 412 }, { hash := PyData.keyHash P (Str.ofString "differing_lengths"), key := Value.str (Str.ofString "differing_lengths") 741, val := Value.ref 419 }, { hash := PyData.keyHash P (Str.ofString "recycled_columns"), key := Value.str (Str.ofString "recycled_columns") 747, val := Value.ref 424 }, { hash := PyData.keyHash P (Str.ofString "names_as_rows"), key := Value.str (Str.ofString "names_as_rows") 759, val := Value.ref 431 }, { hash := PyData.keyHash P (Str.ofString "make_frame"), key := Value.str (Str.ofString "make_frame") 772, val := Value.ref 438 }, { hash := PyData.keyHash P (Str.ofString "check_row_labels"), key := Value.str (Str.ofString "check_row_labels") 782, val := Value.ref 445 }, { hash := PyData.keyHash P (Str.ofString "picked_labels"), key := Value.str (Str.ofString "picked_labels") 788, val := Value.ref 450 }, { hash := PyData.keyHash P (Str.ofString "pick_rows"), key := Value.str (Str.ofString "pick_rows") 794, val := Value.ref 455 }, { hash := PyData.keyHash P (Str.ofString "is_absent"), key := Value.str (Str.ofString "is_absent") 801, val := Value.ref 462 }, { hash := PyData.keyHash P (Str.ofString "row_places"), key := Value.str (Str.ofString "row_places") 810, val := Value.ref 469 }, { hash := PyData.keyHash P (Str.ofString "column_places"), key := Value.str (Str.ofString "column_places") 821, val := Value.ref 476 }, { hash := PyData.keyHash P (Str.ofString "select_columns"), key := Value.str (Str.ofString "select_columns") 827, val := Value.ref 481 }, { hash := PyData.keyHash P (Str.ofString "subset_frame"), key := Value.str (Str.ofString "subset_frame") 840, val := Value.ref 488 }] 72 }
noncomputable def o457 : Obj := { cls := Value.none, data := Data.fields #[Value.int 1 0, Value.int 0 0, Value.ref 20, Value.int 5 0, Value.int 0 0, Value.ref 27, Value.int 7 0, Value.int 0 0, Value.ref 34, Value.int 12 0, Value.int 0 0, Value.ref 41, Value.int 18 0, Value.int 0 0, Value.ref 48, Value.int 30 0, Value.int 0 0, Value.ref 55, Value.int 41 0, Value.int 0 0, Value.ref 62, Value.int 49 0, Value.int 0 0, Value.ref 69, Value.int 54 0, Value.int 0 0, Value.ref 76, Value.int 63 0, Value.int 0 0, Value.ref 83, Value.int 68 0, Value.int 0 0, Value.ref 90, Value.int 75 0, Value.int 0 0, Value.ref 97, Value.int 83 0, Value.int 0 0, Value.ref 104, Value.int 90 0, Value.int 0 0, Value.ref 111, Value.int 110 0, Value.int 0 0, Value.ref 118, Value.int 117 0, Value.int 0 0, Value.ref 123, Value.int 121 0, Value.int 0 0, Value.ref 131, Value.int 124 0, Value.int 0 0, Value.ref 138, Value.int 129 0, Value.int 0 0, Value.ref 159, Value.int 140 0, Value.int 0 0, Value.ref 188, Value.int 142 0, Value.int 0 0, Value.ref 195, Value.int 144 0, Value.int 0 0, Value.ref 202, Value.int 146 0, Value.int 0 0, Value.ref 209, Value.int 148 0, Value.int 0 0, Value.ref 216, Value.int 153 0, Value.int 0 0, Value.ref 223, Value.int 157 0, Value.int 0 0, Value.ref 230, Value.int 165 0, Value.int 0 0, Value.ref 237, Value.int 169 0, Value.int 0 0, Value.ref 242, Value.int 175 0, Value.int 0 0, Value.ref 247, Value.int 191 0, Value.int 0 0, Value.ref 254, Value.int 196 0, Value.int 0 0, Value.ref 259, Value.int 201 0, Value.int 0 0, Value.ref 266, Value.int 207 0, Value.int 0 0, Value.ref 273, Value.int 209 0, Value.int 0 0, Value.ref 286, Value.int 214 0, Value.int 0 0, Value.ref 305, Value.int 224 0, Value.int 0 0, Value.ref 312, Value.int 236 0, Value.int 0 0, Value.ref 317, Value.int 255 0, Value.int 0 0, Value.ref 324, Value.int 263 0, Value.int 0 0, Value.ref 331, Value.int 272 0, Value.int 0 0, Value.ref 338, Value.int 286 0, Value.int 0 0, Value.ref 345, Value.int 302 0, Value.int 0 0, Value.ref 352, Value.int 324 0, Value.int 0 0, Value.ref 359, Value.int 334 0, Value.int 0 0, Value.ref 364, Value.int 338 0, Value.int 0 0, Value.ref 371, Value.int 340 0, Value.int 0 0, Value.ref 378, Value.int 344 0, Value.int 0 0, Value.ref 383, Value.int 347 0, Value.int 0 0, Value.ref 390, Value.int 351 0, Value.int 0 0, Value.ref 397, Value.int 359 0, Value.int 0 0, Value.ref 404, Value.int 363 0, Value.int 0 0, Value.ref 411, Value.int 372 0, Value.int 0 0, Value.ref 418, Value.int 379 0, Value.int 0 0, Value.ref 423, Value.int 390 0, Value.int 0 0, Value.ref 430, Value.int 400 0, Value.int 0 0, Value.ref 437, Value.int 412 0, Value.int 0 0, Value.ref 444, Value.int 422 0, Value.int 0 0, Value.ref 449, Value.int 438 0, Value.int 0 0, Value.ref 454, Value.int 441 0, Value.int 0 0, Value.ref 461, Value.int 443 0, Value.int 0 0, Value.ref 468, Value.int 448 0, Value.int 0 0, Value.ref 475, Value.int 457 0, Value.int 0 0, Value.ref 480, Value.int 462 0, Value.int 0 0, Value.ref 487] }
noncomputable def o460 : Obj := { cls := Value.type "tuple", data := Data.seq #[Value.str (Str.ofString "column") 724, Value.str (Str.ofString "places") 725, Value.str (Str.ofString "items") 726, Value.str (Str.ofString "count") 727, Value.str (Str.ofString "place") 728] }
noncomputable def o462 : Obj := { cls := Value.none, data := Data.func { name := Str.ofString "pick_items", qualname := Str.ofString "pick_items", params := fdP (stm 58), body := FuncBody.stmts (fdB (stm 58)), scope := fdS (stm 58), globals := 0, closure := [], defaults := Value.none, kwdefaults := Value.none } }
noncomputable def o463 : Obj := { cls := Value.type "code", data := Data.fields #[Value.str (Str.ofString "pick_items") 721, Value.str (Str.ofString "pick_items") 722, Value.str (Str.ofString "/claim/cut.py") 723, Value.int 363 0, Value.int 2 0, Value.int 0 0, Value.int 0 0, Value.int 3 0, Value.ref 406, Value.bool true, Value.int 181 0, Value.ref 407, Value.none, Value.ref 408, Value.ref 409, Value.ref 410, Value.int 729 0, Value.int 363 0, Value.str (Str.ofString "/claim/cut.py") 730] }
noncomputable def o464 : Obj := { cls := Value.type "function", data := Data.func { name := Str.ofString "pick_items", qualname := Str.ofString "pick_items", params := fdP (stm 58), body := FuncBody.stmts (fdB (stm 58)), scope := fdS (stm 58), globals := 3, closure := [], defaults := Value.none, kwdefaults := Value.none, pyModule := Value.str (Str.ofString "vectorcove.frames") 661, code := Value.ref 411 } }
noncomputable def o467 : Obj := { cls := Value.type "tuple", data := Data.seq #[Value.str (Str.ofString "columns") 735, Value.str (Str.ofString "found") 736, Value.str (Str.ofString "column") 737, Value.str (Str.ofString "one") 738] }
noncomputable def o469 : Obj := { cls := Value.none, data := Data.func { name := Str.ofString "differing_lengths", qualname := Str.ofString "differing_lengths", params := fdP (stm 59), body := FuncBody.stmts (fdB (stm 59)), scope := fdS (stm 59), globals := 0, closure := [], defaults := Value.none, kwdefaults := Value.none } }
noncomputable def o470 : Obj := { cls := Value.type "code", data := Data.fields #[Value.str (Str.ofString "differing_lengths") 732, Value.str (Str.ofString "differing_lengths") 733, Value.str (Str.ofString "/claim/cut.py") 734, Value.int 372 0, Value.int 1 0, Value.int 0 0, Value.int 0 0, Value.int 3 0, Value.ref 413, Value.bool true, Value.int 181 0, Value.ref 414, Value.none, Value.ref 415, Value.ref 416, Value.ref 417, Value.int 739 0, Value.int 372 0, Value.str (Str.ofString "/claim/cut.py") 740] }
noncomputable def o471 : Obj := { cls := Value.type "function", data := Data.func { name := Str.ofString "differing_lengths", qualname := Str.ofString "differing_lengths", params := fdP (stm 59), body := FuncBody.stmts (fdB (stm 59)), scope := fdS (stm 59), globals := 3, closure := [], defaults := Value.none, kwdefaults := Value.none, pyModule := Value.str (Str.ofString "vectorcove.frames") 661, code := Value.ref 418 } }
noncomputable def o474 : Obj := { cls := Value.none, data := Data.func { name := Str.ofString "recycled_columns", qualname := Str.ofString "recycled_columns", params := fdP (stm 60), body := FuncBody.stmts (fdB (stm 60)), scope := fdS (stm 60), globals := 0, closure := [], defaults := Value.none, kwdefaults := Value.none } }
noncomputable def o475 : Obj := { cls := Value.type "code", data := Data.fields #[Value.str (Str.ofString "recycled_columns") 742, Value.str (Str.ofString "recycled_columns") 743, Value.str (Str.ofString "/claim/cut.py") 744, Value.int 379 0, Value.int 2 0, Value.int 0 0, Value.int 0 0, Value.int 3 0, Value.ref 420, Value.bool true, Value.int 181 0, Value.ref 421, Value.none, Value.none, Value.none, Value.ref 422, Value.int 745 0, Value.int 379 0, Value.str (Str.ofString "/claim/cut.py") 746] }
noncomputable def o476 : Obj := { cls := Value.type "function", data := Data.func { name := Str.ofString "recycled_columns", qualname := Str.ofString "recycled_columns", params := fdP (stm 60), body := FuncBody.stmts (fdB (stm 60)), scope := fdS (stm 60), globals := 3, closure := [], defaults := Value.none, kwdefaults := Value.none, pyModule := Value.str (Str.ofString "vectorcove.frames") 661, code := Value.ref 423 } }
noncomputable def o479 : Obj := { cls := Value.type "tuple", data := Data.seq #[Value.str (Str.ofString "columns") 751, Value.str (Str.ofString "rows") 752, Value.str (Str.ofString "column") 753, Value.str (Str.ofString "names") 754, Value.str (Str.ofString "distinct") 755, Value.str (Str.ofString "name") 756] }
noncomputable def o481 : Obj := { cls := Value.none, data := Data.func { name := Str.ofString "names_as_rows", qualname := Str.ofString "names_as_rows", params := fdP (stm 61), body := FuncBody.stmts (fdB (stm 61)), scope := fdS (stm 61), globals := 0, closure := [], defaults := Value.none, kwdefaults := Value.none } }
noncomputable def o482 : Obj := { cls := Value.type "code", data := Data.fields #[Value.str (Str.ofString "names_as_rows") 748, Value.str (Str.ofString "names_as_rows") 749, Value.str (Str.ofString "/claim/cut.py") 750, Value.int 390 0, Value.int 2 0, Value.int 0 0, Value.int 0 0, Value.int 3 0, Value.ref 425, Value.bool true, Value.int 181 0, Value.ref 426, Value.none, Value.ref 427, Value.ref 428, Value.ref 429, Value.int 757 0, Value.int 390 0, Value.str (Str.ofString "/claim/cut.py") 758] }
noncomputable def o483 : Obj := { cls := Value.type "function", data := Data.func { name := Str.ofString "names_as_rows", qualname := Str.ofString "names_as_rows", params := fdP (stm 61), body := FuncBody.stmts (fdB (stm 61)), scope := fdS (stm 61), globals := 3, closure := [], defaults := Value.none, kwdefaults := Value.none, pyModule := Value.str (Str.ofString "vectorcove.frames") 661, code := Value.ref 430 } }
noncomputable def o486 : Obj := { cls := Value.type "tuple", data := Data.seq #[Value.str (Str.ofString "columns") 763, Value.str (Str.ofString "names") 764, Value.str (Str.ofString "row_labels") 765, Value.str (Str.ofString "rows") 766, Value.str (Str.ofString "column") 767, Value.str (Str.ofString "made") 768, Value.str (Str.ofString "found") 769] }
noncomputable def o488 : Obj := { cls := Value.none, data := Data.func { name := Str.ofString "make_frame", qualname := Str.ofString "make_frame", params := fdP (stm 62), body := FuncBody.stmts (fdB (stm 62)), scope := fdS (stm 62), globals := 0, closure := [], defaults := Value.none, kwdefaults := Value.none } }
noncomputable def o489 : Obj := { cls := Value.type "code", data := Data.fields #[Value.str (Str.ofString "make_frame") 760, Value.str (Str.ofString "make_frame") 761, Value.str (Str.ofString "/claim/cut.py") 762, Value.int 400 0, Value.int 3 0, Value.int 0 0, Value.int 0 0, Value.int 3 0, Value.ref 432, Value.bool true, Value.int 181 0, Value.ref 433, Value.none, Value.ref 434, Value.ref 435, Value.ref 436, Value.int 770 0, Value.int 400 0, Value.str (Str.ofString "/claim/cut.py") 771] }
noncomputable def o490 : Obj := { cls := Value.type "function", data := Data.func { name := Str.ofString "make_frame", qualname := Str.ofString "make_frame", params := fdP (stm 62), body := FuncBody.stmts (fdB (stm 62)), scope := fdS (stm 62), globals := 3, closure := [], defaults := Value.none, kwdefaults := Value.none, pyModule := Value.str (Str.ofString "vectorcove.frames") 661, code := Value.ref 437 } }
noncomputable def o493 : Obj := { cls := Value.type "tuple", data := Data.seq #[Value.str (Str.ofString "labels") 776, Value.str (Str.ofString "rows") 777, Value.str (Str.ofString "seen") 778, Value.str (Str.ofString "item") 779] }
noncomputable def o495 : Obj := { cls := Value.none, data := Data.func { name := Str.ofString "check_row_labels", qualname := Str.ofString "check_row_labels", params := fdP (stm 63), body := FuncBody.stmts (fdB (stm 63)), scope := fdS (stm 63), globals := 0, closure := [], defaults := Value.none, kwdefaults := Value.none } }
noncomputable def o496 : Obj := { cls := Value.type "code", data := Data.fields #[Value.str (Str.ofString "check_row_labels") 773, Value.str (Str.ofString "check_row_labels") 774, Value.str (Str.ofString "/claim/cut.py") 775, Value.int 412 0, Value.int 2 0, Value.int 0 0, Value.int 0 0, Value.int 3 0, Value.ref 439, Value.bool true, Value.int 181 0, Value.ref 440, Value.none, Value.ref 441, Value.ref 442, Value.ref 443, Value.int 780 0, Value.int 412 0, Value.str (Str.ofString "/claim/cut.py") 781] }
noncomputable def o497 : Obj := { cls := Value.type "function", data := Data.func { name := Str.ofString "check_row_labels", qualname := Str.ofString "check_row_labels", params := fdP (stm 63), body := FuncBody.stmts (fdB (stm 63)), scope := fdS (stm 63), globals := 3, closure := [], defaults := Value.none, kwdefaults := Value.none, pyModule := Value.str (Str.ofString "vectorcove.frames") 661, code := Value.ref 444 } }
noncomputable def o500 : Obj := { cls := Value.none, data := Data.func { name := Str.ofString "picked_labels", qualname := Str.ofString "picked_labels", params := fdP (stm 64), body := FuncBody.stmts (fdB (stm 64)), scope := fdS (stm 64), globals := 0, closure := [], defaults := Value.none, kwdefaults := Value.none } }
noncomputable def o501 : Obj := { cls := Value.type "code", data := Data.fields #[Value.str (Str.ofString "picked_labels") 783, Value.str (Str.ofString "picked_labels") 784, Value.str (Str.ofString "/claim/cut.py") 785, Value.int 422 0, Value.int 2 0, Value.int 0 0, Value.int 0 0, Value.int 3 0, Value.ref 446, Value.bool true, Value.int 181 0, Value.ref 447, Value.none, Value.none, Value.none, Value.ref 448, Value.int 786 0, Value.int 422 0, Value.str (Str.ofString "/claim/cut.py") 787] }
noncomputable def o502 : Obj := { cls := Value.type "function", data := Data.func { name := Str.ofString "picked_labels", qualname := Str.ofString "picked_labels", params := fdP (stm 64), body := FuncBody.stmts (fdB (stm 64)), scope := fdS (stm 64), globals := 3, closure := [], defaults := Value.none, kwdefaults := Value.none, pyModule := Value.str (Str.ofString "vectorcove.frames") 661, code := Value.ref 449 } }
noncomputable def o505 : Obj := { cls := Value.none, data := Data.func { name := Str.ofString "pick_rows", qualname := Str.ofString "pick_rows", params := fdP (stm 65), body := FuncBody.stmts (fdB (stm 65)), scope := fdS (stm 65), globals := 0, closure := [], defaults := Value.none, kwdefaults := Value.none } }
noncomputable def o506 : Obj := { cls := Value.type "code", data := Data.fields #[Value.str (Str.ofString "pick_rows") 789, Value.str (Str.ofString "pick_rows") 790, Value.str (Str.ofString "/claim/cut.py") 791, Value.int 438 0, Value.int 2 0, Value.int 0 0, Value.int 0 0, Value.int 3 0, Value.ref 451, Value.bool true, Value.int 181 0, Value.ref 452, Value.none, Value.none, Value.none, Value.ref 453, Value.int 792 0, Value.int 438 0, Value.str (Str.ofString "/claim/cut.py") 793] }
noncomputable def o507 : Obj := { cls := Value.type "function", data := Data.func { name := Str.ofString "pick_rows", qualname := Str.ofString "pick_rows", params := fdP (stm 65), body := FuncBody.stmts (fdB (stm 65)), scope := fdS (stm 65), globals := 3, closure := [], defaults := Value.none, kwdefaults := Value.none, pyModule := Value.str (Str.ofString "vectorcove.frames") 661, code := Value.ref 454 } }
noncomputable def o510 : Obj := { cls := Value.type "tuple", data := Data.seq #[Value.str (Str.ofString "ix") 798] }
noncomputable def o512 : Obj := { cls := Value.none, data := Data.func { name := Str.ofString "is_absent", qualname := Str.ofString "is_absent", params := fdP (stm 66), body := FuncBody.stmts (fdB (stm 66)), scope := fdS (stm 66), globals := 0, closure := [], defaults := Value.none, kwdefaults := Value.none } }
noncomputable def o513 : Obj := { cls := Value.type "code", data := Data.fields #[Value.str (Str.ofString "is_absent") 795, Value.str (Str.ofString "is_absent") 796, Value.str (Str.ofString "/claim/cut.py") 797, Value.int 441 0, Value.int 1 0, Value.int 0 0, Value.int 0 0, Value.int 3 0, Value.ref 456, Value.bool true, Value.int 181 0, Value.ref 457, Value.none, Value.ref 458, Value.ref 459, Value.ref 460, Value.int 799 0, Value.int 441 0, Value.str (Str.ofString "/claim/cut.py") 800] }
noncomputable def o514 : Obj := { cls := Value.type "function", data := Data.func { name := Str.ofString "is_absent", qualname := Str.ofString "is_absent", params := fdP (stm 66), body := FuncBody.stmts (fdB (stm 66)), scope := fdS (stm 66), globals := 3, closure := [], defaults := Value.none, kwdefaults := Value.none, pyModule := Value.str (Str.ofString "vectorcove.frames") 661, code := Value.ref 461 } }
noncomputable def o517 : Obj := { cls := Value.type "tuple", data := Data.seq #[Value.str (Str.ofString "df") 805, Value.str (Str.ofString "ix") 806, Value.str (Str.ofString "count") 807] }
noncomputable def o519 : Obj := { cls := Value.none, data := Data.func { name := Str.ofString "row_places", qualname := Str.ofString "row_places", params := fdP (stm 67), body := FuncBody.stmts (fdB (stm 67)), scope := fdS (stm 67), globals := 0, closure := [], defaults := Value.none, kwdefaults := Value.none } }
noncomputable def o520 : Obj := { cls := Value.type "code", data := Data.fields #[Value.str (Str.ofString "row_places") 802, Value.str (Str.ofString "row_places") 803, Value.str (Str.ofString "/claim/cut.py") 804, Value.int 443 0, Value.int 2 0, Value.int 0 0, Value.int 0 0, Value.int 3 0, Value.ref 463, Value.bool true, Value.int 181 0, Value.ref 464, Value.none, Value.ref 465, Value.ref 466, Value.ref 467, Value.int 808 0, Value.int 443 0, Value.str (Str.ofString "/claim/cut.py") 809] }
noncomputable def o521 : Obj := { cls := Value.type "function", data := Data.func { name := Str.ofString "row_places", qualname := Str.ofString "row_places", params := fdP (stm 67), body := FuncBody.stmts (fdB (stm 67)), scope := fdS (stm 67), globals := 3, closure := [], defaults := Value.none, kwdefaults := Value.none, pyModule := Value.str (Str.ofString "vectorcove.frames") 661, code := Value.ref 468 } }
noncomputable def o524 : Obj := { cls := Value.type "tuple", data := Data.seq #[Value.str (Str.ofString "df") 814, Value.str (Str.ofString "ix") 815, Value.str (Str.ofString "count") 816, Value.str (Str.ofString "places") 817, Value.str (Str.ofString "place") 818] }
noncomputable def o526 : Obj := { cls := Value.none, data := Data.func { name := Str.ofString "column_places", qualname := Str.ofString "column_places", params := fdP (stm 68), body := FuncBody.stmts (fdB (stm 68)), scope := fdS (stm 68), globals := 0, closure := [], defaults := Value.none, kwdefaults := Value.none } }
noncomputable def o527 : Obj := { cls := Value.type "code", data := Data.fields #[Value.str (Str.ofString "column_places") 811, Value.str (Str.ofString "column_places") 812, Value.str (Str.ofString "/claim/cut.py") 813, Value.int 448 0, Value.int 2 0, Value.int 0 0, Value.int 0 0, Value.int 3 0, Value.ref 470, Value.bool true, Value.int 181 0, Value.ref 471, Value.none, Value.ref 472, Value.ref 473, Value.ref 474, Value.int 819 0, Value.int 448 0, Value.str (Str.ofString "/claim/cut.py") 820] }
noncomputable def o528 : Obj := { cls := Value.type "function", data := Data.func { name := Str.ofString "column_places", qualname := Str.ofString "column_places", params := fdP (stm 68), body := FuncBody.stmts (fdB (stm 68)), scope := fdS (stm 68), globals := 3, closure := [], defaults := Value.none, kwdefaults := Value.none, pyModule := Value.str (Str.ofString "vectorcove.frames") 661, code := Value.ref 475 } }
noncomputable def o531 : Obj := { cls := Value.none, data := Data.func { name := Str.ofString "select_columns", qualname := Str.ofString "select_columns", params := fdP (stm 69), body := FuncBody.stmts (fdB (stm 69)), scope := fdS (stm 69), globals := 0, closure := [], defaults := Value.none, kwdefaults := Value.none } }
noncomputable def o532 : Obj := { cls := Value.type "code", data := Data.fields #[Value.str (Str.ofString "select_columns") 822, Value.str (Str.ofString "select_columns") 823, Value.str (Str.ofString "/claim/cut.py") 824, Value.int 457 0, Value.int 2 0, Value.int 0 0, Value.int 0 0, Value.int 3 0, Value.ref 477, Value.bool true, Value.int 181 0, Value.ref 478, Value.none, Value.none, Value.none, Value.ref 479, Value.int 825 0, Value.int 457 0, Value.str (Str.ofString "/claim/cut.py") 826] }
noncomputable def o533 : Obj := { cls := Value.type "function", data := Data.func { name := Str.ofString "select_columns", qualname := Str.ofString "select_columns", params := fdP (stm 69), body := FuncBody.stmts (fdB (stm 69)), scope := fdS (stm 69), globals := 3, closure := [], defaults := Value.none, kwdefaults := Value.none, pyModule := Value.str (Str.ofString "vectorcove.frames") 661, code := Value.ref 480 } }
noncomputable def o536 : Obj := { cls := Value.type "tuple", data := Data.seq #[Value.str (Str.ofString "df") 831, Value.str (Str.ofString "i") 832, Value.str (Str.ofString "j") 833, Value.str (Str.ofString "drop") 834, Value.str (Str.ofString "chosen") 835, Value.str (Str.ofString "places") 836, Value.str (Str.ofString "made") 837] }
noncomputable def o538 : Obj := { cls := Value.none, data := Data.func { name := Str.ofString "subset_frame", qualname := Str.ofString "subset_frame", params := fdP (stm 70), body := FuncBody.stmts (fdB (stm 70)), scope := fdS (stm 70), globals := 0, closure := [], defaults := Value.none, kwdefaults := Value.none } }
noncomputable def o539 : Obj := { cls := Value.type "code", data := Data.fields #[Value.str (Str.ofString "subset_frame") 828, Value.str (Str.ofString "subset_frame") 829, Value.str (Str.ofString "/claim/cut.py") 830, Value.int 462 0, Value.int 4 0, Value.int 0 0, Value.int 0 0, Value.int 3 0, Value.ref 482, Value.bool true, Value.int 181 0, Value.ref 483, Value.none, Value.ref 484, Value.ref 485, Value.ref 486, Value.int 838 0, Value.int 462 0, Value.str (Str.ofString "/claim/cut.py") 839] }
noncomputable def o540 : Obj := { cls := Value.type "function", data := Data.func { name := Str.ofString "subset_frame", qualname := Str.ofString "subset_frame", params := fdP (stm 70), body := FuncBody.stmts (fdB (stm 70)), scope := fdS (stm 70), globals := 3, closure := [], defaults := Value.none, kwdefaults := Value.none, pyModule := Value.str (Str.ofString "vectorcove.frames") 661, code := Value.ref 487 } }
noncomputable def o541 (P : Params) : Obj := { cls := Value.type "dict", data := Data.dict #[{ hash := PyData.keyHash P (Str.ofString "__name__"), key := Value.str (Str.ofString "__name__") 165, val := Value.str (Str.ofString "law_ov0078_01") 875 }, { hash := PyData.keyHash P (Str.ofString "__doc__"), key := Value.str (Str.ofString "__doc__") 166, val := Value.none }, { hash := PyData.keyHash P (Str.ofString "__package__"), key := Value.str (Str.ofString "__package__") 167, val := Value.none }, { hash := PyData.keyHash P (Str.ofString "__loader__"), key := Value.str (Str.ofString "__loader__") 168, val := Value.builtin "__main__.__loader__#opaque" }, { hash := PyData.keyHash P (Str.ofString "__spec__"), key := Value.str (Str.ofString "__spec__") 169, val := Value.none }, { hash := PyData.keyHash P (Str.ofString "__annotations__"), key := Value.str (Str.ofString "__annotations__") 170, val := Value.ref 6 }, { hash := PyData.keyHash P (Str.ofString "__builtins__"), key := Value.str (Str.ofString "__builtins__") 171, val := Value.ref 4 }, { hash := PyData.keyHash P (Str.ofString "__file__"), key := Value.str (Str.ofString "__file__") 173, val := Value.str (Str.ofString "/claim/cut.py") 172 }, { hash := PyData.keyHash P (Str.ofString "__cached__"), key := Value.str (Str.ofString "__cached__") 174, val := Value.none }, { hash := PyData.keyHash P (Str.ofString "_wall"), key := Value.str (Str.ofString "_wall") 193, val := Value.ref 21 }, { hash := PyData.keyHash P (Str.ofString "is_finite"), key := Value.str (Str.ofString "is_finite") 202, val := Value.ref 28 }, { hash := PyData.keyHash P (Str.ofString "to_whole"), key := Value.str (Str.ofString "to_whole") 210, val := Value.ref 35 }, { hash := PyData.keyHash P (Str.ofString "nearest_whole"), key := Value.str (Str.ofString "nearest_whole") 220, val := Value.ref 42 }, { hash := PyData.keyHash P (Str.ofString "exponent"), key := Value.str (Str.ofString "exponent") 230, val := Value.ref 49 }, { hash := PyData.keyHash P (Str.ofString "whole_text"), key := Value.str (Str.ofString "whole_text") 242, val := Value.ref 56 }, { hash := PyData.keyHash P (Str.ofString "special_text"), key := Value.str (Str.ofString "special_text") 249, val := Value.ref 63 }, { hash := PyData.keyHash P (Str.ofString "scaled"), key := Value.str (Str.ofString "scaled") 259, val := Value.ref 70 }, { hash := PyData.keyHash P (Str.ofString "significant"), key := Value.str (Str.ofString "significant") 269, val := Value.ref 77 }, { hash := PyData.keyHash P (Str.ofString "without_tail"), key := Value.str (Str.ofString "without_tail") 277, val := Value.ref 84 }, { hash := PyData.keyHash P (Str.ofString "scientific_text"), key := Value.str (Str.ofString "scientific_text") 289, val := Value.ref 91 }, { hash := PyData.keyHash P (Str.ofString "fixed_text"), key := Value.str (Str.ofString "fixed_text") 299, val := Value.ref 98 }, { hash := PyData.keyHash P (Str.ofString "measures"), key := Value.str (Str.ofString "measures") 312, val := Value.ref 105 }, { hash := PyData.keyHash P (Str.ofString "chosen_form"), key := Value.str (Str.ofString "chosen_form") 329, val := Value.ref 112 }, { hash := PyData.keyHash P (Str.ofString "formed"), key := Value.str (Str.ofString "formed") 338, val := Value.ref 119 }, { hash := PyData.keyHash P (Str.ofString "common_texts"), key := Value.str (Str.ofString "common_texts") 344, val := Value.ref 124 }, { hash := PyData.keyHash P (Str.ofString "number_text"), key := Value.str (Str.ofString "number_text") 353, val := Value.ref 132 }, { hash := PyData.keyHash P (Str.ofString "Null"), key := Value.str (Str.ofString "Null") 384, val := Value.ref 149 }, { hash := PyData.keyHash P (Str.ofString "Vector"), key := Value.str (Str.ofString "Vector") 426, val := Value.ref 178 }, { hash := PyData.keyHash P (Str.ofString "integer"), key := Value.str (Str.ofString "integer") 433, val := Value.ref 189 }, { hash := PyData.keyHash P (Str.ofString "character"), key := Value.str (Str.ofString "character") 440, val := Value.ref 196 }, { hash := PyData.keyHash P (Str.ofString "is_vector"), key := Value.str (Str.ofString "is_vector") 447, val := Value.ref 203 }, { hash := PyData.keyHash P (Str.ofString "is_atomic"), key := Value.str (Str.ofString "is_atomic") 454, val := Value.ref 210 }, { hash := PyData.keyHash P (Str.ofString "share"), key := Value.str (Str.ofString "share") 461, val := Value.ref 217 }, { hash := PyData.keyHash P (Str.ofString "get_attr"), key := Value.str (Str.ofString "get_attr") 471, val := Value.ref 224 }, { hash := PyData.keyHash P (Str.ofString "label_text"), key := Value.str (Str.ofString "label_text") 479, val := Value.ref 231 }, { hash := PyData.keyHash P (Str.ofString "level_at"), key := Value.str (Str.ofString "level_at") 487, val := Value.ref 238 }, { hash := PyData.keyHash P (Str.ofString "label_texts"), key := Value.str (Str.ofString "label_texts") 493, val := Value.ref 243 }, { hash := PyData.keyHash P (Str.ofString "names_of"), key := Value.str (Str.ofString "names_of") 499, val := Value.ref 248 }, { hash := PyData.keyHash P (Str.ofString "dim_of"), key := Value.str (Str.ofString "dim_of") 507, val := Value.ref 255 }, { hash := PyData.keyHash P (Str.ofString "dimnames_of"), key := Value.str (Str.ofString "dimnames_of") 513, val := Value.ref 260 }, { hash := PyData.keyHash P (Str.ofString "class_attr"), key := Value.str (Str.ofString "class_attr") 521, val := Value.ref 267 }, { hash := PyData.keyHash P (Str.ofString "CoveError"), key := Value.str (Str.ofString "CoveError") 543, val := Value.ref 277 }, { hash := PyData.keyHash P (Str.ofString "Refusal"), key := Value.str (Str.ofString "Refusal") 568, val := Value.ref 297 }, { hash := PyData.keyHash P (Str.ofString "whole_subscripts"), key := Value.str (Str.ofString "whole_subscripts") 579, val := Value.ref 306 }, { hash := PyData.keyHash P (Str.ofString "logical_places"), key := Value.str (Str.ofString "logical_places") 591, val := Value.ref 313 }, { hash := PyData.keyHash P (Str.ofString "whole_places"), key := Value.str (Str.ofString "whole_places") 597, val := Value.ref 318 }, { hash := PyData.keyHash P (Str.ofString "first_places"), key := Value.str (Str.ofString "first_places") 607, val := Value.ref 325 }, { hash := PyData.keyHash P (Str.ofString "name_places"), key := Value.str (Str.ofString "name_places") 618, val := Value.ref 332 }, { hash := PyData.keyHash P (Str.ofString "extending_places"), key := Value.str (Str.ofString "extending_places") 632, val := Value.ref 339 }, { hash := PyData.keyHash P (Str.ofString "positions"), key := Value.str (Str.ofString "positions") 643, val := Value.ref 346 }, { hash := PyData.keyHash P (Str.ofString "make_unique"), key := Value.str (Str.ofString "make_unique") 660, val := Value.ref 353 }, { hash := PyData.keyHash P (Str.ofString "is_frame"), key := Value.str (Str.ofString "is_frame") 671, val := Value.ref 360 }, { hash := PyData.keyHash P (Str.ofString "new_frame"), key := Value.str (Str.ofString "new_frame") 677, val := Value.ref 365 }, { hash := PyData.keyHash P (Str.ofString "plain_rows"), key := Value.str (Str.ofString "plain_rows") 684, val := Value.ref 372 }, { hash := PyData.keyHash P (Str.ofString "frame_rows"), key := Value.str (Str.ofString "frame_rows") 691, val := Value.ref 379 }, { hash := PyData.keyHash P (Str.ofString "column_names"), key := Value.str (Str.ofString "column_names") 697, val := Value.ref 384 }, { hash := PyData.keyHash P (Str.ofString "row_names"), key := Value.str (Str.ofString "row_names") 704, val := Value.ref 391 }, { hash := PyData.keyHash P (Str.ofString "kept_attrs"), key := Value.str (Str.ofString "kept_attrs") 713, val := Value.ref 398 }, { hash := PyData.keyHash P (Str.ofString "lacking"), key := Value.str (Str.ofString "lacking") 720, val := Value.ref 405 }, { hash := PyData.keyHash P (Str.ofString "pick_items"), key := Value.str (Str.ofString "pick_items") 731, val := Value.ref 412 }, { hash := PyData.keyHash P (Str.ofString "differing_lengths"), key := Value.str (Str.ofString "differing_lengths") 741, val := Value.ref 419 }, { hash := PyData.keyHash P (Str.ofString "recycled_columns"), key := Value.str (Str.ofString "recycled_columns") 747, val := Value.ref 424 }, { hash := PyData.keyHash P (Str.ofString "names_as_rows"), key := Value.str (Str.ofString "names_as_rows") 759, val := Value.ref 431 }, { hash := PyData.keyHash P (Str.ofString "make_frame"), key := Value.str (Str.ofString "make_frame") 772, val := Value.ref 438 }, { hash := PyData.keyHash P (Str.ofString "check_row_labels"), key := Value.str (Str.ofString "check_row_labels") 782, val := Value.ref 445 }, { hash := PyData.keyHash P (Str.ofString "picked_labels"), key := Value.str (Str.ofString "picked_labels") 788, val := Value.ref 450 }, { hash := PyData.keyHash P (Str.ofString "pick_rows"), key := Value.str (Str.ofString "pick_rows") 794, val := Value.ref 455 }, { hash := PyData.keyHash P (Str.ofString "is_absent"), key := Value.str (Str.ofString "is_absent") 801, val := Value.ref 462 }, { hash := PyData.keyHash P (Str.ofString "row_places"), key := Value.str (Str.ofString "row_places") 810, val := Value.ref 469 }, { hash := PyData.keyHash P (Str.ofString "column_places"), key := Value.str (Str.ofString "column_places") 821, val := Value.ref 476 }, { hash := PyData.keyHash P (Str.ofString "select_columns"), key := Value.str (Str.ofString "select_columns") 827, val := Value.ref 481 }, { hash := PyData.keyHash P (Str.ofString "subset_frame"), key := Value.str (Str.ofString "subset_frame") 840, val := Value.ref 488 }, { hash := PyData.keyHash P (Str.ofString "head_places"), key := Value.str (Str.ofString "head_places") 848, val := Value.ref 495 }, { hash := PyData.keyHash P (Str.ofString "head_frame"), key := Value.str (Str.ofString "head_frame") 856, val := Value.ref 502 }, { hash := PyData.keyHash P (Str.ofString "tail_frame"), key := Value.str (Str.ofString "tail_frame") 866, val := Value.ref 509 }, { hash := PyData.keyHash P (Str.ofString "order_frame"), key := Value.str (Str.ofString "order_frame") 874, val := Value.ref 516 }, { hash := PyData.keyHash P (Str.ofString "_law_take"), key := Value.str (Str.ofString "_law_take") 886, val := Value.ref 523 }, { hash := PyData.keyHash P (Str.ofString "_law_column"), key := Value.str (Str.ofString "_law_column") 892, val := Value.ref 528 }, { hash := PyData.keyHash P (Str.ofString "_law_told"), key := Value.str (Str.ofString "_law_told") 900, val := Value.ref 535 }, { hash := PyData.keyHash P (Str.ofString "_law_labels"), key := Value.str (Str.ofString "_law_labels") 911, val := Value.ref 542 }, { hash := PyData.keyHash P (Str.ofString "law"), key := Value.str (Str.ofString "law") 917, val := Value.ref 547 }] 81 }
noncomputable def o542 : Obj := { cls := Value.none, data := Data.fields #[Value.int 1 0, Value.int 0 0, Value.ref 20, Value.int 5 0, Value.int 0 0, Value.ref 27, Value.int 7 0, Value.int 0 0, Value.ref 34, Value.int 12 0, Value.int 0 0, Value.ref 41, Value.int 18 0, Value.int 0 0, Value.ref 48, Value.int 30 0, Value.int 0 0, Value.ref 55, Value.int 41 0, Value.int 0 0, Value.ref 62, Value.int 49 0, Value.int 0 0, Value.ref 69, Value.int 54 0, Value.int 0 0, Value.ref 76, Value.int 63 0, Value.int 0 0, Value.ref 83, Value.int 68 0, Value.int 0 0, Value.ref 90, Value.int 75 0, Value.int 0 0, Value.ref 97, Value.int 83 0, Value.int 0 0, Value.ref 104, Value.int 90 0, Value.int 0 0, Value.ref 111, Value.int 110 0, Value.int 0 0, Value.ref 118, Value.int 117 0, Value.int 0 0, Value.ref 123, Value.int 121 0, Value.int 0 0, Value.ref 131, Value.int 124 0, Value.int 0 0, Value.ref 138, Value.int 129 0, Value.int 0 0, Value.ref 159, Value.int 140 0, Value.int 0 0, Value.ref 188, Value.int 142 0, Value.int 0 0, Value.ref 195, Value.int 144 0, Value.int 0 0, Value.ref 202, Value.int 146 0, Value.int 0 0, Value.ref 209, Value.int 148 0, Value.int 0 0, Value.ref 216, Value.int 153 0, Value.int 0 0, Value.ref 223, Value.int 157 0, Value.int 0 0, Value.ref 230, Value.int 165 0, Value.int 0 0, Value.ref 237, Value.int 169 0, Value.int 0 0, Value.ref 242, Value.int 175 0, Value.int 0 0, Value.ref 247, Value.int 191 0, Value.int 0 0, Value.ref 254, Value.int 196 0, Value.int 0 0, Value.ref 259, Value.int 201 0, Value.int 0 0, Value.ref 266, Value.int 207 0, Value.int 0 0, Value.ref 273, Value.int 209 0, Value.int 0 0, Value.ref 286, Value.int 214 0, Value.int 0 0, Value.ref 305, Value.int 224 0, Value.int 0 0, Value.ref 312, Value.int 236 0, Value.int 0 0, Value.ref 317, Value.int 255 0, Value.int 0 0, Value.ref 324, Value.int 263 0, Value.int 0 0, Value.ref 331, Value.int 272 0, Value.int 0 0, Value.ref 338, Value.int 286 0, Value.int 0 0, Value.ref 345, Value.int 302 0, Value.int 0 0, Value.ref 352, Value.int 324 0, Value.int 0 0, Value.ref 359, Value.int 334 0, Value.int 0 0, Value.ref 364, Value.int 338 0, Value.int 0 0, Value.ref 371, Value.int 340 0, Value.int 0 0, Value.ref 378, Value.int 344 0, Value.int 0 0, Value.ref 383, Value.int 347 0, Value.int 0 0, Value.ref 390, Value.int 351 0, Value.int 0 0, Value.ref 397, Value.int 359 0, Value.int 0 0, Value.ref 404, Value.int 363 0, Value.int 0 0, Value.ref 411, Value.int 372 0, Value.int 0 0, Value.ref 418, Value.int 379 0, Value.int 0 0, Value.ref 423, Value.int 390 0, Value.int 0 0, Value.ref 430, Value.int 400 0, Value.int 0 0, Value.ref 437, Value.int 412 0, Value.int 0 0, Value.ref 444, Value.int 422 0, Value.int 0 0, Value.ref 449, Value.int 438 0, Value.int 0 0, Value.ref 454, Value.int 441 0, Value.int 0 0, Value.ref 461, Value.int 443 0, Value.int 0 0, Value.ref 468, Value.int 448 0, Value.int 0 0, Value.ref 475, Value.int 457 0, Value.int 0 0, Value.ref 480, Value.int 462 0, Value.int 0 0, Value.ref 487, Value.int 476 0, Value.int 0 0, Value.ref 494, Value.int 480 0, Value.int 0 0, Value.ref 501, Value.int 482 0, Value.int 0 0, Value.ref 508, Value.int 486 0, Value.int 0 0, Value.ref 515, Value.int 489 0, Value.int 0 0, Value.ref 522, Value.int 495 0, Value.int 0 0, Value.ref 527, Value.int 506 0, Value.int 0 0, Value.ref 534, Value.int 511 0, Value.int 0 0, Value.ref 541, Value.int 521 0, Value.int 0 0, Value.ref 546] }
noncomputable def o545 : Obj := { cls := Value.type "tuple", data := Data.seq #[Value.str (Str.ofString "count") 844, Value.str (Str.ofString "wanted") 845] }
noncomputable def o547 : Obj := { cls := Value.none, data := Data.func { name := Str.ofString "head_places", qualname := Str.ofString "head_places", params := fdP (stm 71), body := FuncBody.stmts (fdB (stm 71)), scope := fdS (stm 71), globals := 0, closure := [], defaults := Value.none, kwdefaults := Value.none } }
noncomputable def o548 : Obj := { cls := Value.type "code", data := Data.fields #[Value.str (Str.ofString "head_places") 841, Value.str (Str.ofString "head_places") 842, Value.str (Str.ofString "/claim/cut.py") 843, Value.int 476 0, Value.int 2 0, Value.int 0 0, Value.int 0 0, Value.int 3 0, Value.ref 489, Value.bool true, Value.int 181 0, Value.ref 490, Value.none, Value.ref 491, Value.ref 492, Value.ref 493, Value.int 846 0, Value.int 476 0, Value.str (Str.ofString "/claim/cut.py") 847] }
noncomputable def o549 : Obj := { cls := Value.type "function", data := Data.func { name := Str.ofString "head_places", qualname := Str.ofString "head_places", params := fdP (stm 71), body := FuncBody.stmts (fdB (stm 71)), scope := fdS (stm 71), globals := 3, closure := [], defaults := Value.none, kwdefaults := Value.none, pyModule := Value.str (Str.ofString "vectorcove.frames") 661, code := Value.ref 494 } }
noncomputable def o552 : Obj := { cls := Value.type "tuple", data := Data.seq #[Value.str (Str.ofString "df") 852, Value.str (Str.ofString "wanted") 853] }
noncomputable def o554 : Obj := { cls := Value.none, data := Data.func { name := Str.ofString "head_frame", qualname := Str.ofString "head_frame", params := fdP (stm 72), body := FuncBody.stmts (fdB (stm 72)), scope := fdS (stm 72), globals := 0, closure := [], defaults := Value.none, kwdefaults := Value.none } }
noncomputable def o555 : Obj := { cls := Value.type "code", data := Data.fields #[Value.str (Str.ofString "head_frame") 849, Value.str (Str.ofString "head_frame") 850, Value.str (Str.ofString "/claim/cut.py") 851, Value.int 480 0, Value.int 2 0, Value.int 0 0, Value.int 0 0, Value.int 3 0, Value.ref 496, Value.bool true, Value.int 181 0, Value.ref 497, Value.none, Value.ref 498, Value.ref 499, Value.ref 500, Value.int 854 0, Value.int 480 0, Value.str (Str.ofString "/claim/cut.py") 855] }
noncomputable def o556 : Obj := { cls := Value.type "function", data := Data.func { name := Str.ofString "head_frame", qualname := Str.ofString "head_frame", params := fdP (stm 72), body := FuncBody.stmts (fdB (stm 72)), scope := fdS (stm 72), globals := 3, closure := [], defaults := Value.none, kwdefaults := Value.none, pyModule := Value.str (Str.ofString "vectorcove.frames") 661, code := Value.ref 501 } }
noncomputable def o559 : Obj := { cls := Value.type "tuple", data := Data.seq #[Value.str (Str.ofString "df") 860, Value.str (Str.ofString "wanted") 861, Value.str (Str.ofString "count") 862, Value.str (Str.ofString "left") 863] }
noncomputable def o561 : Obj := { cls := Value.none, data := Data.func { name := Str.ofString "tail_frame", qualname := Str.ofString "tail_frame", params := fdP (stm 73), body := FuncBody.stmts (fdB (stm 73)), scope := fdS (stm 73), globals := 0, closure := [], defaults := Value.none, kwdefaults := Value.none } }
noncomputable def o562 : Obj := { cls := Value.type "code", data := Data.fields #[Value.str (Str.ofString "tail_frame") 857, Value.str (Str.ofString "tail_frame") 858, Value.str (Str.ofString "/claim/cut.py") 859, Value.int 482 0, Value.int 2 0, Value.int 0 0, Value.int 0 0, Value.int 3 0, Value.ref 503, Value.bool true, Value.int 181 0, Value.ref 504, Value.none, Value.ref 505, Value.ref 506, Value.ref 507, Value.int 864 0, Value.int 482 0, Value.str (Str.ofString "/claim/cut.py") 865] }
noncomputable def o563 : Obj := { cls := Value.type "function", data := Data.func { name := Str.ofString "tail_frame", qualname := Str.ofString "tail_frame", params := fdP (stm 73), body := FuncBody.stmts (fdB (stm 73)), scope := fdS (stm 73), globals := 3, closure := [], defaults := Value.none, kwdefaults := Value.none, pyModule := Value.str (Str.ofString "vectorcove.frames") 661, code := Value.ref 508 } }
noncomputable def o566 : Obj := { cls := Value.type "tuple", data := Data.seq #[Value.str (Str.ofString "df") 870, Value.str (Str.ofString "places") 871] }
noncomputable def o568 : Obj := { cls := Value.none, data := Data.func { name := Str.ofString "order_frame", qualname := Str.ofString "order_frame", params := fdP (stm 74), body := FuncBody.stmts (fdB (stm 74)), scope := fdS (stm 74), globals := 0, closure := [], defaults := Value.none, kwdefaults := Value.none } }
noncomputable def o569 : Obj := { cls := Value.type "code", data := Data.fields #[Value.str (Str.ofString "order_frame") 867, Value.str (Str.ofString "order_frame") 868, Value.str (Str.ofString "/claim/cut.py") 869, Value.int 486 0, Value.int 2 0, Value.int 0 0, Value.int 0 0, Value.int 3 0, Value.ref 510, Value.bool true, Value.int 181 0, Value.ref 511, Value.none, Value.ref 512, Value.ref 513, Value.ref 514, Value.int 872 0, Value.int 486 0, Value.str (Str.ofString "/claim/cut.py") 873] }
noncomputable def o570 : Obj := { cls := Value.type "function", data := Data.func { name := Str.ofString "order_frame", qualname := Str.ofString "order_frame", params := fdP (stm 74), body := FuncBody.stmts (fdB (stm 74)), scope := fdS (stm 74), globals := 3, closure := [], defaults := Value.none, kwdefaults := Value.none, pyModule := Value.str (Str.ofString "vectorcove.frames") 661, code := Value.ref 515 } }
noncomputable def o573 : Obj := { cls := Value.type "tuple", data := Data.seq #[Value.str (Str.ofString "state") 880, Value.str (Str.ofString "most") 881, Value.str (Str.ofString "row") 882, Value.str (Str.ofString "at") 883] }
noncomputable def o575 : Obj := { cls := Value.none, data := Data.func { name := Str.ofString "_law_take", qualname := Str.ofString "_law_take", params := fdP (stm 76), body := FuncBody.stmts (fdB (stm 76)), scope := fdS (stm 76), globals := 0, closure := [], defaults := Value.none, kwdefaults := Value.none } }
noncomputable def o576 : Obj := { cls := Value.type "code", data := Data.fields #[Value.str (Str.ofString "_law_take") 877, Value.str (Str.ofString "_law_take") 878, Value.str (Str.ofString "/claim/cut.py") 879, Value.int 489 0, Value.int 2 0, Value.int 0 0, Value.int 0 0, Value.int 3 0, Value.ref 517, Value.bool true, Value.int 181 0, Value.ref 518, Value.none, Value.ref 519, Value.ref 520, Value.ref 521, Value.int 884 0, Value.int 489 0, Value.str (Str.ofString "/claim/cut.py") 885] }
noncomputable def o577 : Obj := { cls := Value.type "function", data := Data.func { name := Str.ofString "_law_take", qualname := Str.ofString "_law_take", params := fdP (stm 76), body := FuncBody.stmts (fdB (stm 76)), scope := fdS (stm 76), globals := 3, closure := [], defaults := Value.none, kwdefaults := Value.none, pyModule := Value.str (Str.ofString "law_ov0078_01") 875, code := Value.ref 522 } }
noncomputable def o580 : Obj := { cls := Value.none, data := Data.func { name := Str.ofString "_law_column", qualname := Str.ofString "_law_column", params := fdP (stm 77), body := FuncBody.stmts (fdB (stm 77)), scope := fdS (stm 77), globals := 0, closure := [], defaults := Value.none, kwdefaults := Value.none } }
noncomputable def o581 : Obj := { cls := Value.type "code", data := Data.fields #[Value.str (Str.ofString "_law_column") 887, Value.str (Str.ofString "_law_column") 888, Value.str (Str.ofString "/claim/cut.py") 889, Value.int 495 0, Value.int 2 0, Value.int 0 0, Value.int 0 0, Value.int 3 0, Value.ref 524, Value.bool true, Value.int 181 0, Value.ref 525, Value.none, Value.none, Value.none, Value.ref 526, Value.int 890 0, Value.int 495 0, Value.str (Str.ofString "/claim/cut.py") 891] }
noncomputable def o582 : Obj := { cls := Value.type "function", data := Data.func { name := Str.ofString "_law_column", qualname := Str.ofString "_law_column", params := fdP (stm 77), body := FuncBody.stmts (fdB (stm 77)), scope := fdS (stm 77), globals := 3, closure := [], defaults := Value.none, kwdefaults := Value.none, pyModule := Value.str (Str.ofString "law_ov0078_01") 875, code := Value.ref 527 } }
noncomputable def o585 : Obj := { cls := Value.type "tuple", data := Data.seq #[Value.str (Str.ofString "column") 896, Value.str (Str.ofString "levels") 897] }
noncomputable def o587 : Obj := { cls := Value.none, data := Data.func { name := Str.ofString "_law_told", qualname := Str.ofString "_law_told", params := fdP (stm 78), body := FuncBody.stmts (fdB (stm 78)), scope := fdS (stm 78), globals := 0, closure := [], defaults := Value.none, kwdefaults := Value.none } }
noncomputable def o588 : Obj := { cls := Value.type "code", data := Data.fields #[Value.str (Str.ofString "_law_told") 893, Value.str (Str.ofString "_law_told") 894, Value.str (Str.ofString "/claim/cut.py") 895, Value.int 506 0, Value.int 1 0, Value.int 0 0, Value.int 0 0, Value.int 3 0, Value.ref 529, Value.bool true, Value.int 181 0, Value.ref 530, Value.none, Value.ref 531, Value.ref 532, Value.ref 533, Value.int 898 0, Value.int 506 0, Value.str (Str.ofString "/claim/cut.py") 899] }
noncomputable def o589 : Obj := { cls := Value.type "function", data := Data.func { name := Str.ofString "_law_told", qualname := Str.ofString "_law_told", params := fdP (stm 78), body := FuncBody.stmts (fdB (stm 78)), scope := fdS (stm 78), globals := 3, closure := [], defaults := Value.none, kwdefaults := Value.none, pyModule := Value.str (Str.ofString "law_ov0078_01") 875, code := Value.ref 534 } }
noncomputable def o592 : Obj := { cls := Value.type "tuple", data := Data.seq #[Value.str (Str.ofString "rows") 904, Value.str (Str.ofString "said") 905, Value.str (Str.ofString "figure") 906, Value.str (Str.ofString "name") 907, Value.str (Str.ofString "more") 908] }
noncomputable def o594 : Obj := { cls := Value.none, data := Data.func { name := Str.ofString "_law_labels", qualname := Str.ofString "_law_labels", params := fdP (stm 79), body := FuncBody.stmts (fdB (stm 79)), scope := fdS (stm 79), globals := 0, closure := [], defaults := Value.none, kwdefaults := Value.none } }
noncomputable def o595 : Obj := { cls := Value.type "code", data := Data.fields #[Value.str (Str.ofString "_law_labels") 901, Value.str (Str.ofString "_law_labels") 902, Value.str (Str.ofString "/claim/cut.py") 903, Value.int 511 0, Value.int 1 0, Value.int 0 0, Value.int 0 0, Value.int 3 0, Value.ref 536, Value.bool true, Value.int 181 0, Value.ref 537, Value.none, Value.ref 538, Value.ref 539, Value.ref 540, Value.int 909 0, Value.int 511 0, Value.str (Str.ofString "/claim/cut.py") 910] }
noncomputable def o596 : Obj := { cls := Value.type "function", data := Data.func { name := Str.ofString "_law_labels", qualname := Str.ofString "_law_labels", params := fdP (stm 79), body := FuncBody.stmts (fdB (stm 79)), scope := fdS (stm 79), globals := 3, closure := [], defaults := Value.none, kwdefaults := Value.none, pyModule := Value.str (Str.ofString "law_ov0078_01") 875, code := Value.ref 541 } }
noncomputable def o599 : Obj := { cls := Value.none, data := Data.func { name := Str.ofString "law", qualname := Str.ofString "law", params := fdP (stm 80), body := FuncBody.stmts (fdB (stm 80)), scope := fdS (stm 80), globals := 0, closure := [], defaults := Value.none, kwdefaults := Value.none } }
noncomputable def o600 : Obj := { cls := Value.type "code", data := Data.fields #[Value.str (Str.ofString "law") 912, Value.str (Str.ofString "law") 913, Value.str (Str.ofString "/claim/cut.py") 914, Value.int 521 0, Value.int 1 0, Value.int 0 0, Value.int 0 0, Value.int 3 0, Value.ref 543, Value.bool true, Value.int 181 0, Value.ref 544, Value.none, Value.none, Value.none, Value.ref 545, Value.int 915 0, Value.int 521 0, Value.str (Str.ofString "/claim/cut.py") 916] }
noncomputable def o601 : Obj := { cls := Value.type "function", data := Data.func { name := Str.ofString "law", qualname := Str.ofString "law", params := fdP (stm 80), body := FuncBody.stmts (fdB (stm 80)), scope := fdS (stm 80), globals := 3, closure := [], defaults := Value.none, kwdefaults := Value.none, pyModule := Value.str (Str.ofString "law_ov0078_01") 875, code := Value.ref 546 } }
noncomputable def t1 (P : Params) : BT := .node (boot_o_0 P) (.node (boot_o_1 P) (.node (boot_o_3 P) (.node (boot_o_7 P) .nil .nil) (.node o164 .nil .nil)) (.node (boot_o_5 P) (.node (boot_o_9 P) .nil .nil) (.node o45 .nil .nil))) (.node (boot_o_2 P) (.node (boot_o_4 P) (.node (boot_o_8 P) .nil .nil) (.node o398 .nil .nil)) (.node (boot_o_6 P) (.node (boot_o_10 P) .nil .nil) (.node o46 .nil .nil)))
noncomputable def tr47 (P : Params) : BT := t1 P
noncomputable def t2 (P : Params) : BT := .node (boot_o_7 P) (.node o164 (.node o67 (.node o99 .nil .nil) (.node o164 .nil .nil)) (.node o83 (.node o398 .nil .nil) .nil)) (.node o398 (.node o164 (.node o164 .nil .nil) .nil) (.node o91 (.node o123 .nil .nil) .nil))
noncomputable def t3 : BT := .node o164 (.node o55 (.node o71 (.node o164 .nil .nil) .nil) (.node o398 (.node o119 .nil .nil) .nil)) (.node o63 (.node o164 (.node o111 .nil .nil) .nil) (.node o95 (.node o127 .nil .nil) .nil))
noncomputable def t4 (P : Params) : BT := .node (boot_o_9 P) (.node o53 (.node o69 (.node o398 .nil .nil) (.node o133 .nil .nil)) (.node o85 (.node o164 .nil .nil) .nil)) (.node o164 (.node o77 (.node o109 .nil .nil) .nil) (.node o164 (.node o125 .nil .nil) .nil))
noncomputable def t5 : BT := .node o45 (.node o57 (.node o398 (.node o105 .nil .nil) .nil) (.node o164 (.node o164 .nil .nil) .nil)) (.node o164 (.node o81 (.node o113 .nil .nil) .nil) (.node o97 (.node o398 .nil .nil) .nil))
noncomputable def t6 (P : Params) : BT := .node (boot_o_8 P) (.node o398 (.node o164 (.node o164 .nil .nil) (.node o132 .nil .nil)) (.node o84 (.node o116 .nil .nil) .nil)) (.node o60 (.node o76 (.node o398 .nil .nil) .nil) (.node o92 (.node o164 .nil .nil) .nil))
noncomputable def t7 : BT := .node o50 (.node o56 (.node o164 (.node o104 .nil .nil) .nil) (.node o88 (.node o120 .nil .nil) .nil)) (.node o64 (.node o398 (.node o112 .nil .nil) .nil) (.node o164 (.node o164 .nil .nil) .nil))
noncomputable def t8 (P : Params) : BT := .node (boot_o_10 P) (.node o164 (.node o70 (.node o102 .nil .nil) (.node o134 .nil .nil)) (.node o164 (.node o118 .nil .nil) .nil)) (.node o62 (.node o78 (.node o164 .nil .nil) .nil) (.node o398 (.node o126 .nil .nil) .nil))
noncomputable def t9 : BT := .node o46 (.node o164 (.node o74 (.node o106 .nil .nil) .nil) (.node o90 (.node o398 .nil .nil) .nil)) (.node o398 (.node o164 (.node o164 .nil .nil) .nil) (.node o98 (.node o130 .nil .nil) .nil))
noncomputable def t10 (P : Params) : BT := .node (boot_o_0 P) (.node (boot_o_1 P) (.node (o49 P) (t2 P) t3) (.node (boot_o_5 P) (t4 P) t5)) (.node (boot_o_2 P) (.node (boot_o_4 P) (t6 P) t7) (.node (boot_o_6 P) (t8 P) t9))
noncomputable def tr134 (P : Params) : BT := t10 P
noncomputable def t11 (P : Params) : BT := .node (boot_o_7 P) (.node o164 (.node o67 (.node o99 (.node o398 .nil .nil) .nil) (.node o164 .nil .nil)) (.node o83 (.node o398 (.node o164 .nil .nil) .nil) (.node o149 .nil .nil))) (.node o398 (.node o164 (.node o164 (.node (o173 P) .nil .nil) .nil) (.node o141 .nil .nil)) (.node o91 (.node o123 (.node o189 .nil .nil) .nil) (.node o157 .nil .nil)))
noncomputable def t12 : BT := .node o164 (.node o55 (.node o71 (.node o164 (.node o169 .nil .nil) .nil) (.node o164 .nil .nil)) (.node o398 (.node o119 (.node o185 .nil .nil) .nil) (.node o153 .nil .nil))) (.node o63 (.node o164 (.node o111 (.node o177 .nil .nil) .nil) (.node o398 .nil .nil)) (.node o95 (.node o127 .nil .nil) (.node o161 .nil .nil)))
noncomputable def t13 (P : Params) : BT := .node (boot_o_9 P) (.node o53 (.node o69 (.node o398 (.node o164 .nil .nil) .nil) (.node o133 .nil .nil)) (.node o85 (.node o164 (.node o183 .nil .nil) .nil) (.node o164 .nil .nil))) (.node o164 (.node o77 (.node o109 (.node o175 .nil .nil) .nil) (.node o143 .nil .nil)) (.node o164 (.node o125 (.node o191 .nil .nil) .nil) (.node o398 .nil .nil)))
noncomputable def t14 : BT := .node o45 (.node o57 (.node o398 (.node o105 (.node o164 .nil .nil) .nil) (.node o139 .nil .nil)) (.node o164 (.node o164 (.node o187 .nil .nil) .nil) (.node o155 .nil .nil))) (.node o164 (.node o81 (.node o113 (.node o398 .nil .nil) .nil) (.node o164 .nil .nil)) (.node o97 (.node o398 .nil .nil) (.node o163 .nil .nil)))
noncomputable def t15 (P : Params) : BT := .node (boot_o_8 P) (.node o398 (.node o164 (.node o164 (.node o166 .nil .nil) .nil) (.node o132 .nil .nil)) (.node o84 (.node o116 (.node o182 .nil .nil) .nil) (.node o150 .nil .nil))) (.node o60 (.node o76 (.node o398 (.node o164 .nil .nil) .nil) (.node o142 .nil .nil)) (.node o92 (.node o164 (.node o190 .nil .nil) .nil) (.node o164 .nil .nil)))
noncomputable def t16 (P : Params) : BT := .node o136 (.node o56 (.node o164 (.node o104 (.node o170 .nil .nil) .nil) (.node o398 .nil .nil)) (.node o88 (.node o120 (.node (o186 P) .nil .nil) .nil) (.node o164 .nil .nil))) (.node o64 (.node o398 (.node o112 (.node o164 .nil .nil) .nil) (.node o146 .nil .nil)) (.node o164 (.node o164 .nil .nil) (.node o162 .nil .nil)))
noncomputable def t17 (P : Params) : BT := .node (boot_o_10 P) (.node o164 (.node o70 (.node o102 (.node o168 .nil .nil) .nil) (.node o134 .nil .nil)) (.node o164 (.node o118 (.node o184 .nil .nil) .nil) (.node o398 .nil .nil))) (.node o62 (.node o78 (.node o164 (.node o176 .nil .nil) .nil) (.node o164 .nil .nil)) (.node o398 (.node o126 .nil .nil) (.node o160 .nil .nil)))
noncomputable def t18 : BT := .node o46 (.node o164 (.node o74 (.node o106 (.node o330 .nil .nil) .nil) (.node o164 .nil .nil)) (.node o90 (.node o398 (.node o188 .nil .nil) .nil) (.node o156 .nil .nil))) (.node o398 (.node o164 (.node o164 (.node o180 .nil .nil) .nil) (.node o148 .nil .nil)) (.node o98 (.node o130 .nil .nil) (.node o164 .nil .nil)))
noncomputable def t19 (P : Params) : BT := .node (boot_o_0 P) (.node (boot_o_1 P) (.node (o135 P) (t11 P) t12) (.node (boot_o_5 P) (t13 P) t14)) (.node (boot_o_2 P) (.node (boot_o_4 P) (t15 P) (t16 P)) (.node (boot_o_6 P) (t17 P) t18))
noncomputable def tr191 (P : Params) : BT := t19 P
noncomputable def t20 : BT := .node o99 (.node o398 .nil .nil) (.node o398 .nil .nil)
noncomputable def t21 : BT := .node o398 (.node o164 .nil .nil) (.node o164 .nil .nil)
noncomputable def t22 (P : Params) : BT := .node o164 (.node (o173 P) .nil .nil) (.node o239 .nil .nil)
noncomputable def t23 (P : Params) : BT := .node (boot_o_7 P) (.node o164 (.node o67 t20 (.node o164 (.node o199 .nil .nil) .nil)) (.node o83 t21 (.node o149 (.node o215 .nil .nil) .nil))) (.node o398 (.node o164 (t22 P) (.node o141 (.node o207 .nil .nil) .nil)) (.node o91 (.node o123 (.node o189 .nil .nil) .nil) (.node o157 (.node o164 .nil .nil) .nil)))
noncomputable def t24 : BT := .node o164 (.node o169 .nil .nil) (.node o235 .nil .nil)
noncomputable def t25 : BT := .node o111 (.node o177 .nil .nil) (.node o243 .nil .nil)
noncomputable def t26 : BT := .node o164 (.node o55 (.node o71 t24 (.node o164 (.node o398 .nil .nil) .nil)) (.node o398 (.node o119 (.node o185 .nil .nil) .nil) (.node o153 (.node o219 .nil .nil) .nil))) (.node o63 (.node o164 t25 (.node o398 (.node o211 .nil .nil) .nil)) (.node o95 (.node o127 (.node o330 .nil .nil) .nil) (.node o161 (.node o227 .nil .nil) .nil)))
noncomputable def t27 : BT := .node o164 (.node o183 .nil .nil) (.node o249 .nil .nil)
noncomputable def t28 : BT := .node o109 (.node o175 .nil .nil) (.node o241 .nil .nil)
noncomputable def t29 (P : Params) : BT := .node (boot_o_9 P) (.node o53 (.node o69 t21 (.node o133 (.node o201 .nil .nil) .nil)) (.node o85 t27 (.node o164 (.node (o217 P) .nil .nil) .nil))) (.node o164 (.node o77 t28 (.node o143 (.node o164 .nil .nil) .nil)) (.node o164 (.node o125 (.node o191 .nil .nil) .nil) (.node o398 (.node o225 .nil .nil) .nil)))
noncomputable def t30 : BT := .node o105 (.node o164 .nil .nil) (.node o164 .nil .nil)
noncomputable def t31 : BT := .node o113 (.node o398 .nil .nil) (.node o398 .nil .nil)
noncomputable def t32 : BT := .node o45 (.node o57 (.node o398 t30 (.node o139 (.node o164 .nil .nil) .nil)) (.node o164 (.node o164 (.node o187 .nil .nil) .nil) (.node o155 (.node o221 .nil .nil) .nil))) (.node o164 (.node o81 t31 (.node o164 (.node o213 .nil .nil) .nil)) (.node o97 (.node o398 (.node o164 .nil .nil) .nil) (.node o163 (.node o229 .nil .nil) .nil)))
noncomputable def t33 : BT := .node o164 (.node o166 .nil .nil) (.node o232 .nil .nil)
noncomputable def t34 : BT := .node o116 (.node o182 .nil .nil) (.node o248 .nil .nil)
noncomputable def t35 (P : Params) : BT := .node (boot_o_8 P) (.node o398 (.node o164 t33 (.node o132 (.node o200 .nil .nil) .nil)) (.node o84 t34 (.node o150 (.node o216 .nil .nil) .nil))) (.node o60 (.node o76 t21 (.node o142 (.node o208 .nil .nil) .nil)) (.node o92 (.node o164 (.node o190 .nil .nil) .nil) (.node o164 (.node o398 .nil .nil) .nil)))
noncomputable def t36 : BT := .node o104 (.node o170 .nil .nil) (.node o236 .nil .nil)
noncomputable def t37 : BT := .node o112 (.node o164 .nil .nil) (.node o164 .nil .nil)
noncomputable def t38 (P : Params) : BT := .node o193 (.node o56 (.node o164 t36 (.node o398 (.node o204 .nil .nil) .nil)) (.node o88 (.node o120 (.node (o186 P) .nil .nil) .nil) (.node o164 (.node o220 .nil .nil) .nil))) (.node o64 (.node o398 t37 (.node o146 (.node o164 .nil .nil) .nil)) (.node o164 (.node o164 (.node (o196 P) .nil .nil) .nil) (.node o162 (.node o228 .nil .nil) .nil)))
noncomputable def t39 : BT := .node o102 (.node o168 .nil .nil) (.node o234 .nil .nil)
noncomputable def t40 : BT := .node o118 (.node o184 .nil .nil) (.node o250 .nil .nil)
noncomputable def t41 : BT := .node o164 (.node o176 .nil .nil) (.node o242 .nil .nil)
noncomputable def t42 (P : Params) : BT := .node (boot_o_10 P) (.node o164 (.node o70 t39 (.node o134 (.node o164 .nil .nil) .nil)) (.node o164 t40 (.node o398 (.node o218 .nil .nil) .nil))) (.node o62 (.node o78 t41 (.node o164 (.node o398 .nil .nil) .nil)) (.node o398 (.node o126 (.node o164 .nil .nil) .nil) (.node o160 (.node o164 .nil .nil) .nil)))
noncomputable def t43 : BT := .node o106 (.node o330 .nil .nil) (.node o398 .nil .nil)
noncomputable def t44 : BT := .node o164 (.node o180 .nil .nil) (.node o246 .nil .nil)
noncomputable def t45 : BT := .node o46 (.node o164 (.node o74 t43 (.node o164 (.node o206 .nil .nil) .nil)) (.node o90 (.node o398 (.node o188 .nil .nil) .nil) (.node o156 (.node o222 .nil .nil) .nil))) (.node o398 (.node o164 t44 (.node o148 (.node o214 .nil .nil) .nil)) (.node o98 (.node o130 (.node o198 .nil .nil) .nil) (.node o164 (.node o164 .nil .nil) .nil)))
noncomputable def t46 (P : Params) : BT := .node (boot_o_0 P) (.node (boot_o_1 P) (.node (o192 P) (t23 P) t26) (.node (boot_o_5 P) (t29 P) t32)) (.node (boot_o_2 P) (.node (boot_o_4 P) (t35 P) (t38 P)) (.node (boot_o_6 P) (t42 P) t45))
noncomputable def tr250 (P : Params) : BT := t46 P
noncomputable def t47 : BT := .node o99 (.node o398 (.node o297 .nil .nil) .nil) (.node o398 .nil .nil)
noncomputable def t48 : BT := .node o164 (.node o199 .nil .nil) (.node o265 .nil .nil)
noncomputable def t49 : BT := .node o149 (.node o215 .nil .nil) (.node o164 .nil .nil)
noncomputable def t50 (P : Params) : BT := .node o164 (.node (o173 P) (.node o305 .nil .nil) .nil) (.node o239 .nil .nil)
noncomputable def t51 : BT := .node o141 (.node o207 .nil .nil) (.node o273 .nil .nil)
noncomputable def t52 : BT := .node o123 (.node o189 .nil .nil) (.node o257 .nil .nil)
noncomputable def t53 : BT := .node o157 (.node o164 .nil .nil) (.node o289 .nil .nil)
noncomputable def t54 (P : Params) : BT := .node (boot_o_7 P) (.node o164 (.node o67 t47 t48) (.node o83 t21 t49)) (.node o398 (.node o164 (t50 P) t51) (.node o91 t52 t53))
noncomputable def t55 : BT := .node o164 (.node o169 (.node o301 .nil .nil) .nil) (.node o235 .nil .nil)
noncomputable def t56 : BT := .node o164 (.node o398 .nil .nil) (.node o269 .nil .nil)
noncomputable def t57 : BT := .node o119 (.node o185 .nil .nil) (.node o164 .nil .nil)
noncomputable def t58 : BT := .node o153 (.node o219 .nil .nil) (.node o285 .nil .nil)
noncomputable def t59 : BT := .node o111 (.node o177 (.node o309 .nil .nil) .nil) (.node o243 .nil .nil)
noncomputable def t60 : BT := .node o398 (.node o211 .nil .nil) (.node o164 .nil .nil)
noncomputable def t61 : BT := .node o127 (.node o330 .nil .nil) (.node o398 .nil .nil)
noncomputable def t62 : BT := .node o161 (.node o227 .nil .nil) (.node o293 .nil .nil)
noncomputable def t63 : BT := .node o164 (.node o55 (.node o71 t55 t56) (.node o398 t57 t58)) (.node o63 (.node o164 t59 t60) (.node o95 t61 t62))
noncomputable def t64 : BT := .node o398 (.node o164 (.node o398 .nil .nil) .nil) (.node o164 .nil .nil)
noncomputable def t65 : BT := .node o133 (.node o201 .nil .nil) (.node o164 .nil .nil)
noncomputable def t66 (P : Params) : BT := .node o164 (.node (o217 P) .nil .nil) (.node o283 .nil .nil)
noncomputable def t67 : BT := .node o109 (.node o175 (.node o307 .nil .nil) .nil) (.node o241 .nil .nil)
noncomputable def t68 : BT := .node o143 (.node o164 .nil .nil) (.node o398 .nil .nil)
noncomputable def t69 : BT := .node o125 (.node o191 .nil .nil) (.node o259 .nil .nil)
noncomputable def t70 : BT := .node o398 (.node o225 .nil .nil) (.node o164 .nil .nil)
noncomputable def t71 (P : Params) : BT := .node (boot_o_9 P) (.node o53 (.node o69 t64 t65) (.node o85 t27 (t66 P))) (.node o164 (.node o77 t67 t68) (.node o164 t69 t70))
noncomputable def t72 : BT := .node o105 (.node o164 (.node o164 .nil .nil) .nil) (.node o164 .nil .nil)
noncomputable def t73 : BT := .node o139 (.node o164 .nil .nil) (.node o271 .nil .nil)
noncomputable def t74 : BT := .node o164 (.node o187 .nil .nil) (.node o255 .nil .nil)
noncomputable def t75 : BT := .node o155 (.node o221 .nil .nil) (.node o398 .nil .nil)
noncomputable def t76 : BT := .node o164 (.node o213 .nil .nil) (.node o279 .nil .nil)
noncomputable def t77 : BT := .node o163 (.node o229 .nil .nil) (.node o295 .nil .nil)
noncomputable def t78 : BT := .node o45 (.node o57 (.node o398 t72 t73) (.node o164 t74 t75)) (.node o164 (.node o81 t31 t76) (.node o97 t21 t77))
noncomputable def t79 : BT := .node o164 (.node o166 (.node o164 .nil .nil) .nil) (.node o232 .nil .nil)
noncomputable def t80 : BT := .node o132 (.node o200 .nil .nil) (.node o266 .nil .nil)
noncomputable def t81 : BT := .node o150 (.node o216 .nil .nil) (.node o398 .nil .nil)
noncomputable def t82 : BT := .node o398 (.node o164 (.node o164 .nil .nil) .nil) (.node o164 .nil .nil)
noncomputable def t83 : BT := .node o142 (.node o208 .nil .nil) (.node o164 .nil .nil)
noncomputable def t84 : BT := .node o164 (.node o190 .nil .nil) (.node o258 .nil .nil)
noncomputable def t85 : BT := .node o164 (.node o398 .nil .nil) (.node o290 .nil .nil)
noncomputable def t86 (P : Params) : BT := .node (boot_o_8 P) (.node o398 (.node o164 t79 t80) (.node o84 t34 t81)) (.node o60 (.node o76 t82 t83) (.node o92 t84 t85))
noncomputable def t87 : BT := .node o104 (.node o170 (.node o302 .nil .nil) .nil) (.node o236 .nil .nil)
noncomputable def t88 : BT := .node o398 (.node o204 .nil .nil) (.node o164 .nil .nil)
noncomputable def t89 (P : Params) : BT := .node o120 (.node (o186 P) .nil .nil) (.node o398 .nil .nil)
noncomputable def t90 : BT := .node o164 (.node o220 .nil .nil) (.node o164 .nil .nil)
noncomputable def t91 : BT := .node o146 (.node o164 .nil .nil) (.node o278 .nil .nil)
noncomputable def t92 (P : Params) : BT := .node o164 (.node (o196 P) .nil .nil) (.node o262 .nil .nil)
noncomputable def t93 : BT := .node o162 (.node o228 .nil .nil) (.node o164 .nil .nil)
noncomputable def t94 (P : Params) : BT := .node o252 (.node o56 (.node o164 t87 t88) (.node o88 (t89 P) t90)) (.node o64 (.node o398 t37 t91) (.node o164 (t92 P) t93))
noncomputable def t95 : BT := .node o102 (.node o168 (.node o300 .nil .nil) .nil) (.node o234 .nil .nil)
noncomputable def t96 : BT := .node o134 (.node o164 .nil .nil) (.node o398 .nil .nil)
noncomputable def t97 : BT := .node o398 (.node o218 .nil .nil) (.node o284 .nil .nil)
noncomputable def t98 : BT := .node o164 (.node o176 (.node o308 .nil .nil) .nil) (.node o242 .nil .nil)
noncomputable def t99 : BT := .node o164 (.node o398 .nil .nil) (.node o276 .nil .nil)
noncomputable def t100 : BT := .node o126 (.node o164 .nil .nil) (.node o164 .nil .nil)
noncomputable def t101 : BT := .node o160 (.node o164 .nil .nil) (.node o398 .nil .nil)
noncomputable def t102 (P : Params) : BT := .node (boot_o_10 P) (.node o164 (.node o70 t95 t96) (.node o164 t40 t97)) (.node o62 (.node o78 t98 t99) (.node o398 t100 t101))
noncomputable def t103 : BT := .node o106 (.node o330 (.node o398 .nil .nil) .nil) (.node o398 .nil .nil)
noncomputable def t104 : BT := .node o164 (.node o206 .nil .nil) (.node o272 .nil .nil)
noncomputable def t105 : BT := .node o398 (.node o188 .nil .nil) (.node o164 .nil .nil)
noncomputable def t106 : BT := .node o156 (.node o222 .nil .nil) (.node o288 .nil .nil)
noncomputable def t107 : BT := .node o148 (.node o214 .nil .nil) (.node o280 .nil .nil)
noncomputable def t108 : BT := .node o130 (.node o198 .nil .nil) (.node o264 .nil .nil)
noncomputable def t109 : BT := .node o164 (.node o164 .nil .nil) (.node o296 .nil .nil)
noncomputable def t110 : BT := .node o46 (.node o164 (.node o74 t103 t104) (.node o90 t105 t106)) (.node o398 (.node o164 t44 t107) (.node o98 t108 t109))
noncomputable def t111 (P : Params) : BT := .node (boot_o_0 P) (.node (boot_o_1 P) (.node (o251 P) (t54 P) t63) (.node (boot_o_5 P) (t71 P) t78)) (.node (boot_o_2 P) (.node (boot_o_4 P) (t86 P) (t94 P)) (.node (boot_o_6 P) (t102 P) t110))
noncomputable def tr309 (P : Params) : BT := t111 P
noncomputable def t112 : BT := .node o123 (.node o189 (.node o324 .nil .nil) .nil) (.node o257 .nil .nil)
noncomputable def t113 (P : Params) : BT := .node (boot_o_7 P) (.node o164 (.node o67 t47 t48) (.node o83 t82 t49)) (.node o398 (.node o164 (t50 P) t51) (.node o91 t112 t53))
noncomputable def t114 : BT := .node o119 (.node o185 (.node o164 .nil .nil) .nil) (.node o164 .nil .nil)
noncomputable def t115 : BT := .node o164 (.node o55 (.node o71 t55 t56) (.node o398 t114 t58)) (.node o63 (.node o164 t59 t60) (.node o95 t61 t62))
noncomputable def t116 : BT := .node o164 (.node o183 (.node o318 .nil .nil) .nil) (.node o249 .nil .nil)
noncomputable def t117 (P : Params) : BT := .node (boot_o_9 P) (.node o53 (.node o69 t64 t65) (.node o85 t116 (t66 P))) (.node o164 (.node o77 t67 t68) (.node o164 t69 t70))
noncomputable def t118 : BT := .node o164 (.node o187 (.node o322 .nil .nil) .nil) (.node o255 .nil .nil)
noncomputable def t119 : BT := .node o113 (.node o398 (.node o330 .nil .nil) .nil) (.node o398 .nil .nil)
noncomputable def t120 : BT := .node o45 (.node o57 (.node o398 t72 t73) (.node o164 t118 t75)) (.node o164 (.node o81 t119 t76) (.node o97 t21 t77))
noncomputable def t121 : BT := .node o116 (.node o182 (.node o398 .nil .nil) .nil) (.node o248 .nil .nil)
noncomputable def t122 : BT := .node o164 (.node o190 (.node o325 .nil .nil) .nil) (.node o258 .nil .nil)
noncomputable def t123 (P : Params) : BT := .node (boot_o_8 P) (.node o398 (.node o164 t79 t80) (.node o84 t121 t81)) (.node o60 (.node o76 t82 t83) (.node o92 t122 t85))
noncomputable def t124 (P : Params) : BT := .node o120 (.node (o186 P) (.node (o321 P) .nil .nil) .nil) (.node o398 .nil .nil)
noncomputable def t125 : BT := .node o112 (.node o164 (.node o313 .nil .nil) .nil) (.node o164 .nil .nil)
noncomputable def t126 (P : Params) : BT := .node o312 (.node o56 (.node o164 t87 t88) (.node o88 (t124 P) t90)) (.node o64 (.node o398 t125 t91) (.node o164 (t92 P) t93))
noncomputable def t127 : BT := .node o118 (.node o184 (.node o319 .nil .nil) .nil) (.node o250 .nil .nil)
noncomputable def t128 (P : Params) : BT := .node (boot_o_10 P) (.node o164 (.node o70 t95 t96) (.node o164 t127 t97)) (.node o62 (.node o78 t98 t99) (.node o398 t100 t101))
noncomputable def t129 : BT := .node o398 (.node o188 (.node o323 .nil .nil) .nil) (.node o164 .nil .nil)
noncomputable def t130 (P : Params) : BT := .node o164 (.node o180 (.node (o315 P) .nil .nil) .nil) (.node o246 .nil .nil)
noncomputable def t131 (P : Params) : BT := .node o46 (.node o164 (.node o74 t103 t104) (.node o90 t129 t106)) (.node o398 (.node o164 (t130 P) t107) (.node o98 t108 t109))
noncomputable def t132 (P : Params) : BT := .node (boot_o_0 P) (.node (boot_o_1 P) (.node (o311 P) (t113 P) t115) (.node (boot_o_5 P) (t117 P) t120)) (.node (o310 P) (.node (boot_o_4 P) (t123 P) (t126 P)) (.node (boot_o_6 P) (t128 P) (t131 P)))
noncomputable def tr325 (P : Params) : BT := t132 P
noncomputable def t133 : BT := .node o99 (.node o398 (.node o297 .nil .nil) .nil) (.node o398 (.node o164 .nil .nil) .nil)
noncomputable def t134 : BT := .node o164 (.node o199 (.node o335 .nil .nil) .nil) (.node o265 .nil .nil)
noncomputable def t135 : BT := .node o149 (.node o215 (.node o164 .nil .nil) .nil) (.node o164 .nil .nil)
noncomputable def t136 : BT := .node o141 (.node o207 (.node o343 .nil .nil) .nil) (.node o273 .nil .nil)
noncomputable def t137 : BT := .node o157 (.node o164 (.node o359 .nil .nil) .nil) (.node o289 .nil .nil)
noncomputable def t138 (P : Params) : BT := .node (boot_o_7 P) (.node o164 (.node o67 t133 t134) (.node o83 t82 t135)) (.node o398 (.node o164 (t50 P) t136) (.node o91 t112 t137))
noncomputable def t139 : BT := .node o164 (.node o169 (.node o301 .nil .nil) .nil) (.node o235 (.node o371 .nil .nil) .nil)
noncomputable def t140 : BT := .node o164 (.node o398 (.node o164 .nil .nil) .nil) (.node o269 .nil .nil)
noncomputable def t141 : BT := .node o153 (.node o219 (.node o164 .nil .nil) .nil) (.node o285 .nil .nil)
noncomputable def t142 : BT := .node o398 (.node o211 (.node o347 .nil .nil) .nil) (.node o164 .nil .nil)
noncomputable def t143 (P : Params) : BT := .node o127 (.node o330 (.node (o331 P) .nil .nil) .nil) (.node o398 .nil .nil)
noncomputable def t144 : BT := .node o161 (.node o227 (.node o398 .nil .nil) .nil) (.node o293 .nil .nil)
noncomputable def t145 (P : Params) : BT := .node o164 (.node o55 (.node o71 t139 t140) (.node o398 t114 t141)) (.node o63 (.node o164 t59 t142) (.node o95 (t143 P) t144))
noncomputable def t146 : BT := .node o398 (.node o164 (.node o398 .nil .nil) .nil) (.node o164 (.node o369 .nil .nil) .nil)
noncomputable def t147 : BT := .node o133 (.node o201 (.node o398 .nil .nil) .nil) (.node o164 .nil .nil)
noncomputable def t148 (P : Params) : BT := .node o164 (.node (o217 P) (.node o353 .nil .nil) .nil) (.node o283 .nil .nil)
noncomputable def t149 : BT := .node o143 (.node o164 (.node o345 .nil .nil) .nil) (.node o398 .nil .nil)
noncomputable def t150 : BT := .node o125 (.node o191 (.node o329 .nil .nil) .nil) (.node o259 .nil .nil)
noncomputable def t151 : BT := .node o398 (.node o225 (.node o361 .nil .nil) .nil) (.node o164 .nil .nil)
noncomputable def t152 (P : Params) : BT := .node (boot_o_9 P) (.node o53 (.node o69 t146 t147) (.node o85 t116 (t148 P))) (.node o164 (.node o77 t67 t149) (.node o164 t150 t151))
noncomputable def t153 : BT := .node o105 (.node o164 (.node o164 .nil .nil) .nil) (.node o164 (.node o373 .nil .nil) .nil)
noncomputable def t154 : BT := .node o139 (.node o164 (.node o341 .nil .nil) .nil) (.node o271 .nil .nil)
noncomputable def t155 : BT := .node o164 (.node o187 (.node o328 .nil .nil) .nil) (.node o255 .nil .nil)
noncomputable def t156 : BT := .node o155 (.node o221 (.node o357 .nil .nil) .nil) (.node o398 .nil .nil)
noncomputable def t157 : BT := .node o164 (.node o213 (.node o398 .nil .nil) .nil) (.node o279 .nil .nil)
noncomputable def t158 : BT := .node o398 (.node o164 (.node o333 .nil .nil) .nil) (.node o164 .nil .nil)
noncomputable def t159 : BT := .node o163 (.node o229 (.node o365 .nil .nil) .nil) (.node o295 .nil .nil)
noncomputable def t160 : BT := .node o45 (.node o57 (.node o398 t153 t154) (.node o164 t155 t156)) (.node o164 (.node o81 t119 t157) (.node o97 t158 t159))
noncomputable def t161 : BT := .node o164 (.node o166 (.node o164 .nil .nil) .nil) (.node o232 (.node o398 .nil .nil) .nil)
noncomputable def t162 : BT := .node o132 (.node o200 (.node o164 .nil .nil) .nil) (.node o266 .nil .nil)
noncomputable def t163 : BT := .node o150 (.node o216 (.node o352 .nil .nil) .nil) (.node o398 .nil .nil)
noncomputable def t164 (P : Params) : BT := .node o142 (.node o208 (.node (o344 P) .nil .nil) .nil) (.node o164 .nil .nil)
noncomputable def t165 : BT := .node o164 (.node o398 (.node o360 .nil .nil) .nil) (.node o290 .nil .nil)
noncomputable def t166 (P : Params) : BT := .node (boot_o_8 P) (.node o398 (.node o164 t161 t162) (.node o84 t121 t163)) (.node o60 (.node o76 t82 (t164 P)) (.node o92 t122 t165))
noncomputable def t167 : BT := .node o104 (.node o170 (.node o302 .nil .nil) .nil) (.node o236 (.node o372 .nil .nil) .nil)
noncomputable def t168 : BT := .node o398 (.node o204 (.node o340 .nil .nil) .nil) (.node o164 .nil .nil)
noncomputable def t169 : BT := .node o164 (.node o220 (.node o398 .nil .nil) .nil) (.node o164 .nil .nil)
noncomputable def t170 : BT := .node o146 (.node o164 (.node o164 .nil .nil) .nil) (.node o278 .nil .nil)
noncomputable def t171 (P : Params) : BT := .node o164 (.node (o196 P) (.node o164 .nil .nil) .nil) (.node o262 .nil .nil)
noncomputable def t172 : BT := .node o162 (.node o228 (.node o364 .nil .nil) .nil) (.node o164 .nil .nil)
noncomputable def t173 (P : Params) : BT := .node o327 (.node o56 (.node o164 t167 t168) (.node o88 (t124 P) t169)) (.node o64 (.node o398 t125 t170) (.node o164 (t171 P) t172))
noncomputable def t174 : BT := .node o102 (.node o168 (.node o300 .nil .nil) .nil) (.node o234 (.node o164 .nil .nil) .nil)
noncomputable def t175 : BT := .node o134 (.node o164 (.node o338 .nil .nil) .nil) (.node o398 .nil .nil)
noncomputable def t176 : BT := .node o398 (.node o218 (.node o354 .nil .nil) .nil) (.node o284 .nil .nil)
noncomputable def t177 : BT := .node o164 (.node o398 (.node o346 .nil .nil) .nil) (.node o276 .nil .nil)
noncomputable def t178 : BT := .node o126 (.node o164 (.node o330 .nil .nil) .nil) (.node o164 .nil .nil)
noncomputable def t179 : BT := .node o160 (.node o164 (.node o164 .nil .nil) .nil) (.node o398 .nil .nil)
noncomputable def t180 (P : Params) : BT := .node (boot_o_10 P) (.node o164 (.node o70 t174 t175) (.node o164 t127 t176)) (.node o62 (.node o78 t98 t177) (.node o398 t178 t179))
noncomputable def t181 : BT := .node o164 (.node o206 (.node o342 .nil .nil) .nil) (.node o272 .nil .nil)
noncomputable def t182 : BT := .node o156 (.node o222 (.node o164 .nil .nil) .nil) (.node o288 .nil .nil)
noncomputable def t183 : BT := .node o148 (.node o214 (.node o350 .nil .nil) .nil) (.node o280 .nil .nil)
noncomputable def t184 : BT := .node o130 (.node o198 (.node o334 .nil .nil) .nil) (.node o264 .nil .nil)
noncomputable def t185 : BT := .node o164 (.node o164 (.node o366 .nil .nil) .nil) (.node o296 .nil .nil)
noncomputable def t186 (P : Params) : BT := .node o46 (.node o164 (.node o74 t103 t181) (.node o90 t129 t182)) (.node o398 (.node o164 (t130 P) t183) (.node o98 t184 t185))
noncomputable def t187 (P : Params) : BT := .node (boot_o_0 P) (.node (boot_o_1 P) (.node (o326 P) (t138 P) (t145 P)) (.node (boot_o_5 P) (t152 P) t160)) (.node (o310 P) (.node (boot_o_4 P) (t166 P) (t173 P)) (.node (boot_o_6 P) (t180 P) (t186 P)))
noncomputable def tr373 (P : Params) : BT := t187 P
noncomputable def t188 : BT := .node o99 (.node o398 (.node o297 .nil .nil) (.node o433 .nil .nil)) (.node o398 (.node o164 .nil .nil) .nil)
noncomputable def t189 : BT := .node o164 (.node o199 (.node o335 .nil .nil) .nil) (.node o265 (.node o401 .nil .nil) .nil)
noncomputable def t190 : BT := .node o398 (.node o164 (.node o164 .nil .nil) (.node o164 .nil .nil)) (.node o164 (.node o385 .nil .nil) .nil)
noncomputable def t191 : BT := .node o149 (.node o215 (.node o164 .nil .nil) .nil) (.node o164 (.node o398 .nil .nil) .nil)
noncomputable def t192 (P : Params) : BT := .node o164 (.node (o173 P) (.node o305 .nil .nil) (.node o441 .nil .nil)) (.node o239 (.node o398 .nil .nil) .nil)
noncomputable def t193 : BT := .node o141 (.node o207 (.node o343 .nil .nil) .nil) (.node o273 (.node o409 .nil .nil) .nil)
noncomputable def t194 : BT := .node o123 (.node o189 (.node o324 .nil .nil) .nil) (.node o257 (.node o164 .nil .nil) .nil)
noncomputable def t195 : BT := .node o157 (.node o164 (.node o359 .nil .nil) .nil) (.node o289 (.node o425 .nil .nil) .nil)
noncomputable def t196 (P : Params) : BT := .node (boot_o_7 P) (.node o164 (.node o67 t188 t189) (.node o83 t190 t191)) (.node o398 (.node o164 (t192 P) t193) (.node o91 t194 t195))
noncomputable def t197 : BT := .node o164 (.node o169 (.node o301 .nil .nil) (.node o437 .nil .nil)) (.node o235 (.node o371 .nil .nil) .nil)
noncomputable def t198 : BT := .node o164 (.node o398 (.node o164 .nil .nil) .nil) (.node o269 (.node o398 .nil .nil) .nil)
noncomputable def t199 : BT := .node o119 (.node o185 (.node o164 .nil .nil) (.node o453 .nil .nil)) (.node o164 (.node o389 .nil .nil) .nil)
noncomputable def t200 : BT := .node o153 (.node o219 (.node o164 .nil .nil) .nil) (.node o285 (.node o421 .nil .nil) .nil)
noncomputable def t201 : BT := .node o111 (.node o177 (.node o309 .nil .nil) (.node o164 .nil .nil)) (.node o243 (.node o381 .nil .nil) .nil)
noncomputable def t202 : BT := .node o398 (.node o211 (.node o347 .nil .nil) .nil) (.node o164 (.node o413 .nil .nil) .nil)
noncomputable def t203 (P : Params) : BT := .node o127 (.node o330 (.node (o331 P) .nil .nil) .nil) (.node o398 (.node o164 .nil .nil) .nil)
noncomputable def t204 : BT := .node o161 (.node o227 (.node o398 .nil .nil) .nil) (.node o293 (.node o429 .nil .nil) .nil)
noncomputable def t205 (P : Params) : BT := .node o164 (.node o55 (.node o71 t197 t198) (.node o398 t199 t200)) (.node o63 (.node o164 t201 t202) (.node o95 (t203 P) t204))
noncomputable def t206 : BT := .node o398 (.node o164 (.node o398 .nil .nil) (.node o164 .nil .nil)) (.node o164 (.node o369 .nil .nil) .nil)
noncomputable def t207 : BT := .node o133 (.node o201 (.node o398 .nil .nil) .nil) (.node o164 (.node o403 .nil .nil) .nil)
noncomputable def t208 : BT := .node o164 (.node o183 (.node o318 .nil .nil) (.node o451 .nil .nil)) (.node o249 (.node o387 .nil .nil) .nil)
noncomputable def t209 (P : Params) : BT := .node o164 (.node (o217 P) (.node o353 .nil .nil) .nil) (.node o283 (.node o164 .nil .nil) .nil)
noncomputable def t210 : BT := .node o109 (.node o175 (.node o307 .nil .nil) (.node o398 .nil .nil)) (.node o241 (.node o164 .nil .nil) .nil)
noncomputable def t211 : BT := .node o143 (.node o164 (.node o345 .nil .nil) .nil) (.node o398 (.node o164 .nil .nil) .nil)
noncomputable def t212 : BT := .node o125 (.node o191 (.node o329 .nil .nil) .nil) (.node o259 (.node o395 .nil .nil) .nil)
noncomputable def t213 : BT := .node o398 (.node o225 (.node o361 .nil .nil) .nil) (.node o164 (.node o427 .nil .nil) .nil)
noncomputable def t214 (P : Params) : BT := .node (boot_o_9 P) (.node o53 (.node o69 t206 t207) (.node o85 t208 (t209 P))) (.node o164 (.node o77 t210 t211) (.node o164 t212 t213))
noncomputable def t215 : BT := .node o105 (.node o164 (.node o164 .nil .nil) (.node o439 .nil .nil)) (.node o164 (.node o373 .nil .nil) .nil)
noncomputable def t216 : BT := .node o139 (.node o164 (.node o341 .nil .nil) .nil) (.node o271 (.node o164 .nil .nil) .nil)
noncomputable def t217 : BT := .node o164 (.node o187 (.node o328 .nil .nil) (.node o455 .nil .nil)) (.node o255 (.node o398 .nil .nil) .nil)
noncomputable def t218 : BT := .node o155 (.node o221 (.node o357 .nil .nil) .nil) (.node o398 (.node o164 .nil .nil) .nil)
noncomputable def t219 : BT := .node o113 (.node o398 (.node o330 .nil .nil) (.node o447 .nil .nil)) (.node o398 (.node o164 .nil .nil) .nil)
noncomputable def t220 : BT := .node o164 (.node o213 (.node o398 .nil .nil) .nil) (.node o279 (.node o415 .nil .nil) .nil)
noncomputable def t221 : BT := .node o398 (.node o164 (.node o333 .nil .nil) .nil) (.node o164 (.node o399 .nil .nil) .nil)
noncomputable def t222 : BT := .node o163 (.node o229 (.node o365 .nil .nil) .nil) (.node o295 (.node o398 .nil .nil) .nil)
noncomputable def t223 : BT := .node o45 (.node o57 (.node o398 t215 t216) (.node o164 t217 t218)) (.node o164 (.node o81 t219 t220) (.node o97 t221 t222))
noncomputable def t224 : BT := .node o164 (.node o166 (.node o164 .nil .nil) (.node o434 .nil .nil)) (.node o232 (.node o398 .nil .nil) .nil)
noncomputable def t225 : BT := .node o132 (.node o200 (.node o164 .nil .nil) .nil) (.node o266 (.node o402 .nil .nil) .nil)
noncomputable def t226 : BT := .node o116 (.node o182 (.node o398 .nil .nil) (.node o398 .nil .nil)) (.node o248 (.node o164 .nil .nil) .nil)
noncomputable def t227 : BT := .node o150 (.node o216 (.node o352 .nil .nil) .nil) (.node o398 (.node o418 .nil .nil) .nil)
noncomputable def t228 : BT := .node o398 (.node o164 (.node o164 .nil .nil) (.node o164 .nil .nil)) (.node o164 (.node o378 .nil .nil) .nil)
noncomputable def t229 (P : Params) : BT := .node o142 (.node o208 (.node (o344 P) .nil .nil) .nil) (.node o164 (.node o410 .nil .nil) .nil)
noncomputable def t230 : BT := .node o164 (.node o190 (.node o325 .nil .nil) .nil) (.node o258 (.node o394 .nil .nil) .nil)
noncomputable def t231 : BT := .node o164 (.node o398 (.node o360 .nil .nil) .nil) (.node o290 (.node o164 .nil .nil) .nil)
noncomputable def t232 (P : Params) : BT := .node (boot_o_8 P) (.node o398 (.node o164 t224 t225) (.node o84 t226 t227)) (.node o60 (.node o76 t228 (t229 P)) (.node o92 t230 t231))
noncomputable def t233 : BT := .node o104 (.node o170 (.node o302 .nil .nil) (.node o164 .nil .nil)) (.node o236 (.node o372 .nil .nil) .nil)
noncomputable def t234 : BT := .node o398 (.node o204 (.node o340 .nil .nil) .nil) (.node o164 (.node o406 .nil .nil) .nil)
noncomputable def t235 (P : Params) : BT := .node o120 (.node (o186 P) (.node (o321 P) .nil .nil) (.node o454 .nil .nil)) (.node o398 (.node o164 .nil .nil) .nil)
noncomputable def t236 : BT := .node o164 (.node o220 (.node o398 .nil .nil) .nil) (.node o164 (.node o422 .nil .nil) .nil)
noncomputable def t237 : BT := .node o112 (.node o164 (.node o313 .nil .nil) (.node o446 .nil .nil)) (.node o164 (.node o382 .nil .nil) .nil)
noncomputable def t238 : BT := .node o146 (.node o164 (.node o164 .nil .nil) .nil) (.node o278 (.node o414 .nil .nil) .nil)
noncomputable def t239 (P : Params) : BT := .node o164 (.node (o196 P) (.node o164 .nil .nil) .nil) (.node o262 (.node o398 .nil .nil) .nil)
noncomputable def t240 : BT := .node o162 (.node o228 (.node o364 .nil .nil) .nil) (.node o164 (.node o164 .nil .nil) .nil)
noncomputable def t241 (P : Params) : BT := .node o375 (.node o56 (.node o164 t233 t234) (.node o88 (t235 P) t236)) (.node o64 (.node o398 t237 t238) (.node o164 (t239 P) t240))
noncomputable def t242 : BT := .node o102 (.node o168 (.node o300 .nil .nil) (.node o398 .nil .nil)) (.node o234 (.node o164 .nil .nil) .nil)
noncomputable def t243 : BT := .node o134 (.node o164 (.node o338 .nil .nil) .nil) (.node o398 (.node o164 .nil .nil) .nil)
noncomputable def t244 : BT := .node o118 (.node o184 (.node o319 .nil .nil) (.node o164 .nil .nil)) (.node o250 (.node o388 .nil .nil) .nil)
noncomputable def t245 : BT := .node o398 (.node o218 (.node o354 .nil .nil) .nil) (.node o284 (.node o420 .nil .nil) .nil)
noncomputable def t246 : BT := .node o164 (.node o176 (.node o308 .nil .nil) (.node o444 .nil .nil)) (.node o242 (.node o380 .nil .nil) .nil)
noncomputable def t247 : BT := .node o164 (.node o398 (.node o346 .nil .nil) .nil) (.node o276 (.node o398 .nil .nil) .nil)
noncomputable def t248 : BT := .node o126 (.node o164 (.node o330 .nil .nil) .nil) (.node o164 (.node o396 .nil .nil) .nil)
noncomputable def t249 : BT := .node o160 (.node o164 (.node o164 .nil .nil) .nil) (.node o398 (.node o428 .nil .nil) .nil)
noncomputable def t250 (P : Params) : BT := .node (boot_o_10 P) (.node o164 (.node o70 t242 t243) (.node o164 t244 t245)) (.node o62 (.node o78 t246 t247) (.node o398 t248 t249))
noncomputable def t251 : BT := .node o106 (.node o330 (.node o398 .nil .nil) (.node o440 .nil .nil)) (.node o398 (.node o164 .nil .nil) .nil)
noncomputable def t252 : BT := .node o164 (.node o206 (.node o342 .nil .nil) .nil) (.node o272 (.node o408 .nil .nil) .nil)
noncomputable def t253 : BT := .node o398 (.node o188 (.node o323 .nil .nil) .nil) (.node o164 (.node o392 .nil .nil) .nil)
noncomputable def t254 : BT := .node o156 (.node o222 (.node o164 .nil .nil) .nil) (.node o288 (.node o398 .nil .nil) .nil)
noncomputable def t255 (P : Params) : BT := .node o164 (.node o180 (.node (o315 P) .nil .nil) (.node o448 .nil .nil)) (.node o246 (.node o398 .nil .nil) .nil)
noncomputable def t256 : BT := .node o148 (.node o214 (.node o350 .nil .nil) .nil) (.node o280 (.node o164 .nil .nil) .nil)
noncomputable def t257 : BT := .node o130 (.node o198 (.node o334 .nil .nil) .nil) (.node o264 (.node o164 .nil .nil) .nil)
noncomputable def t258 : BT := .node o164 (.node o164 (.node o366 .nil .nil) .nil) (.node o296 (.node o432 .nil .nil) .nil)
noncomputable def t259 (P : Params) : BT := .node o46 (.node o164 (.node o74 t251 t252) (.node o90 t253 t254)) (.node o398 (.node o164 (t255 P) t256) (.node o98 t257 t258))
noncomputable def t260 (P : Params) : BT := .node (boot_o_0 P) (.node (boot_o_1 P) (.node (o374 P) (t196 P) (t205 P)) (.node (boot_o_5 P) (t214 P) t223)) (.node (o310 P) (.node (boot_o_4 P) (t232 P) (t241 P)) (.node (boot_o_6 P) (t250 P) (t259 P)))
noncomputable def tr455 (P : Params) : BT := t260 P
noncomputable def t261 : BT := .node o99 (.node o398 (.node o297 .nil .nil) (.node o433 .nil .nil)) (.node o398 (.node o164 .nil .nil) (.node o398 .nil .nil))
noncomputable def t262 : BT := .node o164 (.node o199 (.node o335 .nil .nil) (.node o467 .nil .nil)) (.node o265 (.node o401 .nil .nil) (.node o531 .nil .nil))
noncomputable def t263 : BT := .node o398 (.node o164 (.node o164 .nil .nil) (.node o164 .nil .nil)) (.node o164 (.node o385 .nil .nil) (.node o164 .nil .nil))
noncomputable def t264 : BT := .node o149 (.node o215 (.node o164 .nil .nil) (.node o483 .nil .nil)) (.node o164 (.node o398 .nil .nil) .nil)
noncomputable def t265 (P : Params) : BT := .node o164 (.node (o173 P) (.node o305 .nil .nil) (.node o441 .nil .nil)) (.node o239 (.node o398 .nil .nil) (.node o507 .nil .nil))
noncomputable def t266 : BT := .node o141 (.node o207 (.node o343 .nil .nil) (.node o475 .nil .nil)) (.node o273 (.node o409 .nil .nil) (.node o539 .nil .nil))
noncomputable def t267 : BT := .node o123 (.node o189 (.node o324 .nil .nil) (.node o398 .nil .nil)) (.node o257 (.node o164 .nil .nil) (.node o398 .nil .nil))
noncomputable def t268 : BT := .node o157 (.node o164 (.node o359 .nil .nil) (.node o164 .nil .nil)) (.node o289 (.node o425 .nil .nil) .nil)
noncomputable def t269 (P : Params) : BT := .node (boot_o_7 P) (.node o164 (.node o67 t261 t262) (.node o83 t263 t264)) (.node o398 (.node o164 (t265 P) t266) (.node o91 t267 t268))
noncomputable def t270 : BT := .node o164 (.node o169 (.node o301 .nil .nil) (.node o437 .nil .nil)) (.node o235 (.node o371 .nil .nil) (.node o164 .nil .nil))
noncomputable def t271 : BT := .node o164 (.node o398 (.node o164 .nil .nil) (.node o471 .nil .nil)) (.node o269 (.node o398 .nil .nil) (.node o398 .nil .nil))
noncomputable def t272 : BT := .node o119 (.node o185 (.node o164 .nil .nil) (.node o453 .nil .nil)) (.node o164 (.node o389 .nil .nil) (.node o519 .nil .nil))
noncomputable def t273 : BT := .node o153 (.node o219 (.node o164 .nil .nil) (.node o164 .nil .nil)) (.node o285 (.node o421 .nil .nil) .nil)
noncomputable def t274 : BT := .node o111 (.node o177 (.node o309 .nil .nil) (.node o164 .nil .nil)) (.node o243 (.node o381 .nil .nil) (.node o164 .nil .nil))
noncomputable def t275 : BT := .node o398 (.node o211 (.node o347 .nil .nil) (.node o479 .nil .nil)) (.node o164 (.node o413 .nil .nil) .nil)
noncomputable def t276 (P : Params) : BT := .node o127 (.node o330 (.node (o331 P) .nil .nil) (.node o463 .nil .nil)) (.node o398 (.node o164 .nil .nil) (.node o527 .nil .nil))
noncomputable def t277 : BT := .node o161 (.node o227 (.node o398 .nil .nil) (.node o495 .nil .nil)) (.node o293 (.node o429 .nil .nil) .nil)
noncomputable def t278 (P : Params) : BT := .node o164 (.node o55 (.node o71 t270 t271) (.node o398 t272 t273)) (.node o63 (.node o164 t274 t275) (.node o95 (t276 P) t277))
noncomputable def t279 : BT := .node o398 (.node o164 (.node o398 .nil .nil) (.node o164 .nil .nil)) (.node o164 (.node o369 .nil .nil) (.node o501 .nil .nil))
noncomputable def t280 : BT := .node o133 (.node o201 (.node o398 .nil .nil) (.node o469 .nil .nil)) (.node o164 (.node o403 .nil .nil) (.node o533 .nil .nil))
noncomputable def t281 : BT := .node o164 (.node o183 (.node o318 .nil .nil) (.node o451 .nil .nil)) (.node o249 (.node o387 .nil .nil) (.node o517 .nil .nil))
noncomputable def t282 (P : Params) : BT := .node o164 (.node (o217 P) (.node o353 .nil .nil) (.node o398 .nil .nil)) (.node o283 (.node o164 .nil .nil) .nil)
noncomputable def t283 : BT := .node o109 (.node o175 (.node o307 .nil .nil) (.node o398 .nil .nil)) (.node o241 (.node o164 .nil .nil) (.node o398 .nil .nil))
noncomputable def t284 : BT := .node o143 (.node o164 (.node o345 .nil .nil) (.node o164 .nil .nil)) (.node o398 (.node o164 .nil .nil) .nil)
noncomputable def t285 : BT := .node o125 (.node o191 (.node o329 .nil .nil) (.node o164 .nil .nil)) (.node o259 (.node o395 .nil .nil) (.node o164 .nil .nil))
noncomputable def t286 : BT := .node o398 (.node o225 (.node o361 .nil .nil) (.node o493 .nil .nil)) (.node o164 (.node o427 .nil .nil) .nil)
noncomputable def t287 (P : Params) : BT := .node (boot_o_9 P) (.node o53 (.node o69 t279 t280) (.node o85 t281 (t282 P))) (.node o164 (.node o77 t283 t284) (.node o164 t285 t286))
noncomputable def t288 : BT := .node o105 (.node o164 (.node o164 .nil .nil) (.node o439 .nil .nil)) (.node o164 (.node o373 .nil .nil) (.node o505 .nil .nil))
noncomputable def t289 : BT := .node o139 (.node o164 (.node o341 .nil .nil) (.node o398 .nil .nil)) (.node o271 (.node o164 .nil .nil) (.node o164 .nil .nil))
noncomputable def t290 : BT := .node o164 (.node o187 (.node o328 .nil .nil) (.node o455 .nil .nil)) (.node o255 (.node o398 .nil .nil) (.node o521 .nil .nil))
noncomputable def t291 : BT := .node o155 (.node o221 (.node o357 .nil .nil) (.node o489 .nil .nil)) (.node o398 (.node o164 .nil .nil) .nil)
noncomputable def t292 : BT := .node o113 (.node o398 (.node o330 .nil .nil) (.node o447 .nil .nil)) (.node o398 (.node o164 .nil .nil) (.node o513 .nil .nil))
noncomputable def t293 : BT := .node o164 (.node o213 (.node o398 .nil .nil) (.node o481 .nil .nil)) (.node o279 (.node o415 .nil .nil) .nil)
noncomputable def t294 : BT := .node o398 (.node o164 (.node o333 .nil .nil) (.node o164 .nil .nil)) (.node o164 (.node o399 .nil .nil) (.node o164 .nil .nil))
noncomputable def t295 : BT := .node o163 (.node o229 (.node o365 .nil .nil) (.node o497 .nil .nil)) (.node o295 (.node o398 .nil .nil) .nil)
noncomputable def t296 : BT := .node o45 (.node o57 (.node o398 t288 t289) (.node o164 t290 t291)) (.node o164 (.node o81 t292 t293) (.node o97 t294 t295))
noncomputable def t297 : BT := .node o164 (.node o166 (.node o164 .nil .nil) (.node o434 .nil .nil)) (.node o232 (.node o398 .nil .nil) (.node o500 .nil .nil))
noncomputable def t298 : BT := .node o132 (.node o200 (.node o164 .nil .nil) (.node o164 .nil .nil)) (.node o266 (.node o402 .nil .nil) (.node o532 .nil .nil))
noncomputable def t299 : BT := .node o116 (.node o182 (.node o398 .nil .nil) (.node o398 .nil .nil)) (.node o248 (.node o164 .nil .nil) (.node o398 .nil .nil))
noncomputable def t300 : BT := .node o150 (.node o216 (.node o352 .nil .nil) (.node o164 .nil .nil)) (.node o398 (.node o418 .nil .nil) .nil)
noncomputable def t301 : BT := .node o398 (.node o164 (.node o164 .nil .nil) (.node o164 .nil .nil)) (.node o164 (.node o378 .nil .nil) (.node o164 .nil .nil))
noncomputable def t302 (P : Params) : BT := .node o142 (.node o208 (.node (o344 P) .nil .nil) (.node o476 .nil .nil)) (.node o164 (.node o410 .nil .nil) (.node o540 .nil .nil))
noncomputable def t303 : BT := .node o164 (.node o190 (.node o325 .nil .nil) (.node o460 .nil .nil)) (.node o258 (.node o394 .nil .nil) (.node o524 .nil .nil))
noncomputable def t304 : BT := .node o164 (.node o398 (.node o360 .nil .nil) (.node o398 .nil .nil)) (.node o290 (.node o164 .nil .nil) .nil)
noncomputable def t305 (P : Params) : BT := .node (boot_o_8 P) (.node o398 (.node o164 t297 t298) (.node o84 t299 t300)) (.node o60 (.node o76 t301 (t302 P)) (.node o92 t303 t304))
noncomputable def t306 : BT := .node o104 (.node o170 (.node o302 .nil .nil) (.node o164 .nil .nil)) (.node o236 (.node o372 .nil .nil) (.node o398 .nil .nil))
noncomputable def t307 : BT := .node o398 (.node o204 (.node o340 .nil .nil) (.node o164 .nil .nil)) (.node o164 (.node o406 .nil .nil) (.node o536 .nil .nil))
noncomputable def t308 (P : Params) : BT := .node o120 (.node (o186 P) (.node (o321 P) .nil .nil) (.node o454 .nil .nil)) (.node o398 (.node o164 .nil .nil) (.node o520 .nil .nil))
noncomputable def t309 : BT := .node o164 (.node o220 (.node o398 .nil .nil) (.node o488 .nil .nil)) (.node o164 (.node o422 .nil .nil) .nil)
noncomputable def t310 : BT := .node o112 (.node o164 (.node o313 .nil .nil) (.node o446 .nil .nil)) (.node o164 (.node o382 .nil .nil) (.node o512 .nil .nil))
noncomputable def t311 : BT := .node o146 (.node o164 (.node o164 .nil .nil) (.node o164 .nil .nil)) (.node o278 (.node o414 .nil .nil) .nil)
noncomputable def t312 (P : Params) : BT := .node o164 (.node (o196 P) (.node o164 .nil .nil) (.node o464 .nil .nil)) (.node o262 (.node o398 .nil .nil) (.node o528 .nil .nil))
noncomputable def t313 : BT := .node o162 (.node o228 (.node o364 .nil .nil) (.node o496 .nil .nil)) (.node o164 (.node o164 .nil .nil) .nil)
noncomputable def t314 (P : Params) : BT := .node o457 (.node o56 (.node o164 t306 t307) (.node o88 (t308 P) t309)) (.node o64 (.node o398 t310 t311) (.node o164 (t312 P) t313))
noncomputable def t315 : BT := .node o102 (.node o168 (.node o300 .nil .nil) (.node o398 .nil .nil)) (.node o234 (.node o164 .nil .nil) (.node o502 .nil .nil))
noncomputable def t316 : BT := .node o134 (.node o164 (.node o338 .nil .nil) (.node o470 .nil .nil)) (.node o398 (.node o164 .nil .nil) (.node o164 .nil .nil))
noncomputable def t317 : BT := .node o118 (.node o184 (.node o319 .nil .nil) (.node o164 .nil .nil)) (.node o250 (.node o388 .nil .nil) (.node o164 .nil .nil))
noncomputable def t318 : BT := .node o398 (.node o218 (.node o354 .nil .nil) (.node o486 .nil .nil)) (.node o284 (.node o420 .nil .nil) .nil)
noncomputable def t319 : BT := .node o164 (.node o176 (.node o308 .nil .nil) (.node o444 .nil .nil)) (.node o242 (.node o380 .nil .nil) (.node o510 .nil .nil))
noncomputable def t320 : BT := .node o164 (.node o398 (.node o346 .nil .nil) (.node o398 .nil .nil)) (.node o276 (.node o398 .nil .nil) .nil)
noncomputable def t321 : BT := .node o126 (.node o164 (.node o330 .nil .nil) (.node o462 .nil .nil)) (.node o164 (.node o396 .nil .nil) (.node o526 .nil .nil))
noncomputable def t322 : BT := .node o160 (.node o164 (.node o164 .nil .nil) (.node o164 .nil .nil)) (.node o398 (.node o428 .nil .nil) .nil)
noncomputable def t323 (P : Params) : BT := .node (boot_o_10 P) (.node o164 (.node o70 t315 t316) (.node o164 t317 t318)) (.node o62 (.node o78 t319 t320) (.node o398 t321 t322))
noncomputable def t324 : BT := .node o106 (.node o330 (.node o398 .nil .nil) (.node o440 .nil .nil)) (.node o398 (.node o164 .nil .nil) (.node o506 .nil .nil))
noncomputable def t325 : BT := .node o164 (.node o206 (.node o342 .nil .nil) (.node o474 .nil .nil)) (.node o272 (.node o408 .nil .nil) (.node o538 .nil .nil))
noncomputable def t326 : BT := .node o398 (.node o188 (.node o323 .nil .nil) (.node o164 .nil .nil)) (.node o164 (.node o392 .nil .nil) (.node o164 .nil .nil))
noncomputable def t327 : BT := .node o156 (.node o222 (.node o164 .nil .nil) (.node o490 .nil .nil)) (.node o288 (.node o398 .nil .nil) .nil)
noncomputable def t328 (P : Params) : BT := .node o164 (.node o180 (.node (o315 P) .nil .nil) (.node o448 .nil .nil)) (.node o246 (.node o398 .nil .nil) (.node o514 .nil .nil))
noncomputable def t329 : BT := .node o148 (.node o214 (.node o350 .nil .nil) (.node o482 .nil .nil)) (.node o280 (.node o164 .nil .nil) .nil)
noncomputable def t330 : BT := .node o130 (.node o198 (.node o334 .nil .nil) (.node o398 .nil .nil)) (.node o264 (.node o164 .nil .nil) (.node o398 .nil .nil))
noncomputable def t331 : BT := .node o164 (.node o164 (.node o366 .nil .nil) (.node o164 .nil .nil)) (.node o296 (.node o432 .nil .nil) .nil)
noncomputable def t332 (P : Params) : BT := .node o46 (.node o164 (.node o74 t324 t325) (.node o90 t326 t327)) (.node o398 (.node o164 (t328 P) t329) (.node o98 t330 t331))
noncomputable def t333 (P : Params) : BT := .node (boot_o_0 P) (.node (boot_o_1 P) (.node (o456 P) (t269 P) (t278 P)) (.node (boot_o_5 P) (t287 P) t296)) (.node (o310 P) (.node (boot_o_4 P) (t305 P) (t314 P)) (.node (boot_o_6 P) (t323 P) (t332 P)))
noncomputable def tr540 (P : Params) : BT := t333 P
noncomputable def t334 : BT := .node o99 (.node o398 (.node o297 (.node o398 .nil .nil) .nil) (.node o433 .nil .nil)) (.node o398 (.node o164 .nil .nil) (.node o398 .nil .nil))
noncomputable def t335 : BT := .node o164 (.node o199 (.node o335 (.node o164 .nil .nil) .nil) (.node o467 .nil .nil)) (.node o265 (.node o401 .nil .nil) (.node o531 .nil .nil))
noncomputable def t336 : BT := .node o398 (.node o164 (.node o164 (.node o581 .nil .nil) .nil) (.node o164 .nil .nil)) (.node o164 (.node o385 .nil .nil) (.node o164 .nil .nil))
noncomputable def t337 : BT := .node o149 (.node o215 (.node o164 .nil .nil) (.node o483 .nil .nil)) (.node o164 (.node o398 .nil .nil) (.node o549 .nil .nil))
noncomputable def t338 (P : Params) : BT := .node o164 (.node (o173 P) (.node o305 (.node o573 .nil .nil) .nil) (.node o441 .nil .nil)) (.node o239 (.node o398 .nil .nil) (.node o507 .nil .nil))
noncomputable def t339 : BT := .node o123 (.node o189 (.node o324 (.node o589 .nil .nil) .nil) (.node o398 .nil .nil)) (.node o257 (.node o164 .nil .nil) (.node o398 .nil .nil))
noncomputable def t340 : BT := .node o157 (.node o164 (.node o359 .nil .nil) (.node o164 .nil .nil)) (.node o289 (.node o425 .nil .nil) (.node o164 .nil .nil))
noncomputable def t341 (P : Params) : BT := .node (boot_o_7 P) (.node o164 (.node o67 t334 t335) (.node o83 t336 t337)) (.node o398 (.node o164 (t338 P) t266) (.node o91 t339 t340))
noncomputable def t342 : BT := .node o164 (.node o169 (.node o301 (.node o569 .nil .nil) .nil) (.node o437 .nil .nil)) (.node o235 (.node o371 .nil .nil) (.node o164 .nil .nil))
noncomputable def t343 : BT := .node o164 (.node o398 (.node o164 (.node o601 .nil .nil) .nil) (.node o471 .nil .nil)) (.node o269 (.node o398 .nil .nil) (.node o398 .nil .nil))
noncomputable def t344 : BT := .node o119 (.node o185 (.node o164 (.node o585 .nil .nil) .nil) (.node o453 .nil .nil)) (.node o164 (.node o389 .nil .nil) (.node o519 .nil .nil))
noncomputable def t345 : BT := .node o153 (.node o219 (.node o164 .nil .nil) (.node o164 .nil .nil)) (.node o285 (.node o421 .nil .nil) (.node o164 .nil .nil))
noncomputable def t346 : BT := .node o111 (.node o177 (.node o309 (.node o577 .nil .nil) .nil) (.node o164 .nil .nil)) (.node o243 (.node o381 .nil .nil) (.node o164 .nil .nil))
noncomputable def t347 : BT := .node o398 (.node o211 (.node o347 .nil .nil) (.node o479 .nil .nil)) (.node o164 (.node o413 .nil .nil) (.node o545 .nil .nil))
noncomputable def t348 (P : Params) : BT := .node o127 (.node o330 (.node (o331 P) (.node o164 .nil .nil) .nil) (.node o463 .nil .nil)) (.node o398 (.node o164 .nil .nil) (.node o527 .nil .nil))
noncomputable def t349 : BT := .node o161 (.node o227 (.node o398 .nil .nil) (.node o495 .nil .nil)) (.node o293 (.node o429 .nil .nil) (.node o561 .nil .nil))
noncomputable def t350 (P : Params) : BT := .node o164 (.node o55 (.node o71 t342 t343) (.node o398 t344 t345)) (.node o63 (.node o164 t346 t347) (.node o95 (t348 P) t349))
noncomputable def t351 : BT := .node o398 (.node o164 (.node o398 (.node o164 .nil .nil) .nil) (.node o164 .nil .nil)) (.node o164 (.node o369 .nil .nil) (.node o501 .nil .nil))
noncomputable def t352 : BT := .node o133 (.node o201 (.node o398 (.node o599 .nil .nil) .nil) (.node o469 .nil .nil)) (.node o164 (.node o403 .nil .nil) (.node o533 .nil .nil))
noncomputable def t353 : BT := .node o164 (.node o183 (.node o318 (.node o164 .nil .nil) .nil) (.node o451 .nil .nil)) (.node o249 (.node o387 .nil .nil) (.node o517 .nil .nil))
noncomputable def t354 (P : Params) : BT := .node o164 (.node (o217 P) (.node o353 .nil .nil) (.node o398 .nil .nil)) (.node o283 (.node o164 .nil .nil) (.node o398 .nil .nil))
noncomputable def t355 : BT := .node o109 (.node o175 (.node o307 (.node o575 .nil .nil) .nil) (.node o398 .nil .nil)) (.node o241 (.node o164 .nil .nil) (.node o398 .nil .nil))
noncomputable def t356 : BT := .node o143 (.node o164 (.node o345 .nil .nil) (.node o164 .nil .nil)) (.node o398 (.node o164 .nil .nil) (.node o164 .nil .nil))
noncomputable def t357 : BT := .node o125 (.node o191 (.node o329 (.node o398 .nil .nil) .nil) (.node o164 .nil .nil)) (.node o259 (.node o395 .nil .nil) (.node o164 .nil .nil))
noncomputable def t358 : BT := .node o398 (.node o225 (.node o361 .nil .nil) (.node o493 .nil .nil)) (.node o164 (.node o427 .nil .nil) (.node o559 .nil .nil))
noncomputable def t359 (P : Params) : BT := .node (boot_o_9 P) (.node o53 (.node o69 t351 t352) (.node o85 t353 (t354 P))) (.node o164 (.node o77 t355 t356) (.node o164 t357 t358))
noncomputable def t360 : BT := .node o105 (.node o164 (.node o164 (.node o164 .nil .nil) .nil) (.node o439 .nil .nil)) (.node o164 (.node o373 .nil .nil) (.node o505 .nil .nil))
noncomputable def t361 : BT := .node o164 (.node o187 (.node o328 (.node o587 .nil .nil) .nil) (.node o455 .nil .nil)) (.node o255 (.node o398 .nil .nil) (.node o521 .nil .nil))
noncomputable def t362 : BT := .node o155 (.node o221 (.node o357 .nil .nil) (.node o489 .nil .nil)) (.node o398 (.node o164 .nil .nil) (.node o555 .nil .nil))
noncomputable def t363 : BT := .node o113 (.node o398 (.node o330 (.node o398 .nil .nil) .nil) (.node o447 .nil .nil)) (.node o398 (.node o164 .nil .nil) (.node o513 .nil .nil))
noncomputable def t364 : BT := .node o164 (.node o213 (.node o398 .nil .nil) (.node o481 .nil .nil)) (.node o279 (.node o415 .nil .nil) (.node o547 .nil .nil))
noncomputable def t365 : BT := .node o398 (.node o164 (.node o333 (.node o595 .nil .nil) .nil) (.node o164 .nil .nil)) (.node o164 (.node o399 .nil .nil) (.node o164 .nil .nil))
noncomputable def t366 : BT := .node o163 (.node o229 (.node o365 .nil .nil) (.node o497 .nil .nil)) (.node o295 (.node o398 .nil .nil) (.node o563 .nil .nil))
noncomputable def t367 : BT := .node o45 (.node o57 (.node o398 t360 t289) (.node o164 t361 t362)) (.node o164 (.node o81 t363 t364) (.node o97 t365 t366))
noncomputable def t368 : BT := .node o164 (.node o166 (.node o164 (.node o566 .nil .nil) .nil) (.node o434 .nil .nil)) (.node o232 (.node o398 .nil .nil) (.node o500 .nil .nil))
noncomputable def t369 : BT := .node o132 (.node o200 (.node o164 (.node o398 .nil .nil) .nil) (.node o164 .nil .nil)) (.node o266 (.node o402 .nil .nil) (.node o532 .nil .nil))
noncomputable def t370 : BT := .node o116 (.node o182 (.node o398 (.node o582 .nil .nil) .nil) (.node o398 .nil .nil)) (.node o248 (.node o164 .nil .nil) (.node o398 .nil .nil))
noncomputable def t371 : BT := .node o150 (.node o216 (.node o352 .nil .nil) (.node o164 .nil .nil)) (.node o398 (.node o418 .nil .nil) (.node o164 .nil .nil))
noncomputable def t372 : BT := .node o398 (.node o164 (.node o164 (.node o164 .nil .nil) .nil) (.node o164 .nil .nil)) (.node o164 (.node o378 .nil .nil) (.node o164 .nil .nil))
noncomputable def t373 : BT := .node o164 (.node o190 (.node o325 (.node o164 .nil .nil) .nil) (.node o460 .nil .nil)) (.node o258 (.node o394 .nil .nil) (.node o524 .nil .nil))
noncomputable def t374 : BT := .node o164 (.node o398 (.node o360 .nil .nil) (.node o398 .nil .nil)) (.node o290 (.node o164 .nil .nil) (.node o398 .nil .nil))
noncomputable def t375 (P : Params) : BT := .node (boot_o_8 P) (.node o398 (.node o164 t368 t369) (.node o84 t370 t371)) (.node o60 (.node o76 t372 (t302 P)) (.node o92 t373 t374))
noncomputable def t376 : BT := .node o104 (.node o170 (.node o302 (.node o570 .nil .nil) .nil) (.node o164 .nil .nil)) (.node o236 (.node o372 .nil .nil) (.node o398 .nil .nil))
noncomputable def t377 (P : Params) : BT := .node o120 (.node (o186 P) (.node (o321 P) (.node o164 .nil .nil) .nil) (.node o454 .nil .nil)) (.node o398 (.node o164 .nil .nil) (.node o520 .nil .nil))
noncomputable def t378 : BT := .node o164 (.node o220 (.node o398 .nil .nil) (.node o488 .nil .nil)) (.node o164 (.node o422 .nil .nil) (.node o554 .nil .nil))
noncomputable def t379 : BT := .node o112 (.node o164 (.node o313 (.node o164 .nil .nil) .nil) (.node o446 .nil .nil)) (.node o164 (.node o382 .nil .nil) (.node o512 .nil .nil))
noncomputable def t380 : BT := .node o146 (.node o164 (.node o164 .nil .nil) (.node o164 .nil .nil)) (.node o278 (.node o414 .nil .nil) (.node o164 .nil .nil))
noncomputable def t381 (P : Params) : BT := .node o164 (.node (o196 P) (.node o164 (.node o594 .nil .nil) .nil) (.node o464 .nil .nil)) (.node o262 (.node o398 .nil .nil) (.node o528 .nil .nil))
noncomputable def t382 : BT := .node o162 (.node o228 (.node o364 .nil .nil) (.node o496 .nil .nil)) (.node o164 (.node o164 .nil .nil) (.node o562 .nil .nil))
noncomputable def t383 (P : Params) : BT := .node o542 (.node o56 (.node o164 t376 t307) (.node o88 (t377 P) t378)) (.node o64 (.node o398 t379 t380) (.node o164 (t381 P) t382))
noncomputable def t384 : BT := .node o102 (.node o168 (.node o300 (.node o568 .nil .nil) .nil) (.node o398 .nil .nil)) (.node o234 (.node o164 .nil .nil) (.node o502 .nil .nil))
noncomputable def t385 : BT := .node o134 (.node o164 (.node o338 (.node o600 .nil .nil) .nil) (.node o470 .nil .nil)) (.node o398 (.node o164 .nil .nil) (.node o164 .nil .nil))
noncomputable def t386 : BT := .node o118 (.node o184 (.node o319 (.node o398 .nil .nil) .nil) (.node o164 .nil .nil)) (.node o250 (.node o388 .nil .nil) (.node o164 .nil .nil))
noncomputable def t387 : BT := .node o398 (.node o218 (.node o354 .nil .nil) (.node o486 .nil .nil)) (.node o284 (.node o420 .nil .nil) (.node o552 .nil .nil))
noncomputable def t388 : BT := .node o164 (.node o176 (.node o308 (.node o576 .nil .nil) .nil) (.node o444 .nil .nil)) (.node o242 (.node o380 .nil .nil) (.node o510 .nil .nil))
noncomputable def t389 : BT := .node o164 (.node o398 (.node o346 .nil .nil) (.node o398 .nil .nil)) (.node o276 (.node o398 .nil .nil) (.node o398 .nil .nil))
noncomputable def t390 : BT := .node o126 (.node o164 (.node o330 (.node o592 .nil .nil) .nil) (.node o462 .nil .nil)) (.node o164 (.node o396 .nil .nil) (.node o526 .nil .nil))
noncomputable def t391 : BT := .node o160 (.node o164 (.node o164 .nil .nil) (.node o164 .nil .nil)) (.node o398 (.node o428 .nil .nil) (.node o164 .nil .nil))
noncomputable def t392 (P : Params) : BT := .node (boot_o_10 P) (.node o164 (.node o70 t384 t385) (.node o164 t386 t387)) (.node o62 (.node o78 t388 t389) (.node o398 t390 t391))
noncomputable def t393 : BT := .node o106 (.node o330 (.node o398 (.node o398 .nil .nil) .nil) (.node o440 .nil .nil)) (.node o398 (.node o164 .nil .nil) (.node o506 .nil .nil))
noncomputable def t394 : BT := .node o398 (.node o188 (.node o323 (.node o588 .nil .nil) .nil) (.node o164 .nil .nil)) (.node o164 (.node o392 .nil .nil) (.node o164 .nil .nil))
noncomputable def t395 : BT := .node o156 (.node o222 (.node o164 .nil .nil) (.node o490 .nil .nil)) (.node o288 (.node o398 .nil .nil) (.node o556 .nil .nil))
noncomputable def t396 (P : Params) : BT := .node o164 (.node o180 (.node (o315 P) (.node o580 .nil .nil) .nil) (.node o448 .nil .nil)) (.node o246 (.node o398 .nil .nil) (.node o514 .nil .nil))
noncomputable def t397 : BT := .node o148 (.node o214 (.node o350 .nil .nil) (.node o482 .nil .nil)) (.node o280 (.node o164 .nil .nil) (.node o548 .nil .nil))
noncomputable def t398 : BT := .node o130 (.node o198 (.node o334 (.node o596 .nil .nil) .nil) (.node o398 .nil .nil)) (.node o264 (.node o164 .nil .nil) (.node o398 .nil .nil))
noncomputable def t399 : BT := .node o164 (.node o164 (.node o366 .nil .nil) (.node o164 .nil .nil)) (.node o296 (.node o432 .nil .nil) (.node o164 .nil .nil))
noncomputable def t400 (P : Params) : BT := .node o46 (.node o164 (.node o74 t393 t325) (.node o90 t394 t395)) (.node o398 (.node o164 (t396 P) t397) (.node o98 t398 t399))
noncomputable def t401 (P : Params) : BT := .node (boot_o_0 P) (.node (boot_o_1 P) (.node (o541 P) (t341 P) (t350 P)) (.node (boot_o_5 P) (t359 P) t367)) (.node (o310 P) (.node (boot_o_4 P) (t375 P) (t383 P)) (.node (boot_o_6 P) (t392 P) (t400 P)))
noncomputable def tr601 (P : Params) : BT := t401 P
noncomputable def hl46_0 (P : Params) : List Obj := boot_o_0 P :: boot_o_1 P :: boot_o_2 P :: boot_o_3 P :: boot_o_4 P :: boot_o_5 P :: boot_o_6 P :: boot_o_7 P :: boot_o_8 P :: boot_o_9 P :: boot_o_10 P :: o164 :: o398 :: o45 :: o46 :: []
noncomputable def hp46 (P : Params) : Heap := { objs := { toList := hl46_0 P } }
noncomputable def hl602_34 (P : Params) : List Obj := o398 :: o599 :: o600 :: o601 :: []
noncomputable def hl602_33 (P : Params) : List Obj := o582 :: o164 :: o398 :: o585 :: o164 :: o587 :: o588 :: o589 :: o164 :: o398 :: o592 :: o164 :: o594 :: o595 :: o596 :: o164 :: hl602_34 P
noncomputable def hl602_32 (P : Params) : List Obj := o566 :: o164 :: o568 :: o569 :: o570 :: o164 :: o398 :: o573 :: o164 :: o575 :: o576 :: o577 :: o164 :: o398 :: o580 :: o581 :: hl602_33 P
noncomputable def hl602_31 (P : Params) : List Obj := o164 :: o398 :: o552 :: o164 :: o554 :: o555 :: o556 :: o164 :: o398 :: o559 :: o164 :: o561 :: o562 :: o563 :: o164 :: o398 :: hl602_32 P
noncomputable def hl602_30 (P : Params) : List Obj := o532 :: o533 :: o164 :: o398 :: o536 :: o164 :: o538 :: o539 :: o540 :: o164 :: o398 :: o545 :: o164 :: o547 :: o548 :: o549 :: hl602_31 P
noncomputable def hl602_29 (P : Params) : List Obj := o398 :: o517 :: o164 :: o519 :: o520 :: o521 :: o164 :: o398 :: o524 :: o164 :: o526 :: o527 :: o528 :: o164 :: o398 :: o531 :: hl602_30 P
noncomputable def hl602_28 (P : Params) : List Obj := o500 :: o501 :: o502 :: o164 :: o398 :: o505 :: o506 :: o507 :: o164 :: o398 :: o510 :: o164 :: o512 :: o513 :: o514 :: o164 :: hl602_29 P
noncomputable def hl602_27 (P : Params) : List Obj := o164 :: o398 :: o486 :: o164 :: o488 :: o489 :: o490 :: o164 :: o398 :: o493 :: o164 :: o495 :: o496 :: o497 :: o164 :: o398 :: hl602_28 P
noncomputable def hl602_26 (P : Params) : List Obj := o164 :: o469 :: o470 :: o471 :: o164 :: o398 :: o474 :: o475 :: o476 :: o164 :: o398 :: o479 :: o164 :: o481 :: o482 :: o483 :: hl602_27 P
noncomputable def hl602_25 (P : Params) : List Obj := o398 :: o451 :: o164 :: o453 :: o454 :: o455 :: o164 :: o398 :: o460 :: o164 :: o462 :: o463 :: o464 :: o164 :: o398 :: o467 :: hl602_26 P
noncomputable def hl602_24 (P : Params) : List Obj := o434 :: o164 :: o398 :: o437 :: o164 :: o439 :: o440 :: o441 :: o164 :: o398 :: o444 :: o164 :: o446 :: o447 :: o448 :: o164 :: hl602_25 P
noncomputable def hl602_23 (P : Params) : List Obj := o418 :: o164 :: o420 :: o421 :: o422 :: o164 :: o398 :: o425 :: o164 :: o427 :: o428 :: o429 :: o164 :: o398 :: o432 :: o433 :: hl602_24 P
noncomputable def hl602_22 (P : Params) : List Obj := o402 :: o403 :: o164 :: o398 :: o406 :: o164 :: o408 :: o409 :: o410 :: o164 :: o398 :: o413 :: o414 :: o415 :: o164 :: o398 :: hl602_23 P
noncomputable def hl602_21 (P : Params) : List Obj := o164 :: o387 :: o388 :: o389 :: o164 :: o398 :: o392 :: o164 :: o394 :: o395 :: o396 :: o164 :: o398 :: o399 :: o164 :: o401 :: hl602_22 P
noncomputable def hl602_20 (P : Params) : List Obj := o398 :: o369 :: o164 :: o371 :: o372 :: o373 :: o164 :: o398 :: o378 :: o164 :: o380 :: o381 :: o382 :: o164 :: o398 :: o385 :: hl602_21 P
noncomputable def hl602_19 (P : Params) : List Obj := o352 :: o353 :: o354 :: o164 :: o398 :: o357 :: o164 :: o359 :: o360 :: o361 :: o164 :: o398 :: o364 :: o365 :: o366 :: o164 :: hl602_20 P
noncomputable def hl602_18 (P : Params) : List Obj := o164 :: o398 :: o338 :: o164 :: o340 :: o341 :: o342 :: o343 :: o344 P :: o345 :: o346 :: o347 :: o164 :: o398 :: o350 :: o164 :: hl602_19 P
noncomputable def hl602_17 (P : Params) : List Obj := o398 :: o318 :: o319 :: o164 :: o321 P :: o328 :: o323 :: o324 :: o325 :: o329 :: o330 :: o331 P :: o164 :: o333 :: o334 :: o335 :: hl602_18 P
noncomputable def hl602_16 (P : Params) : List Obj := o164 :: o398 :: o300 :: o301 :: o302 :: o164 :: o398 :: o305 :: o164 :: o307 :: o308 :: o309 :: o313 :: o330 :: o315 P :: o164 :: hl602_17 P
noncomputable def hl602_15 (P : Params) : List Obj := o398 :: o283 :: o284 :: o285 :: o164 :: o398 :: o288 :: o289 :: o290 :: o164 :: o398 :: o293 :: o164 :: o295 :: o296 :: o297 :: hl602_16 P
noncomputable def hl602_14 (P : Params) : List Obj := o266 :: o164 :: o398 :: o269 :: o164 :: o271 :: o272 :: o273 :: o164 :: o398 :: o276 :: o164 :: o278 :: o279 :: o280 :: o164 :: hl602_15 P
noncomputable def hl602_13 (P : Params) : List Obj := o248 :: o249 :: o250 :: o164 :: o398 :: o255 :: o164 :: o257 :: o258 :: o259 :: o164 :: o398 :: o262 :: o164 :: o264 :: o265 :: hl602_14 P
noncomputable def hl602_12 (P : Params) : List Obj := o232 :: o164 :: o234 :: o235 :: o236 :: o164 :: o398 :: o239 :: o164 :: o241 :: o242 :: o243 :: o164 :: o398 :: o246 :: o164 :: hl602_13 P
noncomputable def hl602_11 (P : Params) : List Obj := o216 :: o217 P :: o218 :: o219 :: o220 :: o221 :: o222 :: o164 :: o398 :: o225 :: o164 :: o227 :: o228 :: o229 :: o164 :: o398 :: hl602_12 P
noncomputable def hl602_10 (P : Params) : List Obj := o200 :: o201 :: o164 :: o398 :: o204 :: o164 :: o206 :: o207 :: o208 :: o164 :: o398 :: o211 :: o164 :: o213 :: o214 :: o215 :: hl602_11 P
noncomputable def hl602_9 (P : Params) : List Obj := o182 :: o183 :: o184 :: o185 :: o186 P :: o187 :: o188 :: o189 :: o190 :: o191 :: o164 :: o330 :: o196 P :: o164 :: o198 :: o199 :: hl602_10 P
noncomputable def hl602_8 (P : Params) : List Obj := o166 :: o164 :: o168 :: o169 :: o170 :: o164 :: o330 :: o173 P :: o164 :: o175 :: o176 :: o177 :: o164 :: o398 :: o180 :: o164 :: hl602_9 P
noncomputable def hl602_7 (P : Params) : List Obj := o150 :: o164 :: o398 :: o153 :: o164 :: o155 :: o156 :: o157 :: o164 :: o398 :: o160 :: o161 :: o162 :: o163 :: o164 :: o398 :: hl602_8 P
noncomputable def hl602_6 (P : Params) : List Obj := o132 :: o133 :: o134 :: o164 :: o398 :: o139 :: o164 :: o141 :: o142 :: o143 :: o164 :: o398 :: o146 :: o164 :: o148 :: o149 :: hl602_7 P
noncomputable def hl602_5 (P : Params) : List Obj := o116 :: o164 :: o118 :: o119 :: o120 :: o164 :: o398 :: o123 :: o164 :: o125 :: o126 :: o127 :: o164 :: o398 :: o130 :: o164 :: hl602_6 P
noncomputable def hl602_4 (P : Params) : List Obj := o164 :: o398 :: o102 :: o164 :: o104 :: o105 :: o106 :: o164 :: o398 :: o109 :: o164 :: o111 :: o112 :: o113 :: o164 :: o398 :: hl602_5 P
noncomputable def hl602_3 (P : Params) : List Obj := o84 :: o85 :: o164 :: o398 :: o88 :: o164 :: o90 :: o91 :: o92 :: o164 :: o398 :: o95 :: o164 :: o97 :: o98 :: o99 :: hl602_4 P
noncomputable def hl602_2 (P : Params) : List Obj := o164 :: o69 :: o70 :: o71 :: o164 :: o398 :: o74 :: o164 :: o76 :: o77 :: o78 :: o164 :: o398 :: o81 :: o164 :: o83 :: hl602_3 P
noncomputable def hl602_1 (P : Params) : List Obj := o398 :: o53 :: o164 :: o55 :: o56 :: o57 :: o164 :: o398 :: o60 :: o164 :: o62 :: o63 :: o64 :: o164 :: o398 :: o67 :: hl602_2 P
noncomputable def hl602_0 (P : Params) : List Obj := boot_o_0 P :: boot_o_1 P :: o310 P :: o541 P :: boot_o_4 P :: boot_o_5 P :: boot_o_6 P :: boot_o_7 P :: boot_o_8 P :: boot_o_9 P :: boot_o_10 P :: o164 :: o542 :: o45 :: o46 :: o164 :: hl602_1 P
noncomputable def hp602 (P : Params) : Heap := { objs := { toList := hl602_0 P } }
noncomputable def kk_22 (P : Params) : Frag := (541, o595) :: (542, o596) :: (543, o164) :: (546, o600) :: (547, o601) :: []
noncomputable def kk_21 (P : Params) : Frag := (517, o164) :: (519, o573) :: (520, o164) :: (522, o576) :: (523, o577) :: (524, o164) :: (527, o581) :: (528, o582) :: (529, o164) :: (531, o585) :: (532, o164) :: (534, o588) :: (535, o589) :: (536, o164) :: (538, o592) :: (539, o164) :: kk_22 P
noncomputable def kk_20 (P : Params) : Frag := (495, o549) :: (496, o164) :: (498, o552) :: (499, o164) :: (501, o555) :: (502, o556) :: (503, o164) :: (505, o559) :: (506, o164) :: (508, o562) :: (509, o563) :: (510, o164) :: (512, o566) :: (513, o164) :: (515, o569) :: (516, o570) :: kk_21 P
noncomputable def kk_19 (P : Params) : Frag := (472, o524) :: (473, o164) :: (475, o527) :: (476, o528) :: (477, o164) :: (480, o532) :: (481, o533) :: (482, o164) :: (484, o536) :: (485, o164) :: (487, o539) :: (488, o540) :: (489, o164) :: (491, o545) :: (492, o164) :: (494, o548) :: kk_20 P
noncomputable def kk_18 (P : Params) : Frag := (449, o501) :: (450, o502) :: (451, o164) :: (454, o506) :: (455, o507) :: (456, o164) :: (458, o510) :: (459, o164) :: (461, o513) :: (462, o514) :: (463, o164) :: (465, o517) :: (466, o164) :: (468, o520) :: (469, o521) :: (470, o164) :: kk_19 P
noncomputable def kk_17 (P : Params) : Frag := (425, o164) :: (427, o479) :: (428, o164) :: (430, o482) :: (431, o483) :: (432, o164) :: (434, o486) :: (435, o164) :: (437, o489) :: (438, o490) :: (439, o164) :: (441, o493) :: (442, o164) :: (444, o496) :: (445, o497) :: (446, o164) :: kk_18 P
noncomputable def kk_16 (P : Params) : Frag := (402, o164) :: (404, o454) :: (405, o455) :: (406, o164) :: (408, o460) :: (409, o164) :: (411, o463) :: (412, o464) :: (413, o164) :: (415, o467) :: (416, o164) :: (418, o470) :: (419, o471) :: (420, o164) :: (423, o475) :: (424, o476) :: kk_17 P
noncomputable def kk_15 (P : Params) : Frag := (379, o429) :: (380, o164) :: (383, o433) :: (384, o434) :: (385, o164) :: (387, o437) :: (388, o164) :: (390, o440) :: (391, o441) :: (392, o164) :: (394, o444) :: (395, o164) :: (397, o447) :: (398, o448) :: (399, o164) :: (401, o451) :: kk_16 P
noncomputable def kk_14 (P : Params) : Frag := (356, o406) :: (357, o164) :: (359, o409) :: (360, o410) :: (361, o164) :: (364, o414) :: (365, o415) :: (366, o164) :: (368, o418) :: (369, o164) :: (371, o421) :: (372, o422) :: (373, o164) :: (375, o425) :: (376, o164) :: (378, o428) :: kk_15 P
noncomputable def kk_13 (P : Params) : Frag := (333, o164) :: (335, o385) :: (336, o164) :: (338, o388) :: (339, o389) :: (340, o164) :: (342, o392) :: (343, o164) :: (345, o395) :: (346, o396) :: (347, o164) :: (349, o399) :: (350, o164) :: (352, o402) :: (353, o403) :: (354, o164) :: kk_14 P
noncomputable def kk_12 (P : Params) : Frag := (310, o164) :: (312, o360) :: (313, o361) :: (314, o164) :: (317, o365) :: (318, o366) :: (319, o164) :: (321, o369) :: (322, o164) :: (324, o372) :: (325, o373) :: (326, o164) :: (328, o378) :: (329, o164) :: (331, o381) :: (332, o382) :: kk_13 P
noncomputable def kk_11 (P : Params) : Frag := (281, o329) :: (288, o164) :: (290, o338) :: (291, o164) :: (293, o341) :: (294, o342) :: (295, o343) :: (296, o344 P) :: (297, o345) :: (300, o164) :: (302, o350) :: (303, o164) :: (305, o353) :: (306, o354) :: (307, o164) :: (309, o357) :: kk_12 P
noncomputable def kk_10 (P : Params) : Frag := (252, o164) :: (254, o296) :: (255, o297) :: (256, o164) :: (259, o301) :: (260, o302) :: (261, o164) :: (263, o305) :: (264, o164) :: (266, o308) :: (267, o309) :: (268, o313) :: (275, o164) :: (276, o321 P) :: (277, o328) :: (278, o323) :: kk_11 P
noncomputable def kk_9 (P : Params) : Frag := (228, o164) :: (230, o272) :: (231, o273) :: (232, o164) :: (234, o276) :: (235, o164) :: (237, o279) :: (238, o280) :: (239, o164) :: (242, o284) :: (243, o285) :: (244, o164) :: (247, o289) :: (248, o290) :: (249, o164) :: (251, o293) :: kk_10 P
noncomputable def kk_8 (P : Params) : Frag := (206, o246) :: (207, o164) :: (209, o249) :: (210, o250) :: (211, o164) :: (213, o255) :: (214, o164) :: (216, o258) :: (217, o259) :: (218, o164) :: (220, o262) :: (221, o164) :: (223, o265) :: (224, o266) :: (225, o164) :: (227, o269) :: kk_9 P
noncomputable def kk_7 (P : Params) : Frag := (183, o164) :: (185, o225) :: (186, o164) :: (188, o228) :: (189, o229) :: (190, o164) :: (192, o232) :: (193, o164) :: (195, o235) :: (196, o236) :: (197, o164) :: (199, o239) :: (200, o164) :: (202, o242) :: (203, o243) :: (204, o164) :: kk_8 P
noncomputable def kk_6 (P : Params) : Frag := (161, o201) :: (162, o164) :: (164, o204) :: (165, o164) :: (167, o207) :: (168, o208) :: (169, o164) :: (171, o211) :: (172, o164) :: (174, o214) :: (175, o215) :: (176, o216) :: (177, o217 P) :: (178, o218) :: (179, o219) :: (180, o220) :: kk_7 P
noncomputable def kk_5 (P : Params) : Frag := (125, o163) :: (126, o164) :: (128, o166) :: (129, o164) :: (131, o169) :: (132, o170) :: (140, o164) :: (142, o180) :: (143, o164) :: (145, o183) :: (146, o184) :: (147, o185) :: (148, o186 P) :: (149, o187) :: (150, o188) :: (151, o189) :: kk_6 P
noncomputable def kk_4 (P : Params) : Frag := (102, o164) :: (104, o142) :: (105, o143) :: (106, o164) :: (108, o146) :: (109, o164) :: (111, o149) :: (112, o150) :: (113, o164) :: (115, o153) :: (116, o164) :: (118, o156) :: (119, o157) :: (120, o164) :: (123, o161) :: (124, o162) :: kk_5 P
noncomputable def kk_3 (P : Params) : Frag := (80, o116) :: (81, o164) :: (83, o119) :: (84, o120) :: (85, o164) :: (87, o123) :: (88, o164) :: (90, o126) :: (91, o127) :: (92, o164) :: (94, o130) :: (95, o164) :: (97, o133) :: (98, o134) :: (99, o164) :: (101, o139) :: kk_4 P
noncomputable def kk_2 (P : Params) : Frag := (57, o164) :: (59, o95) :: (60, o164) :: (62, o98) :: (63, o99) :: (64, o164) :: (66, o102) :: (67, o164) :: (69, o105) :: (70, o106) :: (71, o164) :: (73, o109) :: (74, o164) :: (76, o112) :: (77, o113) :: (78, o164) :: kk_3 P
noncomputable def kk_1 (P : Params) : Frag := (35, o71) :: (36, o164) :: (38, o74) :: (39, o164) :: (41, o77) :: (42, o78) :: (43, o164) :: (45, o81) :: (46, o164) :: (48, o84) :: (49, o85) :: (50, o164) :: (52, o88) :: (53, o164) :: (55, o91) :: (56, o92) :: kk_2 P
noncomputable def kk_0 (P : Params) : Frag := (2, o310 P) :: (3, o541 P) :: (15, o164) :: (17, o53) :: (18, o164) :: (20, o56) :: (21, o57) :: (22, o164) :: (24, o60) :: (25, o164) :: (27, o63) :: (28, o64) :: (29, o164) :: (31, o67) :: (32, o164) :: (34, o70) :: kk_1 P
noncomputable def KK (P : Params) : Frag := kk_0 P
noncomputable def sts49 : List Stmt := [stm 0, stm 1, stm 2, stm 3, stm 4, stm 5, stm 6, stm 7, stm 8, stm 9, stm 10, stm 11, stm 12, stm 13]
noncomputable def sts135 : List Stmt := [stm 14, stm 15, stm 16, stm 17, stm 18, stm 19, stm 20]
noncomputable def sts192 : List Stmt := [stm 21, stm 22, stm 23, stm 24, stm 25]
noncomputable def sts251 : List Stmt := [stm 26, stm 27, stm 28, stm 29, stm 30, stm 31, stm 32, stm 33, stm 34, stm 35, stm 36]
noncomputable def sts310 : List Stmt := [stm 37]
noncomputable def sts326 : List Stmt := [stm 38, stm 39, stm 40, stm 41, stm 42, stm 43]
noncomputable def sts374 : List Stmt := [stm 44, stm 45, stm 46, stm 47, stm 48, stm 49, stm 50, stm 51, stm 52, stm 53, stm 54, stm 55, stm 56, stm 57]
noncomputable def sts456 : List Stmt := [stm 58, stm 59, stm 60, stm 61, stm 62, stm 63, stm 64, stm 65, stm 66, stm 67, stm 68, stm 69, stm 70]
noncomputable def sts541 : List Stmt := [stm 71, stm 72, stm 73, stm 74, stm 75, stm 76, stm 77, stm 78, stm 79, stm 80]
noncomputable def Vw : Program := { rp with main := { rp.main with body := [stm 0, stm 2, stm 3, stm 4, stm 5, stm 7, stm 8, stm 9, stm 10, stm 11, stm 12, stm 13, stm 14, stm 15, stm 16, stm 17, stm 20, stm 21, stm 22, stm 23, stm 24, stm 25, stm 26, stm 28, stm 29, stm 30, stm 31, stm 32, stm 33, stm 34, stm 35, stm 37, stm 38, stm 40, stm 41, stm 42, stm 43, stm 44, stm 45, stm 46, stm 48, stm 50, stm 51, stm 52, stm 53, stm 54, stm 55, stm 56, stm 57, stm 58, stm 59, stm 60, stm 61, stm 62, stm 63, stm 64, stm 65, stm 66, stm 67, stm 68, stm 69, stm 70, stm 71, stm 72, stm 73, stm 74, stm 76, stm 77, stm 78, stm 79, stm 80] } }
noncomputable def envE : Env := { scope := rp.main.scope, locals := mainNs, globals := mainNs, cells := [], code := Value.ref 13, frame := some 14 }
noncomputable abbrev bE : List Stmt := behindTheImports rp
noncomputable abbrev cE : Code := Code.body bE envE
noncomputable abbrev q0 : Pos := ⟨0, 0, 0, 0⟩
noncomputable abbrev fr0 : List Frame := [topFrame q0]
noncomputable abbrev sT (t : Params → BT) (n k : Nat) (w : World) (os : OsState) : SharedT := ⟨t w.params, n, {}, ⟨[]⟩, {}, k, os⟩
noncomputable abbrev sH (h : Params → Heap) (k : Nat) (w : World) (os : OsState) : Shared := ⟨h w.params, ⟨[]⟩, {}, k, os⟩
noncomputable abbrev an : Option Value := some (Value.ref 6)
theorem pcT : ∀ w : World, (fun os => topGo treeTable rp w 11 an 12 ⟨boot_heap w.params, ⟨[]⟩, boot_drawn, boot_toks, os⟩ (topStub rp)) = fun os => some (sH hp46 187 w os, ⟨denote treeTable cE, cE, q0, fr0⟩) := by
  intro w; rw [PySem.W.Fast.te15667345088766844465, PySem.W.Fast.te14364793385576792824, PySem.W.Fast.te11892475500146522536]; kernel_rfl
theorem pcB : ∀ w : World, (fun os => segRun treeTable rp w 11 an 1 1 (sH hp46 187 w os) (blockOf bE envE cE q0 fr0)) = fun os => some (Flow.next, (sT tr47 15 187 w os).abs, cE, q0) := by
  intro w; rw [PySem.W.Fast.te14374325043358763698, PySem.W.Fast.te14364793385576792824]; kernel_rfl
theorem pc135 : ∀ w : World, (fun os => segRunT treeTable rp w 11 an 1 392 (sT tr47 15 187 w os) (piecesOf sts49 envE cE ⟨0, 0, 0, 0⟩ fr0)) = fun os => some (Flow.next, sT tr134 99 300 w os, cE, ⟨75, 0, 82, 15⟩) := by
  intro w; rw [PySem.W.Fast.te10110043849684766642, PySem.W.Fast.te14364793385576792824]; kernel_rfl
theorem pc192 : ∀ w : World, (fun os => segRunT treeTable rp w 11 an 1 395 (sT tr134 99 300 w os) (piecesOf sts135 envE cE ⟨75, 0, 82, 15⟩ fr0)) = fun os => some (Flow.next, sT tr191 154 385 w os, cE, ⟨124, 0, 128, 25⟩) := by
  intro w; rw [PySem.W.Fast.te10110043849684766642, PySem.W.Fast.te14364793385576792824]; kernel_rfl
theorem pc251 : ∀ w : World, (fun os => segRunT treeTable rp w 11 an 1 377 (sT tr191 154 385 w os) (piecesOf sts192 envE cE ⟨124, 0, 128, 25⟩ fr0)) = fun os => some (Flow.next, sT tr250 211 455 w os, cE, ⟨146, 0, 147, 66⟩) := by
  intro w; rw [PySem.W.Fast.te10110043849684766642, PySem.W.Fast.te14364793385576792824]; kernel_rfl
theorem pc310 : ∀ w : World, (fun os => segRunT treeTable rp w 11 an 1 276 (sT tr250 211 455 w os) (piecesOf sts251 envE cE ⟨146, 0, 147, 66⟩ fr0)) = fun os => some (Flow.next, sT tr309 268 524 w os, cE, ⟨206, 0, 206, 8⟩) := by
  intro w; rw [PySem.W.Fast.te10110043849684766642, PySem.W.Fast.te14364793385576792824]; kernel_rfl
theorem pc326 : ∀ w : World, (fun os => segRunT treeTable rp w 11 an 1 197 (sT tr309 268 524 w os) (piecesOf sts310 envE cE ⟨206, 0, 206, 8⟩ fr0)) = fun os => some (Flow.next, sT tr325 281 544 w os, cE, ⟨207, 0, 208, 8⟩) := by
  intro w; rw [PySem.W.Fast.te10110043849684766642, PySem.W.Fast.te14364793385576792824]; kernel_rfl
theorem pc374 : ∀ w : World, (fun os => segRunT treeTable rp w 11 an 1 378 (sT tr325 281 544 w os) (piecesOf sts326 envE cE ⟨207, 0, 208, 8⟩ fr0)) = fun os => some (Flow.next, sT tr373 326 608 w os, cE, ⟨255, 0, 262, 16⟩) := by
  intro w; rw [PySem.W.Fast.te10110043849684766642, PySem.W.Fast.te14364793385576792824]; kernel_rfl
theorem pc456 : ∀ w : World, (fun os => segRunT treeTable rp w 11 an 1 388 (sT tr373 326 608 w os) (piecesOf sts374 envE cE ⟨255, 0, 262, 16⟩ fr0)) = fun os => some (Flow.next, sT tr455 406 721 w os, cE, ⟨359, 0, 362, 15⟩) := by
  intro w; rw [PySem.W.Fast.te10110043849684766642, PySem.W.Fast.te14364793385576792824]; kernel_rfl
theorem pc541 : ∀ w : World, (fun os => segRunT treeTable rp w 11 an 1 399 (sT tr455 406 721 w os) (piecesOf sts456 envE cE ⟨359, 0, 362, 15⟩ fr0)) = fun os => some (Flow.next, sT tr540 489 841 w os, cE, ⟨462, 0, 475, 17⟩) := by
  intro w; rw [PySem.W.Fast.te10110043849684766642, PySem.W.Fast.te14364793385576792824]; kernel_rfl
theorem pc602 : ∀ w : World, (fun os => segRunT treeTable rp w 11 an 1 279 (sT tr540 489 841 w os) (piecesOf sts541 envE cE ⟨462, 0, 475, 17⟩ fr0)) = fun os => some (Flow.next, sT tr601 548 918 w os, cE, ⟨521, 0, 567, 63⟩) := by
  intro w; rw [PySem.W.Fast.te10110043849684766642, PySem.W.Fast.te14364793385576792824]; kernel_rfl
theorem pcF : ∀ w : World, (fun os => topRun treeTable rp w 11 an 2 (sT tr601 548 918 w os).abs ⟨doneF Flow.next, cE, ⟨521, 0, 567, 63⟩, fr0⟩) = fun os => some (sH hp602 918 w os) := by
  intro w; rw [PySem.W.Fast.te14082659384304107361, PySem.W.Fast.te14364793385576792824]; kernel_rfl
theorem bE_eq : bE = sts49 ++ (sts135 ++ (sts192 ++ (sts251 ++ (sts310 ++ (sts326 ++ (sts374 ++ (sts456 ++ (sts541 ++ [])))))))) := by kernel_rfl
theorem run (w : World) (os : OsState) : topRun treeTable rp w 11 an (12 + (1 + (392 + (395 + (377 + (276 + (197 + (378 + (388 + (399 + (279 + 2))))))))))) ⟨boot_heap w.params, ⟨[]⟩, boot_drawn, boot_toks, os⟩ (topStub rp) = some (sH hp602 918 w os) := by
  have k := piece_nil (env := envE) (congrFun (pcF w) os)
  replace k := piece_app (segRun_of (congrFun (pc602 w) os)) k
  replace k := piece_app (segRun_of (congrFun (pc541 w) os)) k
  replace k := piece_app (segRun_of (congrFun (pc456 w) os)) k
  replace k := piece_app (segRun_of (congrFun (pc374 w) os)) k
  replace k := piece_app (segRun_of (congrFun (pc326 w) os)) k
  replace k := piece_app (segRun_of (congrFun (pc310 w) os)) k
  replace k := piece_app (segRun_of (congrFun (pc251 w) os)) k
  replace k := piece_app (segRun_of (congrFun (pc192 w) os)) k
  replace k := piece_app (segRun_of (congrFun (pc135 w) os)) k
  rw [← bE_eq] at k
  exact go_top (congrFun (pcT w) os) (piece_block (congrFun (pcB w) os) k)
noncomputable abbrev ls : List Str := [Str.ofString "number_text"]
noncomputable abbrev sF (w : World) (os : OsState) : Shared := sH hp602 918 w os
noncomputable abbrev XtV (s : Shared) : Bool := xlAt Vw [] s && recOk PySem.Challenge.rw_ov0078_01.row.records s
theorem l607 : ∀ w : World, ((boot_heap w.params).isNs mainGlobals && (Array.mk ([] : List GenState)).size == 0, (boot_heap w.params).objs.size, (boot_heap w.params).nsMap mainGlobals "__annotations__") = (true, 11, an) := by
  intro w; rw [PySem.W.Fast.te8920871248978507458]; kernel_rfl
theorem l609 : ∀ w : World, (fun os => staticsOk (importedModules rp.main.body) (boot_heap w.params) (hp602 w.params) && namesBound rp (hp602 w.params) && gensDone (sF w os) && laidKept (boot_heap w.params) (hp602 w.params)) = fun _ : OsState => true := by
  intro w; rw [PySem.W.Fast.te5923862056798008813]; kernel_rfl
theorem l611 : ∀ w : World, (fun os => seen ((recsOf Vw).map (·.name)) (ownsOf Vw) [] { sF w os with gens := #[] }) = fun _ : OsState => expectedOf Vw := by
  intro w; rw [PySem.W.Fast.te5160383126252970620, PySem.W.R.mapR_eq, PySem.W.Fast.te3399658132070893891, PySem.W.Fast.te5991557255702980513]; kernel_rfl
theorem l613 : ∀ w : World, (fun os => (sF w os).heap.bltView) = fun _ : OsState => bltViewBooted := by
  intro w; kernel_rfl
theorem l615 : ∀ w : World, (fun os => (sF w os).heap.keysOk (looseW Vw ls) ((recsOf Vw).map (·.name)) ((litsOf Vw).map (·.1)) ((clssOf Vw (looseW Vw ls)).map (·.name)) && (sF w os).heap.accountedOkI (importedModules rp.main.body) && (sF w os).heap.isNs mainGlobals && (sF w os).heap.isNs builtinsNs && tablesOk Vw (sF w os).heap && XtV (sF w os) && (if true then (sF w os).gens.size == 0 else !leftWithCleanup (sF w os).gens)) = fun _ : OsState => true := by
  intro w; rw [PySem.W.Fast.te10880121769531294198, PySem.W.Fast.te821141287760084731, PySem.W.R.mapR_eq, PySem.W.Fast.te3399658132070893891, PySem.W.Fast.te7409074990110511671, PySem.W.Fast.te13664370479719496447, PySem.W.Fast.te14722251495701143533, PySem.W.Fast.te5923862056798008813, PySem.W.Fast.te10994771534591457954]; kernel_rfl
theorem l617 : ∀ w : World, (fun os => tabsOk Vw (sF w os)) = fun _ : OsState => true := by
  intro w; rw [PySem.W.Fast.te479339242167458305]; kernel_rfl
theorem l619 : ∀ w : World, (fun os => pinSeenD Vw (drecsOf Vw) (sF w os)) = fun _ : OsState => pinGoodD (drecsOf Vw) := by
  intro w; rw [PySem.W.Fast.te16090120013241838585, PySem.W.Fast.te3247288618530077131]; kernel_rfl
theorem l621 : ∀ w : World, (fun os => plainSeenE Vw (looseW Vw ls) (sF w os)) = fun _ : OsState => plainGoodE Vw (looseW Vw ls) := by
  intro w; rw [PySem.W.Fast.te2386780881361962483, PySem.W.Fast.te821141287760084731]; kernel_rfl
theorem l623 : ∀ w : World, (fun os => plainSeenD Vw ls (sF w os)) = fun _ : OsState => plainGoodD Vw ls := by
  intro w; rw [PySem.W.Fast.te11698064438423848299]; kernel_rfl
theorem l625 : ∀ w : World, (fun os => wideSeen Vw (sF w os)) = fun _ : OsState => wideGood Vw := by
  intro w; rw [PySem.W.Fast.te7317090234206586261]; kernel_rfl
theorem l627 : ∀ w : World, (fun os => clsSeenW Vw ls (sF w os)) = fun _ : OsState => clsGoodW Vw ls := by
  intro w; rw [PySem.W.Fast.te7369524293546568484]; kernel_rfl
noncomputable def kas : List Addr := [2, 3, 15, 17, 18, 20, 21, 22, 24, 25, 27, 28, 29, 31, 32, 34, 35, 36, 38, 39, 41, 42, 43, 45, 46, 48, 49, 50, 52, 53, 55, 56, 57, 59, 60, 62, 63, 64, 66, 67, 69, 70, 71, 73, 74, 76, 77, 78, 80, 81, 83, 84, 85, 87, 88, 90, 91, 92, 94, 95, 97, 98, 99, 101, 102, 104, 105, 106, 108, 109, 111, 112, 113, 115, 116, 118, 119, 120, 123, 124, 125, 126, 128, 129, 131, 132, 140, 142, 143, 145, 146, 147, 148, 149, 150, 151, 161, 162, 164, 165, 167, 168, 169, 171, 172, 174, 175, 176, 177, 178, 179, 180, 183, 185, 186, 188, 189, 190, 192, 193, 195, 196, 197, 199, 200, 202, 203, 204, 206, 207, 209, 210, 211, 213, 214, 216, 217, 218, 220, 221, 223, 224, 225, 227, 228, 230, 231, 232, 234, 235, 237, 238, 239, 242, 243, 244, 247, 248, 249, 251, 252, 254, 255, 256, 259, 260, 261, 263, 264, 266, 267, 268, 275, 276, 277, 278, 281, 288, 290, 291, 293, 294, 295, 296, 297, 300, 302, 303, 305, 306, 307, 309, 310, 312, 313, 314, 317, 318, 319, 321, 322, 324, 325, 326, 328, 329, 331, 332, 333, 335, 336, 338, 339, 340, 342, 343, 345, 346, 347, 349, 350, 352, 353, 354, 356, 357, 359, 360, 361, 364, 365, 366, 368, 369, 371, 372, 373, 375, 376, 378, 379, 380, 383, 384, 385, 387, 388, 390, 391, 392, 394, 395, 397, 398, 399, 401, 402, 404, 405, 406, 408, 409, 411, 412, 413, 415, 416, 418, 419, 420, 423, 424, 425, 427, 428, 430, 431, 432, 434, 435, 437, 438, 439, 441, 442, 444, 445, 446, 449, 450, 451, 454, 455, 456, 458, 459, 461, 462, 463, 465, 466, 468, 469, 470, 472, 473, 475, 476, 477, 480, 481, 482, 484, 485, 487, 488, 489, 491, 492, 494, 495, 496, 498, 499, 501, 502, 503, 505, 506, 508, 509, 510, 512, 513, 515, 516, 517, 519, 520, 522, 523, 524, 527, 528, 529, 531, 532, 534, 535, 536, 538, 539, 541, 542, 543, 546, 547]
theorem kas_eq : ∀ P, kas = (KK P).map (·.1) := fun _ => by kernel_rfl
noncomputable abbrev HK : Hook := kHook KK kas kas_eq
theorem l637 : ∀ w : World, (fun os => HK.obs (sF w os)) = fun _ : OsState => HK.val w := by
  intro w
  show (fun os => kas.map (sF w os).heap.get?) = fun _ => (KK w.params).map fun p => some p.2
  rw [PySem.W.R.mapR_eq]; kernel_rfl
theorem opn : opening rp = plainProg rp.main.scope.names := by kernel_rfl
theorem fen : ∀ s, fenceModules? rp s = some s := fun s => by kernel_rfl
theorem seenV (w : World) (os : OsState) : openSeen Vw ls (importedModules rp.main.body) XtV true (sF w os) = openGood Vw ls :=
  looks_pair (congrFun (l611 w) os) (looks_pair (congrFun (l613 w) os) (looks_pair (congrFun (l615 w) os) (looks_pair (congrFun (l617 w) os) (looks_pair (congrFun (l619 w) os)
    (looks_pair (congrFun (l621 w) os) (looks_pair (congrFun (l623 w) os) (looks_pair (congrFun (l625 w) os) (congrFun (l627 w) os))))))))
theorem left : LeftO rp Vw ls XtV HK.obs HK.val 6270 :=
  LeftO.of_pieces (boot_open opn rfl fen) l607 run rfl fun w => funext fun os => looks_pair (congrFun (l609 w) os) (looks_pair (seenV w os) (congrFun (l637 w) os))
end Mine.Hd

namespace Mine
theorem hid {G : Prop} (h : ∀ g : Prop, (G → g) → g) : G := h G id

structure Gl where
  prog : Program
  w : World
  K : Frag
  p : Program
  loose : List Str
  mg : Str → Option Value
  mb : Str → Option Value
  C : Addr
  h₀ : Heap

structure Gl.Ok (G : Gl) : Prop where
  K : G.K.In G.h₀
  T : TopRead G.p G.loose G.mg G.mb G.h₀
  seer : G.h₀.NoSeer
  tree : G.prog.given.tree = none

/-- what stands at an address, as the law's own code sees it -/
inductive Cel where
  | lst (vs : List Value)
  | mls (vs : List Value)
  | rls (vs : List Value)
  | rng (lo hi : Int)
  | tup (vs : List Value)
  | ds (kvs : List (Str × Value))
  | dse (kvs : List (Str × Value)) (ep : Nat)
  | di (kvs : List (Int × Value))
  | ins (d : Addr)
  | vdc (fs : List Value)

noncomputable def Cel.rw : Cel → Bool
  | .rls _ => false
  | _ => true

noncomputable def Cel.ls : Cel → Option (List Value)
  | .lst vs => some vs
  | .mls vs => some vs
  | .rls vs => some vs
  | _ => none

noncomputable def Cel.sd : Cel → Option (List (Str × Value))
  | .ds kvs => some kvs
  | .dse kvs _ => some kvs
  | _ => none

noncomputable def fldName : Nat → Str
  | 0 => Str.ofString "kind"
  | 1 => Str.ofString "items"
  | 2 => Str.ofString "attrs"
  | 3 => Str.ofString "shared"
  | _ => Str.ofString "loose"

noncomputable def Flds (P : Params) : Nat → List DictEntry → List Value → Prop
  | _, [], [] => True
  | i, e :: es, v :: vs => (∃ t u, e = ⟨PyData.keyHash P (fldName i), .str (fldName i) t, u⟩ ∧ (i < 3 → u = v) ∧ handedIn u = true) ∧ Flds P (i + 1) es vs
  | _, _, _ => False

noncomputable def CelAt (G : Gl) (h : Heap) (a : Addr) : Cel → Prop
  | .lst vs => h.PlainList a vs.toArray
  | .mls vs => h.IsList a vs.toArray
  | .rls vs => h.IsList a vs.toArray
  | .rng lo hi => (∃ t u v, IsRange h a lo hi 1 t u v) ∧ Builtin.Range.small lo hi 1 = true
  | .tup vs => IsTup h a vs.toArray
  | .ds kvs => h.DictOf (strKind G.prog G.w) a kvs
  | .dse kvs ep => h.DictAt (strKind G.prog G.w) a kvs ep
  | .di kvs => h.DictOf (intKind G.prog G.w) a kvs
  | .ins d => h.get? a = some (instObj G.C d)
  | .vdc fs => fs.length ≤ 5 ∧ ∃ es n, h.get? a = some (dictOf es n) ∧ Flds G.w.params 0 es fs

theorem CelAt.at {G : Gl} {h h' : Heap} {a : Addr} {c : Cel} (x : CelAt G h a c) (hk : ∀ o, h.get? a = some o → h'.get? a = some o) : CelAt G h' a c := by
  cases c with
  | lst vs => obtain ⟨n, ho⟩ := x; exact ⟨n, hk _ ho⟩
  | mls vs => obtain ⟨o, ho, r⟩ := x; exact ⟨o, hk o ho, r⟩
  | rng lo hi => obtain ⟨⟨t, u, v, ho⟩, r⟩ := x; exact ⟨⟨t, u, v, hk _ ho⟩, r⟩
  | rls vs => obtain ⟨o, ho, r⟩ := x; exact ⟨o, hk o ho, r⟩
  | tup vs => obtain ⟨o, ho, r⟩ := x; exact ⟨o, hk o ho, r⟩
  | ds kvs => obtain ⟨o, es, ep, ho, r⟩ := x; exact ⟨o, es, ep, hk o ho, r⟩
  | dse kvs ep => obtain ⟨o, es, ho, r⟩ := x; exact ⟨o, es, hk o ho, r⟩
  | di kvs => obtain ⟨o, es, ep, ho, r⟩ := x; exact ⟨o, es, ep, hk o ho, r⟩
  | ins d => exact hk _ x
  | vdc fs => obtain ⟨hl, es, n, ho, r⟩ := x; exact ⟨hl, es, n, hk _ ho, r⟩

theorem CelAt.there {G : Gl} {h : Heap} {a : Addr} {c : Cel} (x : CelAt G h a c) : ∃ o, h.get? a = some o := by
  cases c with
  | lst vs => obtain ⟨n, ho⟩ := x; exact ⟨_, ho⟩
  | mls vs => obtain ⟨o, ho, _⟩ := x; exact ⟨o, ho⟩
  | rng lo hi => obtain ⟨⟨t, u, v, ho⟩, r⟩ := x; exact ⟨_, ho⟩
  | rls vs => obtain ⟨o, ho, _⟩ := x; exact ⟨o, ho⟩
  | tup vs => obtain ⟨o, ho, _⟩ := x; exact ⟨o, ho⟩
  | ds kvs => obtain ⟨o, es, ep, ho, _⟩ := x; exact ⟨o, ho⟩
  | dse kvs ep => obtain ⟨o, es, ho, _⟩ := x; exact ⟨o, ho⟩
  | di kvs => obtain ⟨o, es, ep, ho, _⟩ := x; exact ⟨o, ho⟩
  | ins d => exact ⟨_, x⟩
  | vdc fs => obtain ⟨hl, es, n, ho, _⟩ := x; exact ⟨_, ho⟩

theorem CelAt.isList {G : Gl} {h : Heap} {a : Addr} {c : Cel} {vs : List Value} (x : CelAt G h a c) (e : c.ls = some vs) : h.IsList a vs.toArray := by
  cases c <;> simp only [Cel.ls, Option.some.injEq, reduceCtorEq] at e
  · subst e; exact Heap.PlainList.isList x
  · subst e; exact x
  · subst e; exact x

noncomputable abbrev DM := Addr → Option Cel
noncomputable def DM.put (D : DM) (a : Addr) (c : Cel) : DM := fun b => if b = a then some c else D b
theorem DM.put_same (D : DM) (a : Addr) (c : Cel) : D.put a c a = some c := by simp [DM.put]
theorem DM.put_ne (D : DM) {a b : Addr} (c : Cel) (h : b ≠ a) : D.put a c b = D b := by simp [DM.put, h]
theorem DM.put_put (D : DM) (a : Addr) (c c' : Cel) : (D.put a c).put a c' = D.put a c' := by
  funext b; simp only [DM.put]; split <;> rfl
theorem DM.put_id {D : DM} {a : Addr} {c : Cel} (h : D a = some c) : D.put a c = D := by
  funext b; simp only [DM.put]; split
  · rename_i e; rw [e, h]
  · rfl

noncomputable def DM.le (D D' : DM) : Prop := ∀ b c, D b = some c → D' b = some c
theorem DM.le.refl (D : DM) : D.le D := fun _ _ e => e
theorem DM.le.trans {D D' D'' : DM} (x : D.le D') (y : D'.le D'') : D.le D'' := fun b c e => y b c (x b c e)
theorem DM.le_put {D : DM} {a : Addr} {c : Cel} (h : D a = none) : D.le (D.put a c) := fun b c' e => by
  have : b ≠ a := fun q => by rw [q, h] at e; cases e
  rw [DM.put_ne _ _ this, e]

noncomputable abbrev Vs := List (Option Value)
structure Cx where
  A : Around
  env : Env
  prot : Addr → Option Obj
  own : Bool

noncomputable def Holds (env : Env) (m : Str → Option Value) (h : Heap) (id : Str) (v : Value) : Prop :=
  match env.kindOf id with
  | some .local => m id = some v
  | some .cell => ∃ ca, env.cells.lookup id = some ca ∧ h.IsCell ca (some v)
  | _ => True

structure Cx.Ok (G : Gl) (c : Cx) (n : Nat) : Prop where
  g : G.Ok
  globals : c.env.globals = mainGlobals
  builtins : c.env.builtins = builtinsNs
  kind : c.env.scope.kind = .function
  depth : c.A.depth + 2 * n + 200 < recursionLimit
  frames : ∃ fe l, c.A.frames = some (fe :: l) ∧ fe.scope.isGenerator = false ∧ fe.scope.isCoroutine = false ∧ fe.builtins = builtinsNs ∧ fe.globals = mainGlobals
  units : c.A.units + 16 * n + 16 < cLine
  handled : c.A.handled = none
  cells : c.own = true → (c.env.cells.map (·.2)).Nodup

theorem Cx.Ok.le {G : Gl} {c : Cx} {n n' : Nat} (h : c.Ok G n) (hn : n' ≤ n) : c.Ok G n' :=
  { h with depth := by have := h.depth; omega, units := by have := h.units; omega }

structure Rp (G : Gl) (c : Cx) (σ : List Str) (V : Vs) (D : DM) (h : Heap) : Prop where
  vr : ∃ m, Fr G.h₀ c.env.locals h m ∧ ∀ (i : Nat) (id : Str) (v : Value), σ[i]? = some id → V[i]? = some (some v) → Holds c.env m h id v
  cl : ∀ x ∈ c.env.cells, (∃ v, h.IsCell x.2 v) ∧ x.2 ≠ c.env.locals ∧ (c.own = true → G.h₀.get? x.2 = none ∧ c.prot x.2 = none)
  dy : ∀ b o, D b = some o → b ≠ c.env.locals ∧ (∀ x ∈ c.env.cells, b ≠ x.2) ∧ (o.rw = true → G.h₀.get? b = none ∧ (b == sysModules) = false ∧ c.prot b = none) ∧ (o.rw = false → (G.h₀.get? b).isSome = true) ∧ CelAt G h b o
  pr : ∀ b o, c.prot b = some o → h.get? b = some o ∧ b ≠ c.env.locals

section
variable {G : Gl} {c : Cx} {n : Nat} {σ : List Str} {V : Vs} {D : DM} {h h' : Heap}

theorem mem_of_lookup' {l : List (Str × Addr)} {k : Str} {v : Addr} (h : l.lookup k = some v) : (k, v) ∈ l := by
  induction l with
  | nil => cases h
  | cons x r ih =>
    obtain ⟨a, b⟩ := x
    rw [List.lookup_cons] at h
    split at h
    · rename_i e; cases h; rw [eq_of_beq e]; exact .head _
    · exact .tail _ (ih h)

theorem Rp.fr (R : Rp G c σ V D h) : ∃ m, Fr G.h₀ c.env.locals h m := let ⟨m, F, _⟩ := R.vr; ⟨m, F⟩

theorem Holds.keep {env : Env} {m : Str → Option Value} {id : Str} {v : Value} (x : Holds env m h id v)
    (hk : ∀ y ∈ env.cells, ∀ o, h.get? y.2 = some o → h'.get? y.2 = some o) : Holds env m h' id v := by
  unfold Holds at *
  cases e : env.kindOf id with
  | none => trivial
  | some kd =>
    rw [e] at x
    cases kd with
    | cell =>
      refine hid fun gg hgg => ?_
      obtain ⟨ca, hl, o, ho, hd⟩ := x
      refine hgg ?_
      clear hgg gg
      exact ⟨ca, hl, o, hk _ (mem_of_lookup' hl) o ho, hd⟩
    | _ => exact x

theorem Rp.keeps (R : Rp G c σ V D h) (hk : ∀ b o, h.get? b = some o → h'.get? b = some o) : Rp G c σ V D h' := by
  obtain ⟨m, F, hv⟩ := R.vr
  refine ⟨⟨m, ⟨F.ns.keeps hk, fun b o e => hk b o (F.keep b o e), F.above⟩, fun i id v h1 h2 => (hv i id v h1 h2).keep fun _ _ _ => hk _ _⟩, fun x hx => ?_, fun b o e => ?_, fun b o e => ?_⟩
  · obtain ⟨⟨v, hc⟩, hn⟩ := R.cl x hx
    exact ⟨⟨v, hc.keeps hk⟩, hn⟩
  · refine hid fun gg hgg => ?_
    obtain ⟨h1, h2, h3, h3', h4⟩ := R.dy b o e
    refine hgg ?_
    clear hgg gg
    exact ⟨h1, h2, h3, h3', h4.at fun _ => hk _ _⟩
  · exact ⟨hk _ _ (R.pr b o e).1, (R.pr b o e).2⟩

theorem Rp.sub {D' : DM} (R : Rp G c σ V D h) (hs : DM.le D' D) : Rp G c σ V D' h := ⟨R.vr, R.cl, fun b o e => R.dy b o (hs b o e), R.pr⟩
theorem Rp.vsub {V' : Vs} (R : Rp G c σ V D h) (hs : ∀ (i : Nat) (v : Value), V'[i]? = some (some v) → V[i]? = some (some v)) : Rp G c σ V' D h := by
  obtain ⟨m, F, hv⟩ := R.vr
  exact ⟨⟨m, F, fun i id v h1 h2 => hv i id v h1 (hs i v h2)⟩, R.cl, R.dy, R.pr⟩

theorem Rp.fresh (R : Rp G c σ V D h) : D h.objs.size = none := by
  cases e : D h.objs.size with
  | none => rfl
  | some o =>
    refine hid fun gg hgg => ?_
    obtain ⟨_, _, _, _, h4⟩ := R.dy _ _ e
    refine hgg ?_
    clear hgg gg
    obtain ⟨o', ho'⟩ := h4.there
    exact absurd (Heap.lt_size ho') (Nat.lt_irrefl _)

theorem sys_lt (hK : c.Ok G n) (R : Rp G c σ V D h) : ∀ a, h.objs.size ≤ a → (a == sysModules) = false := fun a ha => by
  have h1 : mainGlobals < G.h₀.objs.size := hK.g.T.g.lt
  obtain ⟨m, F⟩ := R.fr
  have h2 : c.env.locals < h.objs.size := F.ns.lt
  have h3 := F.above
  have h4 : sysModules ≤ mainGlobals := by decide
  rw [beq_eq_false_iff_ne]
  intro e
  have ha' : h.objs.size ≤ a := ha
  have hb : a = sysModules := e
  simp only [Addr] at *
  omega

/-- a place that nobody has yet -/
structure Free (G : Gl) (c : Cx) (D : DM) (a : Addr) : Prop where
  loc : a ≠ c.env.locals
  cel : ∀ x ∈ c.env.cells, a ≠ x.2
  old : G.h₀.get? a = none
  sys : (a == sysModules) = false
  prt : c.prot a = none
  dy : D a = none

theorem Rp.free (R : Rp G c σ V D h) (hK : c.Ok G n) : ∀ a, h.objs.size ≤ a → Free G c D a := fun a ha => by
  obtain ⟨m, F⟩ := R.fr
  refine ⟨Nat.ne_of_gt (Nat.lt_of_lt_of_le F.ns.lt ha), fun x hx q => ?_, ?_, sys_lt hK R _ ha, ?_, ?_⟩
  · obtain ⟨⟨v, hc⟩, _⟩ := R.cl x hx
    have := hc.lt
    rw [← q] at this
    exact absurd ha (Nat.not_le.mpr this)
  · cases q : G.h₀.get? a with
    | none => rfl
    | some o' => exact absurd ha (Nat.not_le.mpr (Heap.lt_size (F.keep _ _ q)))
  · cases q : c.prot a with
    | none => rfl
    | some o' => exact absurd ha (Nat.not_le.mpr (Heap.lt_size (R.pr _ _ q).1))
  · cases e : D a with
    | none => rfl
    | some o =>
      refine hid fun gg hgg => ?_
      obtain ⟨_, _, _, _, h4⟩ := R.dy _ _ e
      refine hgg ?_
      clear hgg gg
      obtain ⟨o', ho'⟩ := h4.there
      exact absurd ha (Nat.not_le.mpr (Heap.lt_size ho'))

theorem Rp.add (R : Rp G c σ V D h) {a : Addr} {o : Cel} (hf : Free G c D a) (ha : CelAt G h a o) (hw : o.rw = true := by rfl) : Rp G c σ V (D.put a o) h := by
  refine ⟨R.vr, R.cl, fun b o' e => ?_, R.pr⟩
  by_cases hb : b = a
  · subst hb
    rw [DM.put_same] at e
    cases e
    exact ⟨hf.loc, hf.cel, fun _ => ⟨hf.old, hf.sys, hf.prt⟩, fun q => (by rw [hw] at q; cases q), ha⟩
  · rw [DM.put_ne _ _ hb] at e
    exact R.dy b o' e

theorem Rp.alloc (R : Rp G c σ V D h) (hK : c.Ok G n) {o : Obj} {a : Cel} (ha : CelAt G (h.push o) h.objs.size a) (hw : a.rw = true := by rfl) : Rp G c σ V (D.put h.objs.size a) (h.push o) :=
  (R.keeps (h' := h.push o) fun b o' e => Heap.get?_push_of_some _ e).add (R.free hK _ (Nat.le_refl _)) ha hw

/-- an object of the law's own is changed -/
theorem Rp.change (R : Rp G c σ V D h) {a : Addr} {o o' : Cel} (ha : D a = some o) (hw : o.rw = true) (hs : Heap.SameBut a h h') (hc : CelAt G h' a o') (hw' : o'.rw = true := by rfl) : Rp G c σ V (D.put a o') h' := by
  obtain ⟨m, F, hv⟩ := R.vr
  refine hid fun gg hgg => ?_
  obtain ⟨h1, h2, h3, _, h4⟩ := R.dy a o ha
  refine hgg ?_
  clear hgg gg
  have hn := (h3 hw).1
  refine ⟨⟨m, ⟨F.ns.sameBut hs (Ne.symm h1), fun b ob e => (hs.2 b fun q => ?_).trans (F.keep b ob e), F.above⟩, fun i id v e1 e2 => (hv i id v e1 e2).keep fun y hy ob eo => (hs.2 _ (Ne.symm (h2 y hy))).trans eo⟩, fun x hx => ?_, fun b ob e => ?_, fun b ob e => ?_⟩
  · rw [q, hn] at e; cases e
  · obtain ⟨⟨v, hc'⟩, hne⟩ := R.cl x hx
    exact ⟨⟨v, hc'.sameBut hs (Ne.symm (h2 x hx))⟩, hne⟩
  · by_cases hb : b = a
    · subst hb
      rw [DM.put_same] at e
      cases e
      exact ⟨h1, h2, fun _ => ⟨hn, (h3 hw).2⟩, fun q => (by rw [hw'] at q; cases q), hc⟩
    · rw [DM.put_ne _ _ hb] at e
      refine hid fun gg hgg => ?_
      obtain ⟨g1, g2, g3, g3', g4⟩ := R.dy b ob e
      refine hgg ?_
      clear hgg gg
      exact ⟨g1, g2, g3, g3', g4.at fun o' eo => (hs.2 b hb).trans eo⟩
  · obtain ⟨e1, e2⟩ := R.pr b ob e
    exact ⟨(hs.2 b fun q => by rw [q, (h3 hw).2.2] at e; cases e).trans e1, e2⟩

theorem Rp.K (R : Rp G c σ V D h) (hK : c.Ok G n) : G.K.In h := by
  obtain ⟨m, F⟩ := R.fr
  exact hK.g.K.keeps F.keep
end

/-- a tree's walk, told of the law's own objects and names alone -/
noncomputable def W {α : Type} (G : Gl) (c : Cx) (σ : List Str) (V : Vs) (D : DM) (t : Sem α) (k : α → Vs → DM → Prop) : Prop :=
  ∀ (s : Shared) (Q : α → Shared → Prop) (E : Value → Shared → Prop), Rp G c σ V D s.heap →
    (∀ a V' D' h' tk', Rp G c σ V' D' h' → k a V' D' → Q a { s with heap := h', toks := tk' }) → wpAny (model G.prog G.w) c.A t Q E s

section
variable {α β : Type} {G : Gl} {c : Cx} {σ : List Str} {V : Vs} {D : DM}
theorem W.pure {a : α} {k : α → Vs → DM → Prop} (h : k a V D) : W G c σ V D (Pure.pure a : Sem α) k := fun s Q E R q => wpAny_pure (q a V D s.heap s.toks R h)
theorem W.bind {t : Sem α} {f : α → Sem β} {k : β → Vs → DM → Prop} (h : W G c σ V D t fun a V' D' => W G c σ V' D' (f a) k) : W G c σ V D (t >>= f) k := fun s Q E R q =>
  wpAny_bind (h s (fun a s' => wpAny (model G.prog G.w) c.A (f a) Q E s') E R fun a V' D' h' tk' R' hk => hk _ Q E R' fun b V'' D'' h'' tk'' R'' hk' => q b V'' D'' h'' tk'' R'' hk')
theorem W.mono {t : Sem α} {k k' : α → Vs → DM → Prop} (h : W G c σ V D t k) (hk : ∀ a V' D', k a V' D' → k' a V' D') : W G c σ V D t k' := fun s Q E R q =>
  h s Q E R fun a V' D' h' tk' R' x => q a V' D' h' tk' R' (hk a V' D' x)
theorem W.holding {vs : List Value} {t : Sem α} {k : α → Vs → DM → Prop} (h : W G c σ V D t k) : W G c σ V D (PySem.holding vs t) k := fun s Q E R q => wpAny_holding (h s Q E R q)
theorem W.standAt {pos : Pos} {k : Unit → Vs → DM → Prop} (h : k () V D) : W G c σ V D (PySem.standAt pos) k := fun s Q E R q => wpAny_standAt (q () V D s.heap s.toks R h)
theorem W.point {k : Unit → Vs → DM → Prop} (h : k () V D) : W G c σ V D PySem.point k := fun s Q E R q => wpAny_point (q () V D s.heap s.toks R h)
theorem W.of_eq {t t' : Sem α} {k : α → Vs → DM → Prop} (e : t = t') (h : W G c σ V D t' k) : W G c σ V D t k := e ▸ h
/-- a step that makes at most things which nobody of ours sees -/
theorem W.quiet {t : Sem α} {a : α} {k : α → Vs → DM → Prop}
    (h : ∀ (s : Shared) (Q : α → Shared → Prop) (E : Value → Shared → Prop), Rp G c σ V D s.heap → (∀ h' tk', (∀ b o, s.heap.get? b = some o → h'.get? b = some o) → Q a { s with heap := h', toks := tk' }) → wpAny (model G.prog G.w) c.A t Q E s)
    (hk : k a V D) : W G c σ V D t k := fun s Q E R q => h s Q E R fun h' tk' hh => q a V D h' tk' (R.keeps hh) hk
theorem W.release {vs : List Value} {keep : List Value} {k : Unit → Vs → DM → Prop} (h : k () V D) : W G c σ V D (PySem.release vs keep) k := fun s Q E R q => wpAny_release (q () V D s.heap s.toks R h)
theorem W.operate {vs : List Value} {t : Sem Value} {k : Value → Vs → DM → Prop} (h : W G c σ V D t k) : W G c σ V D (PySem.operate vs t) k := by
  unfold PySem.operate
  exact W.bind (W.holding (h.mono fun v V' D' hk => W.bind (W.release (W.pure hk))))
theorem W.ite {p : Prop} [Decidable p] {a b : Sem α} {k : α → Vs → DM → Prop} (h1 : p → W G c σ V D a k) (h2 : ¬ p → W G c σ V D b k) : W G c σ V D (if p then a else b) k := by
  split
  · exact h1 (by assumption)
  · exact h2 (by assumption)
end
end Mine

namespace Mine
section
variable {α β : Type} {G : Gl} {c : Cx} {n : Nat} {σ : List Str} {V : Vs} {D : DM}

theorem W.alloc {t : Sem Value} {o : Obj} {cel : Cel} {k : Value → Vs → DM → Prop} (hK : c.Ok G n)
    (h : ∀ (s : Shared) (Q : Value → Shared → Prop) (E : Value → Shared → Prop), (∀ tk, Q (.ref s.heap.objs.size) { s with heap := s.heap.push o, toks := tk }) → wpAny (model G.prog G.w) c.A t Q E s)
    (ha : ∀ h : Heap, CelAt G (h.push o) h.objs.size cel) (hw : cel.rw = true) (hk : ∀ a, D a = none → k (.ref a) V (D.put a cel)) : W G c σ V D t k := fun s Q E R q =>
  h s Q E fun tk => q _ _ _ _ tk (R.alloc hK (ha _) hw) (hk _ R.fresh)

theorem W.newList {vs : List Value} {k : Value → Vs → DM → Prop} (hK : c.Ok G n) (hsz : vs.length ≤ sizeLine) (hk : ∀ a, D a = none → k (.ref a) V (D.put a (.lst vs))) : W G c σ V D (PySem.newList vs) k :=
  W.alloc (o := { cls := .type "list", data := .seq vs.toArray }) (cel := .lst vs) hK (fun s Q E h => wpAny_newList (h s.toks) hsz) (fun h => ⟨0, Heap.get?_push_size _ rfl⟩) rfl hk
theorem W.newTuple {vs : List Value} {k : Value → Vs → DM → Prop} (hK : c.Ok G n) (hsz : vs.length ≤ sizeLine) (hk : ∀ a, D a = none → k (.ref a) V (D.put a (.tup vs))) : W G c σ V D (PySem.newTuple vs) k :=
  W.alloc (o := { cls := .type "tuple", data := .seq vs.toArray }) (cel := .tup vs) hK (fun s Q E h => wpAny_newTuple (h s.toks) hsz) (fun h => ⟨_, Heap.get?_push_size _ rfl, rfl, 0, rfl⟩) rfl hk

/-- the heap stays as it is; the counter may go on -/
theorem W.same {t : Sem α} {k : α → Vs → DM → Prop}
    (h : ∀ (s : Shared) (Q : α → Shared → Prop) (E : Value → Shared → Prop), Rp G c σ V D s.heap → (∀ a tk, k a V D → Q a { s with toks := tk }) → wpAny (model G.prog G.w) c.A t Q E s) : W G c σ V D t k := fun s Q E R q =>
  h s Q E R fun a tk hk => q a V D s.heap tk R hk

theorem W.mkInt {i : Int} {k : Value → Vs → DM → Prop} (hk : ∀ t, k (.int i t) V D) : W G c σ V D (PySem.mkInt i) k := W.same fun s Q E R q => wpAny_mkInt (q _ _ (hk _))
theorem W.mkText {x : Str} {k : Value → Vs → DM → Prop} (hk : ∀ t, k (.str x t) V D) : W G c σ V D (PySem.mkText x) k := W.same fun s Q E R q => wpAny_mkText (q _ _ (hk _))

-- names
theorem W.name {i : Nat} {id : Str} {pos : Pos} {v : Value} {k : Value → Vs → DM → Prop} (hK : c.Ok G n) (hσ : σ[i]? = some id) (hV : V[i]? = some (some v))
    (hk : c.env.kindOf id = some .local ∨ c.env.kindOf id = some .cell) (hd : (id == ("__debug__" : Str)) = false) (h : k v V D) : W G c σ V D (eval (.Name id pos) c.env) k := fun s Q E R q => by
  obtain ⟨m, F, hv⟩ := R.vr
  have hh := hv i id v hσ hV
  unfold Holds at hh
  rcases hk with e | e
  · rw [e] at hh
    exact wpAny_Name (wpAny_loadName_local hK.kind e F.ns hh (q v V D s.heap s.toks R h)) hd
  · rw [e] at hh
    obtain ⟨ca, hl, hc⟩ := hh
    exact wpAny_Name (wpAny_loadName_cell hK.kind e hl hc (q v V D s.heap s.toks R h)) hd

theorem W.global {x : Str} {pos : Pos} {v : Value} {k : Value → Vs → DM → Prop} (hK : c.Ok G n) (e : nsIn G.K mainGlobals x = some (some v)) (hx : c.env.kindOf x = some .globalImplicit)
    (hd : (x == ("__debug__" : Str)) = false) (h : k v V D) : W G c σ V D (eval (.Name x pos) c.env) k := fun s Q E R q => by
  obtain ⟨m, F⟩ := R.fr
  exact Name_function_global hK.kind hx (loadGlobal_global (by rw [hK.globals]; exact hK.g.T.g.keeps F.keep) (mg_of hK.g.K hK.g.T.g e) (q v V D s.heap s.toks R h)) hd
theorem W.builtin {x : Str} {pos : Pos} {v : Value} {k : Value → Vs → DM → Prop} (hK : c.Ok G n) (e : nsIn G.K mainGlobals x = some none) (hv : bootBuiltins x = some v) (hn : x ≠ "__name__")
    (hx : c.env.kindOf x = some .globalImplicit) (hd : (x == ("__debug__" : Str)) = false) (h : k v V D) : W G c σ V D (eval (.Name x pos) c.env) k := fun s Q E R q => by
  obtain ⟨m, F⟩ := R.fr
  exact Name_function_global hK.kind hx (loadGlobal_builtin (by rw [hK.globals]; exact hK.g.T.g.keeps F.keep) (mg_none_of hK.g.K hK.g.T.g e) (by rw [hK.builtins]; exact hK.g.T.b.keeps F.keep)
    ((hK.g.T.builtins x hn).trans hv) (q v V D s.heap s.toks R h)) hd

theorem set_get {V : Vs} {i j : Nat} {v u : Value} (h : (V.set i (some v))[j]? = some (some u)) : (j = i ∧ u = v) ∨ (j ≠ i ∧ V[j]? = some (some u)) := by
  rw [List.getElem?_set] at h
  by_cases hj : i = j
  · subst hj
    simp only [if_true] at h
    split at h
    · cases h; exact .inl ⟨rfl, rfl⟩
    · cases h
  · rw [if_neg hj] at h; exact .inr ⟨fun e => hj e.symm, h⟩

theorem W.store {i : Nat} {id : Str} {v : Value} {k : Unit → Vs → DM → Prop} (hK : c.Ok G n) (hσ : σ[i]? = some id) (hu : ∀ j, σ[j]? = some id → j = i)
    (hk : c.env.kindOf id = some .local ∨ (c.own = true ∧ c.env.kindOf id = some .cell ∧ (c.env.cells.lookup id).isSome = true)) (h : k () (V.set i (some v)) D) : W G c σ V D (storeName c.env id v) k := fun s Q E R q => by
  obtain ⟨m, F, hv⟩ := R.vr
  rcases hk with e | ⟨ho, e, hc⟩
  · refine wpAny_storeName_local e F.ns (fun h' hn hs => q () _ D h' _ ?_ h) (by rw [hK.kind]; rfl)
    refine ⟨⟨_, F.set hn hs, fun j id' u h1 h2 => ?_⟩, fun x hx => ?_, fun b o e' => ?_, fun b o e' => ?_⟩
    · rcases set_get h2 with ⟨rfl, rfl⟩ | ⟨hj, h2⟩
      · rw [hσ] at h1; cases h1
        unfold Holds; rw [e]; simp
      · have hh := hv j id' u h1 h2
        have hne : id' ≠ id := fun q => hj (hu j (q ▸ h1))
        unfold Holds at *
        cases e2 : c.env.kindOf id' with
        | none => trivial
        | some kd =>
          rw [e2] at hh
          cases kd with
          | «local» => simpa [hne] using hh
          | cell =>
            obtain ⟨ca, hl, hcell⟩ := hh
            exact ⟨ca, hl, hcell.sameBut hs (R.cl _ (mem_of_lookup' hl)).2.1⟩
          | _ => exact hh
    · obtain ⟨⟨v', hc'⟩, hn', hx'⟩ := R.cl x hx
      exact ⟨⟨v', hc'.sameBut hs hn'⟩, hn', hx'⟩
    · obtain ⟨h1, h2, h3, h3', h4⟩ := R.dy b o e'
      exact ⟨h1, h2, h3, h3', h4.at fun o' eo => (hs.2 b h1).trans eo⟩
    · obtain ⟨h1, h2⟩ := R.pr b o e'
      exact ⟨(hs.2 b h2).trans h1, h2⟩
  · obtain ⟨ca, hl⟩ := Option.isSome_iff_exists.mp hc
    have hm := mem_of_lookup' hl
    obtain ⟨⟨v₀, hcell⟩, hne, hown⟩ := R.cl _ hm
    obtain ⟨hold, hprot⟩ := hown ho
    refine wpAny_storeName_cell hK.kind e hl hcell fun h' hv' hs => q () _ D h' _ ?_ h
    have other : ∀ x ∈ c.env.cells, x.2 = ca → ∀ id', c.env.cells.lookup id' = some x.2 → id' = id := fun x hx hxa id' hl' => by
      have hm' := mem_of_lookup' hl'
      have key : ∀ {l : List (Str × Addr)}, (l.map (·.2)).Nodup → ∀ {p q : Str × Addr}, p ∈ l → q ∈ l → p.2 = q.2 → p = q := by
        intro l
        induction l with
        | nil => intro _ p q hp; cases hp
        | cons y l ih =>
          intro hn p q hp hq e
          rw [List.map_cons, List.nodup_cons] at hn
          cases hp with
          | head => cases hq with
            | head => rfl
            | tail _ hq => exact absurd (by rw [e]; exact List.mem_map_of_mem hq) hn.1
          | tail _ hp => cases hq with
            | head => exact absurd (by rw [← e]; exact List.mem_map_of_mem hp) hn.1
            | tail _ hq => exact ih hn.2 hp hq e
      exact congrArg Prod.fst (key (hK.cells ho) hm' hm hxa)
    refine ⟨⟨m, ⟨F.ns.sameBut hs (Ne.symm hne), fun b ob e' => (hs.2 b fun q' => by rw [q', hold] at e'; cases e').trans (F.keep b ob e'), F.above⟩, fun j id' u h1 h2 => ?_⟩, fun x hx => ?_, fun b o e' => ?_, fun b o e' => ?_⟩
    · rcases set_get h2 with ⟨rfl, rfl⟩ | ⟨hj, h2⟩
      · rw [hσ] at h1; cases h1
        unfold Holds; rw [e]; exact ⟨ca, hl, hv'⟩
      · have hh := hv j id' u h1 h2
        have hne' : id' ≠ id := fun q => hj (hu j (q ▸ h1))
        unfold Holds at *
        cases e2 : c.env.kindOf id' with
        | none => trivial
        | some kd =>
          rw [e2] at hh
          cases kd with
          | cell =>
            obtain ⟨ca', hl', hcell'⟩ := hh
            exact ⟨ca', hl', hcell'.sameBut hs fun q => hne' (other _ hm rfl id' (q ▸ hl'))⟩
          | _ => exact hh
    · obtain ⟨⟨v', hc'⟩, hn', hx'⟩ := R.cl x hx
      refine ⟨?_, hn', hx'⟩
      by_cases q : x.2 = ca
      · exact ⟨some v, q ▸ hv'⟩
      · exact ⟨v', hc'.sameBut hs q⟩
    · obtain ⟨h1, h2, h3, h3', h4⟩ := R.dy b o e'
      exact ⟨h1, h2, h3, h3', h4.at fun o' eo => (hs.2 b (h2 _ hm)).trans eo⟩
    · obtain ⟨h1, h2⟩ := R.pr b o e'
      exact ⟨(hs.2 b fun q => by rw [q, hprot] at e'; cases e').trans h1, h2⟩

theorem W.bindName {i : Nat} {id : Str} {v : Value} {k : Unit → Vs → DM → Prop} (hK : c.Ok G n) (hσ : σ[i]? = some id) (hu : ∀ j, σ[j]? = some id → j = i)
    (hk : c.env.kindOf id = some .local ∨ (c.own = true ∧ c.env.kindOf id = some .cell ∧ (c.env.cells.lookup id).isSome = true)) (h : k () (V.set i (some v)) D) : W G c σ V D (PySem.bindName c.env id v) k := by
  unfold PySem.bindName
  exact W.bind (W.holding (W.point (W.bind (W.store hK hσ hu hk (W.point h)))))
end
end Mine

namespace Mine

noncomputable def onInt (v : Value) (P : Int → Prop) : Prop := match v with | .int i _ => P i | _ => False
noncomputable def onRef (v : Value) (P : Addr → Prop) : Prop := match v with | .ref l => P l | _ => False
noncomputable def onNone (v : Value) (P : Prop) : Prop := match v with | .none => P | _ => False
theorem onInt_inv {v : Value} {P : Int → Prop} (h : onInt v P) : ∃ i t, v = .int i t ∧ P i := by
  generalize e : v = u at h
  cases u <;> first | exact ⟨_, _, rfl, h⟩ | exact False.elim h
theorem onRef_inv {v : Value} {P : Addr → Prop} (h : onRef v P) : ∃ l, v = .ref l ∧ P l := by
  generalize e : v = u at h
  cases u <;> first | exact ⟨_, rfl, h⟩ | exact False.elim h
theorem onNone_inv {v : Value} {P : Prop} (h : onNone v P) : v = .none ∧ P := by
  generalize e : v = u at h
  cases u <;> first | exact ⟨rfl, h⟩ | exact False.elim h
noncomputable def ints2 (a b : Value) (P : Int → Int → Prop) : Prop := onInt a fun x => onInt b fun y => P x y
theorem ints2_inv {a b : Value} {P : Int → Int → Prop} (h : ints2 a b P) : ∃ x t y u, a = .int x t ∧ b = .int y u ∧ P x y := by
  replace h := onInt_inv h; obtain ⟨x, t, rfl, h⟩ := h
  replace h := onInt_inv h; obtain ⟨y, u, rfl, h⟩ := h
  exact ⟨x, t, y, u, rfl, rfl, h⟩

/-- == of two values that are no objects of ours -/
noncomputable def aeq : Value → Value → Option Bool
  | .none, .none => some true
  | .int a _, .int b _ => some (a == b)
  | .str a _, .str b _ => some (a == b)
  | .none, .int _ _ => some false
  | .none, .str _ _ => some false
  | .int _ _, .none => some false
  | .str _ _, .none => some false
  | .int _ _, .str _ _ => some false
  | .str _ _, .int _ _ => some false
  | _, _ => none
theorem aeq_ii {a b : Int} {t u : Tok} : aeq (.int a t) (.int b u) = some (a == b) := rfl
theorem aeq_ss {a b : Str} {t u : Tok} : aeq (.str a t) (.str b u) = some (a == b) := rfl

noncomputable def SdAt (D : DM) (a : Addr) (kvs : List (Str × Value)) : Prop := ∃ c, D a = some c ∧ c.sd = some kvs
noncomputable def LsAt (D : DM) (a : Addr) (vs : List Value) : Prop := ∃ c, D a = some c ∧ c.ls = some vs

noncomputable def Veq (D : DM) : Nat → Value → Value → Bool → Prop
  | 0, a, b, r => aeq a b = some r
  | d + 1, a, b, r => aeq a b = some r ∨
      (∃ l m xs ys, a = .ref l ∧ b = .ref m ∧ LsAt D l xs ∧ LsAt D m ys ∧
        ((xs.length ≠ ys.length ∧ r = false) ∨
         (xs.length = ys.length ∧ ∃ e : Nat → Bool, r = (List.range xs.length).all e ∧
           ∀ (i : Nat) (x y : Value), xs[i]? = some x → ys[i]? = some y → (x = y ∧ e i = true) ∨ (x ≠ y ∧ Veq D d x y (e i)) ∨ (aeq x y = some (e i))))) ∨
      (∃ m ys, a = .none ∧ b = .ref m ∧ LsAt D m ys ∧ r = false) ∨ (∃ m ys, a = .ref m ∧ b = .none ∧ LsAt D m ys ∧ r = false)

theorem eqAt_of_rc {A : Around} {s : Shared} {y x : Value} {b : Bool} (h : SeqAt.RcAt A s y x b) (hs : y = x → b = true) (hf : ∀ f t g u, ¬ (y = .float f t ∧ x = .float g u)) : SeqAt.EqAt A s y x b := fun prog w E Q hq => by
  by_cases e : y = x
  · subst e
    rw [hs rfl] at hq
    exact SeqAt.EqAt.same y prog w E Q hq
  · unfold eqBool
    refine wpAny_holding ?_
    refine wpAny_ite_split (fun hab => absurd (eq_of_beq hab) e) (fun _ => ?_)
    dsimp only
    have hb : wpAny (model prog w) A (richCompare .Eq y x >>= truthOfDropped) Q E s := wpAny_bind (h prog w E _ (wpAny_truthy_bool hq))
    cases y <;> first | exact hb | (cases x <;> first | exact absurd ⟨rfl, rfl⟩ (hf _ _ _ _) | exact hb)

theorem aeq_self {a : Value} {r : Bool} (h : aeq a a = some r) : r = true := by
  cases a <;> cases h <;> first | rfl | exact beq_self_eq_true _

theorem rcAt_of_aeq {A : Around} {s : Shared} {a b : Value} {r : Bool} (h : aeq a b = some r) : SeqAt.RcAt A s a b r := by
  cases a <;> first | (cases h; done) | (cases b <;> cases h)
  · exact SeqAt.RcAt.none_none
  · exact SeqAt.RcAt.none_int _ _
  · exact SeqAt.RcAt.none_str _ _
  · exact SeqAt.RcAt.int_none _ _
  · exact SeqAt.RcAt.int_int _ _ _ _
  · exact SeqAt.RcAt.int_str _ _ _ _
  · exact SeqAt.RcAt.str_none _ _
  · exact SeqAt.RcAt.str_int _ _ _ _
  · exact SeqAt.RcAt.str_str _ _ _ _
theorem rcNeAt_of_aeq {A : Around} {s : Shared} {a b : Value} {r : Bool} (h : aeq a b = some r) : SeqAt.RcNeAt A s a b (!r) := by
  cases a <;> first | (cases h; done) | (cases b <;> cases h)
  · exact SeqAt.RcNeAt.none_none
  · exact SeqAt.RcNeAt.none_int _ _
  · exact SeqAt.RcNeAt.none_str _ _
  · exact SeqAt.RcNeAt.int_none _ _
  · exact SeqAt.RcNeAt.int_int _ _ _ _
  · exact SeqAt.RcNeAt.int_str _ _ _ _
  · exact SeqAt.RcNeAt.str_none _ _
  · exact SeqAt.RcNeAt.str_int _ _ _ _
  · exact SeqAt.RcNeAt.str_str _ _ _ _
theorem eqAt_of_aeq {A : Around} {s : Shared} {a b : Value} {r : Bool} (h : aeq a b = some r) : SeqAt.EqAt A s a b r := eqAt_of_rc (rcAt_of_aeq h) (fun e => by subst e; exact aeq_self h) fun f t g u e => by obtain ⟨rfl, rfl⟩ := e; cases h

section
variable {G : Gl} {c : Cx} {σ : List Str} {V : Vs} {D : DM}
theorem LsAt.isList {h : Heap} {l : Addr} {xs : List Value} (R : Rp G c σ V D h) (x : LsAt D l xs) : h.IsList l xs.toArray := by
  obtain ⟨cl, h1, h2⟩ := x
  exact (R.dy l cl h1).2.2.2.2.isList h2

theorem veq_nofloat {d : Nat} {f g : UInt64} {t u : Tok} {r : Bool} (h : Veq D d (.float f t) (.float g u) r) : False := by
  cases d with
  | zero => cases h
  | succ d =>
    rcases h with h | ⟨l, m, xs, ys, h, _⟩ | ⟨m, ys, h, _⟩ | ⟨m, ys, h, _⟩
    · cases h
    · cases h
    · cases h
    · cases h

theorem SdAt.dictOf {h : Heap} {l : Addr} {kvs : List (Str × Value)} (R : Rp G c σ V D h) (x : SdAt D l kvs) : (l == sysModules) = false ∧ h.DictOf (strKind G.prog G.w) l kvs := by
  obtain ⟨cl, h1, h2⟩ := x
  obtain ⟨_, _, h3, _, h4⟩ := R.dy l cl h1
  cases cl <;> simp only [Cel.sd, Option.some.injEq, reduceCtorEq] at h2
  · subst h2; exact ⟨(h3 rfl).2.1, h4⟩
  · subst h2; exact ⟨(h3 rfl).2.1, h4.dictOf⟩

theorem listItems {G : Gl} {c : Cx} {σ : List Str} {V : Vs} {D : DM} {A : Around} {s : Shared} {d : Nat} {xs ys : List Value} {e : Nat → Bool}
    (ih : ∀ (A : Around) (x y : Value) (r : Bool), A.units + d < cLine → Veq D d x y r → SeqAt.RcAt A s x y r ∧ SeqAt.RcNeAt A s x y (!r)) (hu : A.units + (d + 1) < cLine)
    (he : ∀ (i : Nat) (x y : Value), xs[i]? = some x → ys[i]? = some y → (x = y ∧ e i = true) ∨ (x ≠ y ∧ Veq D d x y (e i)) ∨ (aeq x y = some (e i))) :
    ∀ j (h1 : j < xs.toArray.size) (h2 : j < ys.toArray.size), SeqAt.EqAt A.in1 s xs.toArray[j] ys.toArray[j] (e j) := fun j h1 h2 => by
  have q1 : xs[j]? = some xs.toArray[j] := by simp
  have q2 : ys[j]? = some ys.toArray[j] := by simp
  rcases he j _ _ q1 q2 with ⟨hx, h⟩ | ⟨hne, h⟩ | h
  · rw [hx, h]; exact SeqAt.EqAt.same _
  · exact eqAt_of_rc (ih A.in1 _ _ _ (by show A.units + 1 + d < cLine; omega) h).1 (fun q => absurd q hne) fun f t g u e => by rw [e.1, e.2] at h; exact veq_nofloat h
  · exact eqAt_of_aeq h

theorem rc_of_veq {s : Shared} (R : Rp G c σ V D s.heap) : ∀ (d : Nat) (A : Around) (a b : Value) (r : Bool), A.units + d < cLine → Veq D d a b r → SeqAt.RcAt A s a b r ∧ SeqAt.RcNeAt A s a b (!r) := by
  intro d
  induction d with
  | zero => exact fun A a b r _ h => ⟨rcAt_of_aeq h, rcNeAt_of_aeq h⟩
  | succ d ih =>
    intro A a b r hu h
    have hu' : A.units < cLine := by omega
    rcases h with h | ⟨l, m, xs, ys, rfl, rfl, hl, hm, h⟩ | ⟨m, ys, rfl, rfl, hm, rfl⟩ | ⟨m, ys, rfl, rfl, hm, rfl⟩
    · exact ⟨rcAt_of_aeq h, rcNeAt_of_aeq h⟩
    · have l1 := hl.isList R
      have l2 := hm.isList R
      rcases h with ⟨hne, rfl⟩ | ⟨heq, e, rfl, he⟩
      · have q : (xs.toArray.size != ys.toArray.size) = true := by simpa using hne
        exact ⟨SeqAt.RcAt.lists_lengths l1 l2 q hu', SeqAt.RcNeAt.lists_lengths l1 l2 q hu'⟩
      · have q : xs.toArray.size = ys.toArray.size := by simpa using heq
        have hs : xs.toArray.size = xs.length := by simp
        have k := listItems (G := G) (c := c) (σ := σ) (V := V) (D := D) (A := A) (s := s) ih hu he
        rw [← hs]
        exact ⟨SeqAt.RcAt.lists l1 l2 q hu' k, SeqAt.RcNeAt.lists l1 l2 q hu' k⟩
    · exact ⟨SeqAt.RcAt.none_list (hm.isList R) hu', SeqAt.RcNeAt.none_list (hm.isList R) hu'⟩
    · exact ⟨SeqAt.RcAt.list_none (hm.isList R) hu', SeqAt.RcNeAt.list_none (hm.isList R) hu'⟩
end

/-- what a comparison answers -/
noncomputable def cmpR.inR (D : DM) (a : Value) (l : Addr) (r : Bool) : Prop :=
  (∃ vs, LsAt D l vs ∧ (∀ y ∈ vs, (aeq y a).isSome = true) ∧ r = vs.any fun y => (aeq y a).getD false) ∨
  (∃ vs, D l = some (.tup vs) ∧ (∀ y ∈ vs, (aeq y a).isSome = true) ∧ r = vs.any fun y => (aeq y a).getD false) ∨
  (∃ kvs x t, SdAt D l kvs ∧ a = .str x t ∧ r = (valueAt kvs x).isSome) ∨
  (∃ kvs x t, D l = some (.di kvs) ∧ a = .int x t ∧ r = (valueAt kvs x).isSome)
noncomputable def cmpR (D : DM) (op : CmpOp) (a b : Value) (r : Bool) : Prop := match op with
  | .Eq => ∃ d, d ≤ 8 ∧ Veq D d a b r
  | .NotEq => ∃ d, d ≤ 8 ∧ Veq D d a b (!r)
  | .Lt => ints2 a b fun a b => r = decide (a < b)
  | .LtE => ints2 a b fun a b => r = decide (a ≤ b)
  | .Gt => ints2 a b fun a b => r = decide (b < a)
  | .GtE => ints2 a b fun a b => r = decide (b ≤ a)
  | .Is => onNone b (plainIs a .none = true ∧ r = decide (a = .none))
  | .IsNot => onNone b (plainIs a .none = true ∧ r = !decide (a = .none))
  | .In => onRef b fun l => cmpR.inR D a l r
  | .NotIn => onRef b fun l => cmpR.inR D a l (!r)

theorem beq_none (a : Value) : (a == Value.none) = decide (a = Value.none) := by by_cases h : a = Value.none <;> simp [h]

section
variable {G : Gl} {c : Cx} {n : Nat} {σ : List Str} {V : Vs} {D : DM}
theorem mapOf_of {hp : Heap} {K : Type} [DecidableEq K] {knd : KeyKind G.prog G.w K} {d : Addr} {kvs : List (K × Value)} (h : hp.DictOf knd d kvs) : hp.MapOf knd d (valueAt kvs) := Heap.DictOf.mapOf h

theorem W.cmp {op : CmpOp} {a b : Value} {r : Bool} {k : Value → Vs → DM → Prop} (hK : c.Ok G n) (h : cmpR D op a b r) (hk : k (.bool r) V D) : W G c σ V D (compareOp op a b) k := W.same fun s Q E R q => by
  have hu := hK.units
  have done : ∀ tk, Q (.bool r) { s with toks := tk } := fun tk => q _ _ hk
  have done' : Q (.bool r) s := q _ s.toks hk
  have hin : ∀ l r', cmpR.inR D a l r' → (∀ tk, Q (.bool r') { s with toks := tk }) → wpAny (model G.prog G.w) c.A (compareOp .In a (.ref l)) Q E s := fun l r' hr d => by
    rcases hr with ⟨vs, hl, ha, rfl⟩ | ⟨vs, hl, ha, rfl⟩ | ⟨kvs, x, t, hl, rfl, rfl⟩ | ⟨kvs, x, t, hl, rfl, rfl⟩
    · refine SeqAt.in_listAt (fun y => (aeq y a).getD false) (hl.isList R) (fun y hy => eqAt_of_aeq ?_) (by simpa using d s.toks)
      obtain ⟨z, hz⟩ := Option.isSome_iff_exists.mp (ha y (by simpa using hy))
      rw [hz]; rfl
    · refine SeqAt.in_tupleAt (fun y => (aeq y a).getD false) (R.dy l _ hl).2.2.2.2 (fun y hy => eqAt_of_aeq ?_) (by simpa using d s.toks)
      obtain ⟨z, hz⟩ := Option.isSome_iff_exists.mp (ha y (by simpa using hy))
      rw [hz]; rfl
    · obtain ⟨h3, h4⟩ := hl.dictOf R
      exact wpAny_in_of (knd := strKind G.prog G.w) (k := x) (by simp [PySem.strKind, Value.isStrOf]) h3 (mapOf_of h4) (d _)
    · obtain ⟨_, _, h3, _, h4⟩ := R.dy l _ hl
      exact wpAny_in_of (knd := intKind G.prog G.w) (k := x) (by simp [intKind, Value.isInt]) (h3 rfl).2.1 (mapOf_of h4) (d _)
  have hnotin : ∀ l r', cmpR.inR D a l (!r') → (∀ tk, Q (.bool r') { s with toks := tk }) → wpAny (model G.prog G.w) c.A (compareOp .NotIn a (.ref l)) Q E s := fun l r' hr d => by
    have flip : ∀ {x : Bool}, (!r') = x → r' = !x := fun h => by rw [← h, Bool.not_not]
    rcases hr with ⟨vs, hl, ha, hr⟩ | ⟨vs, hl, ha, hr⟩ | ⟨kvs, x, t, hl, rfl, hr⟩ | ⟨kvs, x, t, hl, rfl, hr⟩
    · refine SeqAt.notIn_listAt (fun y => (aeq y a).getD false) (hl.isList R) (fun y hy => eqAt_of_aeq ?_) (by have := d s.toks; rw [flip hr] at this; simpa using this)
      obtain ⟨z, hz⟩ := Option.isSome_iff_exists.mp (ha y (by simpa using hy))
      rw [hz]; rfl
    · refine SeqAt.notIn_tupleAt (fun y => (aeq y a).getD false) (R.dy l _ hl).2.2.2.2 (fun y hy => eqAt_of_aeq ?_) (by have := d s.toks; rw [flip hr] at this; simpa using this)
      obtain ⟨z, hz⟩ := Option.isSome_iff_exists.mp (ha y (by simpa using hy))
      rw [hz]; rfl
    · obtain ⟨h3, h4⟩ := hl.dictOf R
      exact wpAny_notIn_of (knd := strKind G.prog G.w) (k := x) (by simp [PySem.strKind, Value.isStrOf]) h3 (mapOf_of h4) (by rw [← flip hr]; exact d _)
    · obtain ⟨_, _, h3, _, h4⟩ := R.dy l _ hl
      exact wpAny_notIn_of (knd := intKind G.prog G.w) (k := x) (by simp [intKind, Value.isInt]) (h3 rfl).2.1 (mapOf_of h4) (by rw [← flip hr]; exact d _)
  cases op with
  | Eq =>
    obtain ⟨d, hd, h⟩ := h
    exact (rc_of_veq R d c.A _ _ _ (by omega) h).1 _ _ E Q done'
  | NotEq =>
    obtain ⟨d, hd, h⟩ := h
    have := (rc_of_veq R d c.A _ _ _ (by omega) h).2
    rw [Bool.not_not] at this
    exact this _ _ E Q done'
  | Lt => replace h := ints2_inv h; obtain ⟨x, t, y, u, rfl, rfl, rfl⟩ := h; exact PyProof.Rows.lt_int done'
  | LtE => replace h := ints2_inv h; obtain ⟨x, t, y, u, rfl, rfl, rfl⟩ := h; exact P.le_int done'
  | Gt => replace h := ints2_inv h; obtain ⟨x, t, y, u, rfl, rfl, rfl⟩ := h; exact PyProof.Rows.gt_int done'
  | GtE => replace h := ints2_inv h; obtain ⟨x, t, y, u, rfl, rfl, rfl⟩ := h; exact PyProof.Rows.ge_int done'
  | Is => replace h := onNone_inv h; obtain ⟨rfl, hp, rfl⟩ := h; exact wpAny_is_plain hp (by rw [beq_none]; exact done')
  | IsNot => replace h := onNone_inv h; obtain ⟨rfl, hp, rfl⟩ := h; exact wpAny_isNot_plain hp (by rw [beq_none]; exact done')
  | In => replace h := onRef_inv h; obtain ⟨l, rfl, h⟩ := h; exact hin _ _ h done
  | NotIn => replace h := onRef_inv h; obtain ⟨l, rfl, h⟩ := h; exact hnotin _ _ h done
end
end Mine

namespace Mine

noncomputable def big : Nat := 2 ^ 20

noncomputable def onStr (v : Value) (P : Str → Prop) : Prop := match v with | .str i _ => P i | _ => False
theorem onStr_inv {v : Value} {P : Str → Prop} (h : onStr v P) : ∃ i t, v = .str i t ∧ P i := by
  generalize e : v = u at h
  cases u <;> first | exact ⟨_, _, rfl, h⟩ | exact False.elim h
noncomputable def binR (D : DM) (op : Operator) (a b : Value) (k : Value → DM → Prop) : Prop := match op with
  | .Add => match a with
    | .int a _ => onInt b fun b => ∀ t, k (.int (a + b) t) D
    | .str a _ => onStr b fun b => a.length + b.length ≤ big ∧ ∀ t, k (.str (a ++ b) t) D
    | .ref l => onRef b fun m => ∃ xs ys, D l = some (.lst xs) ∧ D m = some (.lst ys) ∧ xs.length + ys.length ≤ big ∧ ∀ a, D a = none → k (.ref a) (D.put a (.lst (xs ++ ys)))
    | _ => False
  | .Sub => ints2 a b fun a b => ∀ t, k (.int (a - b) t) D
  | .FloorDiv => ints2 a b fun a b => b ≠ 0 ∧ ∀ t, k (.int (a.fdiv b) t) D
  | .Mod => ints2 a b fun a b => b ≠ 0 ∧ ∀ t, k (.int (a.fmod b) t) D
  | .Pow => ints2 a b fun a b => 0 ≤ b ∧ b ≤ 1000000 ∧ a.natAbs < 2 ^ 64 ∧ ∀ t, k (.int (a ^ b.toNat) t) D
  | _ => False
/-- what op gives: by its kinds -/
theorem binR_elim {D : DM} {op : Operator} {a b : Value} {k : Value → DM → Prop} {g : Prop} (h : binR D op a b k)
    (h1 : ∀ x t y u, op = .Add → a = .int x t → b = .int y u → (∀ t, k (.int (x + y) t) D) → g) (h2 : ∀ x t y u, op = .Add → a = .str x t → b = .str y u → (x.length + y.length ≤ big ∧ ∀ t, k (.str (x ++ y) t) D) → g)
    (h3 : ∀ l m, op = .Add → a = .ref l → b = .ref m → (∃ xs ys, D l = some (.lst xs) ∧ D m = some (.lst ys) ∧ xs.length + ys.length ≤ big ∧ ∀ a, D a = none → k (.ref a) (D.put a (.lst (xs ++ ys)))) → g)
    (h4 : ∀ x t y u, op = .Sub → a = .int x t → b = .int y u → (∀ t, k (.int (x - y) t) D) → g) (h5 : ∀ x t y u, op = .FloorDiv → a = .int x t → b = .int y u → (y ≠ 0 ∧ ∀ t, k (.int (x.fdiv y) t) D) → g)
    (h6 : ∀ x t y u, op = .Mod → a = .int x t → b = .int y u → (y ≠ 0 ∧ ∀ t, k (.int (x.fmod y) t) D) → g)
    (h7 : ∀ x t y u, op = .Pow → a = .int x t → b = .int y u → (0 ≤ y ∧ y ≤ 1000000 ∧ x.natAbs < 2 ^ 64 ∧ ∀ t, k (.int (x ^ y.toNat) t) D) → g) : g := by
  generalize e1 : op = op' at h
  cases op' <;> first | exact False.elim h | skip
  · generalize e2 : a = a' at h
    cases a' <;> first | exact False.elim h | skip
    · replace h := onInt_inv h; obtain ⟨y, u, e, h⟩ := h; exact h1 _ _ _ _ e1 e2 e h
    · replace h := onStr_inv h; obtain ⟨y, u, e, h⟩ := h; exact h2 _ _ _ _ e1 e2 e h
    · replace h := onRef_inv h; obtain ⟨y, e, h⟩ := h; exact h3 _ _ e1 e2 e h
  · replace h := ints2_inv h; obtain ⟨x, t, y, u, q1, q2, h⟩ := h; exact h4 _ _ _ _ e1 q1 q2 h
  · replace h := ints2_inv h; obtain ⟨x, t, y, u, q1, q2, h⟩ := h; exact h6 _ _ _ _ e1 q1 q2 h
  · replace h := ints2_inv h; obtain ⟨x, t, y, u, q1, q2, h⟩ := h; exact h7 _ _ _ _ e1 q1 q2 h
  · replace h := ints2_inv h; obtain ⟨x, t, y, u, q1, q2, h⟩ := h; exact h5 _ _ _ _ e1 q1 q2 h
theorem binR_mono {D : DM} {op : Operator} {a b : Value} {k k' : Value → DM → Prop} (h : binR D op a b k) (hk : ∀ v D', k v D' → k' v D') : binR D op a b k' := by
  refine binR_elim h ?_ ?_ ?_ ?_ ?_ ?_ ?_
  · rintro x t y u rfl rfl rfl h; exact fun t => hk _ _ (h t)
  · rintro x t y u rfl rfl rfl h; exact ⟨h.1, fun t => hk _ _ (h.2 t)⟩
  · rintro l m rfl rfl rfl ⟨xs, ys, e1, e2, e3, z⟩; exact ⟨xs, ys, e1, e2, e3, fun a ha => hk _ _ (z a ha)⟩
  · rintro x t y u rfl rfl rfl h; exact fun t => hk _ _ (h t)
  · rintro x t y u rfl rfl rfl h; exact ⟨h.1, fun t => hk _ _ (h.2 t)⟩
  · rintro x t y u rfl rfl rfl h; exact ⟨h.1, fun t => hk _ _ (h.2 t)⟩
  · rintro x t y u rfl rfl rfl h; exact ⟨h.1, h.2.1, h.2.2.1, fun t => hk _ _ (h.2.2.2 t)⟩

theorem big_le : big ≤ sizeLine := by decide

section
variable {G : Gl} {c : Cx} {n : Nat} {σ : List Str} {V : Vs} {D : DM}
theorem pylong {s : Shared} (hK : c.Ok G n) (R : Rp G c σ V D s.heap) : PySem.PylongRoom (model G.prog G.w) c.A s := by
  obtain ⟨m, F⟩ := R.fr
  obtain ⟨fe, l, hf, h1, h2, h3, h4⟩ := hK.frames
  refine PylongRoom.of (hK.g.T.nolimit.keeps F.keep) ?_ (SeerAt.of (hK.g.seer.keeps F.keep) hK.g.tree hf h1 h2 h3 h4)
  have := hK.depth
  have e : Builtin.pylongFrames = 100 := rfl
  omega

theorem W.bin {op : Operator} {a b : Value} {k : Value → Vs → DM → Prop} (hK : c.Ok G n) (h : binR D op a b fun v D' => k v V D') : W G c σ V D (binaryOp op a b) k := by
  refine binR_elim h ?_ ?_ ?_ ?_ ?_ ?_ ?_
  · rintro x t y u rfl rfl rfl h; exact W.same fun s Q E R q => PyProof.Rows.add_int (q _ _ (h _))
  · rintro x t y u rfl rfl rfl h; exact W.same fun s Q E R q => PyProof.Rows.add_str (fun t' tk => q _ _ (h.2 _)) (Nat.le_trans h.1 big_le)
  · rintro l m rfl rfl rfl ⟨xs, ys, h1, h2, hsz, hk⟩
    intro s Q E R q
    obtain ⟨n1, e1⟩ := (R.dy _ _ h1).2.2.2.2
    obtain ⟨n2, e2⟩ := (R.dy _ _ h2).2.2.2.2
    refine P.add_list e1 e2 (q _ _ _ _ s.toks (R.alloc hK (a := .lst (xs ++ ys)) ⟨0, ?_⟩) (hk _ R.fresh)) (by simpa using Nat.le_trans hsz big_le)
    rw [Heap.get?_push_size _ rfl]
    simp
  · rintro x t y u rfl rfl rfl h; exact W.same fun s Q E R q => PyProof.Rows.sub_int (q _ _ (h _))
  · rintro x t y u rfl rfl rfl h; exact W.same fun s Q E R q => floordiv_int h.1 (q _ _ (h.2 _)) (.inr (pylong hK R))
  · rintro x t y u rfl rfl rfl h; exact W.same fun s Q E R q => mod_int' h.1 (q _ _ (h.2 _))
  · rintro x t y u rfl rfl rfl h; exact W.same fun s Q E R q => pow_int_small h.1 h.2.1 h.2.2.1 (q _ _ (h.2.2.2 _))

noncomputable def truR : Value → Bool → Prop
  | .bool b, r => r = b
  | .none, r => r = false
  | .int i _, r => r = (i != 0)
  | _, _ => False
theorem W.truthy {a : Value} {r : Bool} {k : Bool → Vs → DM → Prop} (h : truR a r) (hk : k r V D) : W G c σ V D (PySem.truthy a) k := W.same fun s Q E R q => by
  have q' : Q r s := q _ s.toks hk
  cases a <;> first | exact False.elim h | skip
  · subst h; exact truthy_none q'
  · subst h; exact wpAny_truthy_bool q'
  · subst h; exact P.truthy_int q'

theorem W.neg {a : Int} {t : Tok} {k : Value → Vs → DM → Prop} (hk : ∀ t', k (.int (-a) t') V D) : W G c σ V D (unaryOp .USub (.int a t)) k := W.same fun s Q E R q => PyProof.Rows.neg_int (q _ _ (hk _))

/-- reading an item -/
noncomputable def itmR (D : DM) (o i : Value) (k : Value → Prop) : Prop := onRef o fun l =>
      (∃ vs j t v, LsAt D l vs ∧ i = .int j t ∧ 0 ≤ j ∧ j < 2 ^ 63 ∧ vs[j.toNat]? = some v ∧ k v) ∨
      (∃ vs j t v, D l = some (.tup vs) ∧ i = .int j t ∧ 0 ≤ j ∧ vs.length < 2 ^ 60 ∧ vs[j.toNat]? = some v ∧ k v) ∨
      (∃ kvs x t v, SdAt D l kvs ∧ i = .str x t ∧ valueAt kvs x = some v ∧ k v) ∨
      (∃ kvs x t v, D l = some (.di kvs) ∧ i = .int x t ∧ valueAt kvs x = some v ∧ k v)

theorem W.getItem {o i : Value} {k : Value → Vs → DM → Prop} (hK : c.Ok G n) (h : itmR D o i fun v => k v V D) : W G c σ V D (PySem.getItem o i) k := W.same fun s Q E R q => by
  replace h := onRef_inv h; obtain ⟨l, rfl, h⟩ := h
  · rcases h with ⟨vs, j, t, v, hl, rfl, h0, h1, hv, hk⟩ | ⟨vs, j, t, v, hl, rfl, h0, h1, hv, hk⟩ | ⟨kvs, x, t, v, hl, rfl, hv, hk⟩ | ⟨kvs, x, t, v, hl, rfl, hv, hk⟩
    · exact wpAny_getItem_list (hl.isList R) h0 h1 (by simpa using hv) (q v s.toks hk)
    · have hj : j.toNat < vs.length := (List.getElem?_eq_some_iff.mp hv).1
      have hs : vs.toArray.size = vs.length := by simp
      refine PyProof.Rows.getItem_tuple (R.dy _ _ hl).2.2.2.2 (by omega) (by omega) (j := j.toNat) ?_ (by simpa using hv) (q v s.toks hk)
      unfold seqIndex?
      rw [hs]
      simp only
      have a1 : ¬ j < 0 := by omega
      simp [a1]
      omega
    · exact wpAny_getItem_of (knd := strKind G.prog G.w) (k := x) (by simp [PySem.strKind, Value.isStrOf]) (mapOf_of (hl.dictOf R).2) hv (q v _ hk)
    · exact wpAny_getItem_of (knd := intKind G.prog G.w) (k := x) (by simp [intKind, Value.isInt]) (mapOf_of (R.dy _ _ hl).2.2.2.2) hv (q v _ hk)
end
end Mine

namespace Mine

noncomputable def liveBut (h : Heap) (a L : Addr) : List (Addr × Obj) := (List.range h.objs.size).filterMap fun b => if b = a ∨ b = L then none else (h.get? b).map (b, ·)
theorem mem_liveBut {h : Heap} {a L : Addr} {p : Addr × Obj} : p ∈ liveBut h a L ↔ h.get? p.1 = some p.2 ∧ p.1 ≠ a ∧ p.1 ≠ L := by
  unfold liveBut
  rw [List.mem_filterMap]
  constructor
  · rintro ⟨b, hb, e⟩
    split at e
    · cases e
    · rename_i hn
      obtain ⟨o, ho, rfl⟩ := Option.map_eq_some_iff.mp e
      exact ⟨ho, fun q => hn (.inl q), fun q => hn (.inr q)⟩
  · rintro ⟨e, h1, h2⟩
    refine ⟨p.1, List.mem_range.mpr (Heap.lt_size e), ?_⟩
    rw [if_neg (fun q => q.elim h1 h2), e]
    rfl

theorem Rp.changeE {G : Gl} {c : Cx} {σ : List Str} {V : Vs} {D : DM} {h h' : Heap} (R : Rp G c σ V D h) {a : Addr} {o o' : Cel} (ha : D a = some o) (hw : o.rw = true)
    (hs : ∀ b ob, b ≠ a → b ≠ c.env.locals → h.get? b = some ob → h'.get? b = some ob) (hL : ∀ m, h.Ns c.env.locals m → h'.Ns c.env.locals m) (hc : CelAt G h' a o') (hw' : o'.rw = true := by rfl) : Rp G c σ V (D.put a o') h' := by
  obtain ⟨m, F, hv⟩ := R.vr
  obtain ⟨h1, h2, h3, _, h4⟩ := R.dy a o ha
  have hn := (h3 hw).1
  have hold : ∀ b ob, G.h₀.get? b = some ob → b ≠ c.env.locals := fun b ob e q => by
    rw [q] at e
    exact absurd (Nat.lt_of_lt_of_le (Heap.lt_size e) F.above) (Nat.lt_irrefl _)
  refine ⟨⟨m, ⟨hL m F.ns, fun b ob e => hs b ob (fun q => by rw [q, hn] at e; cases e) (hold b ob e) (F.keep b ob e), F.above⟩, fun i id v e1 e2 => (hv i id v e1 e2).keep fun y hy ob eo => hs _ _ (Ne.symm (h2 y hy)) (R.cl y hy).2.1 eo⟩, fun x hx => ?_, fun b ob e => ?_, fun b ob e => ?_⟩
  · obtain ⟨⟨v, ob, ho, hd⟩, hne⟩ := R.cl x hx
    exact ⟨⟨v, ob, hs _ _ (Ne.symm (h2 x hx)) hne.1 ho, hd⟩, hne⟩
  · by_cases hb : b = a
    · subst hb
      rw [DM.put_same] at e
      cases e
      exact ⟨h1, h2, fun _ => ⟨hn, (h3 hw).2⟩, fun q => (by rw [hw'] at q; cases q), hc⟩
    · rw [DM.put_ne _ _ hb] at e
      obtain ⟨g1, g2, g3, g3', g4⟩ := R.dy b ob e
      exact ⟨g1, g2, g3, g3', g4.at fun o' eo => hs b _ hb g1 eo⟩
  · obtain ⟨e1, e2⟩ := R.pr b ob e
    exact ⟨hs b _ (fun q => by rw [q, (h3 hw).2.2] at e; cases e) e2 e1, e2⟩

structure VecK (G : Gl) : Prop where
  get : ∀ i, i < 3 → plainGet G.K G.C (fldName i) = true ∧ ∃ attr, findIn G.K (.ref G.C) (fldName i) = some attr ∧ noGet G.K attr = true
  hasD : hasDictIn G.K G.C = true
  sa : findIn G.K (.ref G.C) "__setattr__" = some (some (.builtin "object.__setattr__"))
  po : plainOver G.K G.C = true
  tk : ∀ i, i < 5 → takerIn G.K G.C (fldName i) = some none

theorem fld_get {P : Params} {es : List DictEntry} {fs : List Value} (h : Flds P 0 es fs) {i : Nat} (hi : i < 3) {v : Value} (hv : fs[i]? = some v) (hl : fs.length ≤ 5) :
    getL (fldName i) es = some (some v) ∧ handedIn v = true := by
  have k : ∀ i j : Fin 5, (Str.ofString "x" = Str.ofString "x") ∧ ((fldName i == fldName j) = decide (i = j)) := by decide +kernel
  have kk : ∀ i j : Nat, i < 5 → j < 5 → (fldName i == fldName j) = decide (i = j) := fun i j h1 h2 => by
    have := (k ⟨i, h1⟩ ⟨j, h2⟩).2
    simpa using this
  have gen : ∀ (fs : List Value) (es : List DictEntry) (j : Nat), Flds P j es fs → j ≤ i → fs[i - j]? = some v → j + fs.length ≤ 5 → es.find? (·.key.isStr (fldName i)) = some ((es.find? (·.key.isStr (fldName i))).getD default) ∧ ((es.find? (·.key.isStr (fldName i))).getD default).val = v ∧ handedIn v = true := by
    intro fs
    induction fs with
    | nil => intro es j _ _ h; simp at h
    | cons u fs ih =>
      intro es j hf hj hv hl
      cases es with
      | nil => exact hf.elim
      | cons e es =>
        obtain ⟨⟨t, w, rfl, hw, hh⟩, hf⟩ := hf
        rw [List.length_cons] at hl
        have e0 : (Value.str (fldName j) t).isStr (fldName i) = decide (j = i) := by
          show (fldName j == fldName i) = _
          rw [kk j i (by omega) (by omega)]
        by_cases q : j = i
        · subst q
          rw [Nat.sub_self] at hv
          cases hv
          simp only [List.find?_cons, e0, decide_true, Option.getD_some]
          exact ⟨trivial, hw hi, (hw hi) ▸ hh⟩
        · simp only [List.find?_cons, e0, decide_eq_false q]
          refine ih es (j + 1) hf (by omega) ?_ (by omega)
          have : i - j = (i - (j + 1)) + 1 := by omega
          rw [this] at hv
          simpa using hv
  obtain ⟨h1, h2, h3⟩ := gen fs es 0 h (Nat.zero_le _) (by simpa using hv) (by omega)
  refine ⟨?_, h3⟩
  unfold getL
  rw [h1]
  simp only
  rw [h2]

section
variable {G : Gl} {c : Cx} {n : Nat} {σ : List Str} {V : Vs} {D : DM}

theorem instAt {s : Shared} (R : Rp G c σ V D s.heap) {x d : Addr} {fs : List Value} (hx : D x = some (.ins d)) (hd : D d = some (.vdc fs)) :
    ∃ es n, InstAt s.heap x (instObj G.C d) G.C (some (dictOf es n)) ∧ s.heap.get? d = some (dictOf es n) ∧ Flds G.w.params 0 es fs ∧ fs.length ≤ 5 := by
  obtain ⟨hl, es, n, ho, hf⟩ := (R.dy d _ hd).2.2.2.2
  exact ⟨es, n, ⟨(R.dy x _ hx).2.2.2.2, rfl, rfl, ho⟩, ho, hf, hl⟩

theorem W.getAttr (X : VecK G) (hK : c.Ok G n) {x d : Addr} {i : Nat} {fs : List Value} {v : Value} {b : Bool} {k : Value → Vs → DM → Prop} (hx : D x = some (.ins d)) (hd : D d = some (.vdc fs)) (hi : i < 3) (hv : fs[i]? = some v) (hk : k v V D) :
    W G c σ V D (PySem.getAttr (.ref x) (fldName i) b) k := W.same fun s Q E R q => by
  obtain ⟨es, n', I, _, hf, hl⟩ := instAt R hx hd
  obtain ⟨g1, g2⟩ := fld_get hf hi hv hl
  obtain ⟨a1, attr, a2, a3⟩ := X.get i hi
  exact get_value (R.K hK) I (plainGet_of a1).1 (findObj_own X.hasD a2 a3 g1) g2 (q _ _ hk)

theorem fld_put {P : Params} {i : Nat} {v : Value} {tk : Tok} (hv : handedIn v = true) : ∀ (fs : List Value) (es : List DictEntry) (j : Nat), Flds P j es fs → j ≤ i → i < 5 → i ≤ j + fs.length → j + fs.length ≤ 5 →
    Flds P j (putL (fldName i) (PyData.keyHash P (fldName i)) (.str (fldName i) tk) v es) (if i = j + fs.length then fs ++ [v] else fs.set (i - j) v) ∧
      ∀ u, Flds P j (putL (fldName i) (PyData.keyHash P (fldName i)) (.str (fldName i) tk) v es) (if i = j + fs.length then fs ++ [u] else fs.set (i - j) u) ∨ i < 3 := by
  have k : ∀ i j : Fin 5, ((fldName i == fldName j) = decide (i = j)) := by decide +kernel
  have kk : ∀ i j : Nat, i < 5 → j < 5 → (fldName i == fldName j) = decide (i = j) := fun i j h1 h2 => by
    have := (k ⟨i, h1⟩ ⟨j, h2⟩)
    simpa using this
  intro fs
  induction fs with
  | nil =>
    intro es j hf hj hi h1 h2
    cases es with
    | cons e es => exact hf.elim
    | nil =>
      have : i = j := by simp at h1; omega
      subst this
      simp only [putL, List.length_nil, Nat.add_zero, if_true, List.nil_append]
      refine ⟨⟨⟨tk, v, rfl, fun _ => rfl, hv⟩, trivial⟩, fun u => ?_⟩
      by_cases q : i < 3
      · exact .inr q
      · exact .inl ⟨⟨tk, v, rfl, fun q' => absurd q' q, hv⟩, trivial⟩
  | cons u fs ih =>
    intro es j hf hj hi h1 h2
    cases es with
    | nil => exact hf.elim
    | cons e es =>
      obtain ⟨⟨t, w, rfl, hw, hh⟩, hf⟩ := hf
      rw [List.length_cons] at h1 h2
      have e0 : (Value.str (fldName j) t).isStr (fldName i) = decide (j = i) := by
        show (fldName j == fldName i) = _
        rw [kk j i (by omega) (by omega)]
      by_cases q : j = i
      · subst q
        have hne : ¬ j = j + (u :: fs).length := by simp
        simp only [putL, e0, decide_true, if_true, if_neg hne, Nat.sub_self, List.set_cons_zero]
        refine ⟨⟨⟨t, v, rfl, fun _ => rfl, hv⟩, hf⟩, fun u' => ?_⟩
        by_cases q : j < 3
        · exact .inr q
        · exact .inl ⟨⟨t, v, rfl, fun q' => absurd q' q, hv⟩, hf⟩
      · have hs : i - j = (i - (j + 1)) + 1 := by omega
        obtain ⟨ih1, ih2⟩ := ih es (j + 1) hf (by omega) hi (by omega) (by omega)
        have he : (i = j + (u :: fs).length) = (i = j + 1 + fs.length) := by rw [List.length_cons, Nat.add_right_comm, Nat.add_assoc]
        simp only [putL, e0, decide_eq_false q, Bool.false_eq_true, if_false, he]
        refine ⟨?_, fun u' => ?_⟩
        · by_cases z : i = j + 1 + fs.length
          · rw [if_pos z] at ih1 ⊢; exact ⟨⟨t, w, rfl, hw, hh⟩, ih1⟩
          · rw [if_neg z] at ih1 ⊢; rw [hs, List.set_cons_succ]; exact ⟨⟨t, w, rfl, hw, hh⟩, ih1⟩
        · rcases ih2 u' with z' | z'
          · left
            by_cases z : i = j + 1 + fs.length
            · rw [if_pos z] at z' ⊢; exact ⟨⟨t, w, rfl, hw, hh⟩, z'⟩
            · rw [if_neg z] at z' ⊢; rw [hs, List.set_cons_succ]; exact ⟨⟨t, w, rfl, hw, hh⟩, z'⟩
          · exact .inr z'

noncomputable def putF (fs : List Value) (i : Nat) (v : Value) : List Value := if i = fs.length then fs ++ [v] else if i < 3 then fs.set i v else fs

theorem flds_len {P : Params} : ∀ {fs : List Value} {es : List DictEntry} {j : Nat}, Flds P j es fs → es.length = fs.length
  | [], [], _, _ => rfl
  | [], _ :: _, _, h => h.elim
  | _ :: _, [], _, h => h.elim
  | _ :: _, _ :: _, _, h => by rw [List.length_cons, List.length_cons, flds_len h.2]
theorem flds_noref {P : Params} {name : Str} : ∀ {fs : List Value} {es : List DictEntry} {j : Nat}, Flds P j es fs → es.any (·.refKey) = false
  | [], [], _, _ => rfl
  | [], _ :: _, _, h => h.elim
  | _ :: _, [], _, h => h.elim
  | _ :: _, e :: es, _, h => by
    obtain ⟨⟨t, u, rfl, _⟩, h⟩ := h
    rw [List.any_cons, flds_noref (name := name) h]; rfl
theorem getL_some {es : List DictEntry} {name : Str} (h : es.any (·.refKey) = false) : (getL name es).isSome = true := by
  unfold getL
  split
  · rfl
  · rw [h]; rfl

theorem W.setAttr (X : VecK G) (hK : c.Ok G n) {x d : Addr} {i : Nat} {fs : List Value} {v : Value} {k : Unit → Vs → DM → Prop} (hx : D x = some (.ins d)) (hd : D d = some (.vdc fs)) (hi : i < 5) (hl' : i ≤ fs.length) (hv : handedIn v = true)
    (hk : k () V (D.put d (.vdc (putF fs i v)))) : W G c σ V D (PySem.setAttr (.ref x) (fldName i) v) k := fun s Q E R q => by
  obtain ⟨es, n', I, ho, hf, hl⟩ := instAt R hx hd
  obtain ⟨m, F⟩ := R.fr
  have hdL := (R.dy d _ hd).1
  have hle := flds_len hf
  refine set_plain (R.K hK) I X.sa ?_
  have Fe : Fr ⟨#[], {}⟩ c.env.locals s.heap m := ⟨F.ns, fun b o e => by simp [Heap.get?] at e, Nat.zero_le _⟩
  have Ne : News ⟨#[], {}⟩ c.env.locals s.heap ([] ++ (d, dictOf es n') :: liveBut s.heap d c.env.locals) := by
    intro p hp
    rcases List.mem_cons.mp hp with rfl | hp
    · exact ⟨ho, hdL, by simp [Heap.get?]⟩
    · obtain ⟨h1, h2, h3⟩ := mem_liveBut.mp hp
      exact ⟨h1, h3, by simp [Heap.get?]⟩
  obtain ⟨f1, f2⟩ := fld_put (P := G.w.params) (i := i) (v := v) (tk := s.toks + 1) hv fs es 0 hf (Nat.zero_le _) hi (by omega) (by omega)
  refine osa_dict (s := { s with toks := s.toks + 1 }) Fe Ne (R.K hK) I rfl X.po (X.tk i hi) (by have := X.hasD; exact this) (by rw [lookIn_dict]; exact getL_some (flds_noref (name := fldName i) hf)) (fun _ h => nomatch h) (fun p hp => (mem_liveBut.mp hp).2.1) (putName_dict ..) rfl ?_ fun h' F' N' => ?_
  · have h3 := flds_len f1
    by_cases z : i = 0 + fs.length
    · rw [if_pos z] at h3; rw [h3]; simp; omega
    · rw [if_neg z] at h3; rw [h3]; simp; omega
  · refine q () V _ h' _ (R.changeE hd rfl (fun b ob hb hbL e => ?_) (fun m' hm' => ?_) (o' := .vdc (putF fs i v)) ?_) hk
    · exact (N' (b, ob) (List.mem_append_right _ (.tail _ (mem_liveBut.mpr ⟨e, hb, hbL⟩)))).1
    · have e1 : m' = m := by
        funext nm
        obtain ⟨o1, es1, ep1, a1, a2, a3, a4⟩ := hm'
        obtain ⟨o2, es2, ep2, b1, b2, b3, b4⟩ := F.ns
        rw [a1] at b1; cases b1
        rw [a2] at b2; cases b2
        exact (a4 nm).symm.trans (b4 nm)
      rw [e1]; exact F'.ns
    · have hh := (N' (d, _) (List.mem_append_right _ (.head _))).1
      unfold putF
      have key : Flds G.w.params 0 (putL (fldName i) (PyData.keyHash G.w.params (fldName i)) (.str (fldName i) (s.toks + 1)) v es) (if i = fs.length then fs ++ [v] else if i < 3 then fs.set i v else fs) := by
        by_cases z : i = fs.length
        · rw [if_pos z]; rw [Nat.zero_add, if_pos z] at f1; exact f1
        · rw [if_neg z]
          by_cases z3 : i < 3
          · rw [if_pos z3]; rw [Nat.zero_add, if_neg z, Nat.sub_zero] at f1; exact f1
          · rw [if_neg z3]
            have hi2 : i < fs.length := by omega
            rcases f2 fs[i] with f2 | f2
            · rw [Nat.zero_add, if_neg z, Nat.sub_zero, List.set_getElem_self] at f2; exact f2
            · exact absurd f2 z3
      refine ⟨?_, _, _, hh, key⟩
      split
      · simp; omega
      · split
        · simpa using hl
        · exact hl
end
end Mine

namespace Mine

/-- what a call may reach: told at every frame that has room -/
noncomputable def Calls (G : Gl) (n : Nat) (f : Addr) (vs : List Value) (D : DM) (k : Value → DM → Prop) : Prop :=
  ∀ (c : Cx) (σ : List Str) (V : Vs) (s : Shared) (R : Result → Shared → Prop), c.Ok G n → Rp G c σ V D s.heap →
    (∀ v D' h' tk', Rp G c σ V D' h' → k v D' → R (.ok (.ret v)) { s with heap := h', toks := tk' }) → codeAny (model G.prog G.w) c.A (.call (.ref f) ⟨vs, []⟩) R s

theorem Calls.mono {G : Gl} {n : Nat} {f : Addr} {vs : List Value} {D : DM} {k k' : Value → DM → Prop} (h : Calls G n f vs D k) (hk : ∀ v D', k v D' → k' v D') : Calls G n f vs D k' :=
  fun c σ V s R hK hR q => h c σ V s R hK hR fun v D' h' tk' R' x => q v D' h' tk' R' (hk v D' x)
theorem Calls.le {G : Gl} {n n' : Nat} {f : Addr} {vs : List Value} {D : DM} {k : Value → DM → Prop} (h : Calls G n f vs D k) (hn : n ≤ n') : Calls G n' f vs D k :=
  fun c σ V s R hK hR q => h c σ V s R (hK.le hn) hR q

inductive Fn where
  | own (a : Addr)
  | vec | len | range | list | str | isinst | abs | max | min
noncomputable def Fn.val (C : Addr) : Fn → Value
  | .own a => .ref a
  | .vec => .ref C
  | .len => .builtin "len"
  | .range => .type "range"
  | .list => .type "list"
  | .str => .type "str"
  | .isinst => .builtin "isinstance"
  | .abs => .builtin "abs"
  | .max => .builtin "max"
  | .min => .builtin "min"

noncomputable def newVec (D : DM) (kd it at_ : Value) (k : Value → DM → Prop) : Prop :=
  ∀ x d, D x = none → D d = none → x ≠ d → k (.ref x) ((D.put d (.vdc [kd, it, at_, .bool false, .bool false])).put x (.ins d))

/-- ints going up by one -/
noncomputable def Ups (lo : Int) (vs : List Value) : Prop := ∀ (i : Nat) (v : Value), vs[i]? = some v → ∃ t, v = .int (lo + i) t

noncomputable def lenR (D : DM) (l : Addr) (k : Nat → Prop) : Prop :=
  (∃ vs, LsAt D l vs ∧ vs.length ≤ big ∧ k vs.length) ∨ (∃ kvs, SdAt D l kvs ∧ kvs.length ≤ big ∧ k kvs.length) ∨ (∃ kvs, D l = some (.di kvs) ∧ kvs.length ≤ big ∧ k kvs.length)

noncomputable def lstR (D : DM) (l : Addr) (k : Value → DM → Prop) : Prop :=
  (∃ vs, LsAt D l vs ∧ vs.length ≤ big ∧ ∀ a, D a = none → k (.ref a) (D.put a (.lst vs))) ∨
  (∃ lo hi, D l = some (.rng lo hi) ∧ (hi - lo).toNat ≤ big ∧ ∀ a vs, D a = none → vs.length = (hi - lo).toNat → Ups lo vs → k (.ref a) (D.put a (.lst vs)))

noncomputable def l1 (vs : List Value) (P : Value → Prop) : Prop := match vs with | [a] => P a | _ => False
noncomputable def l2 (vs : List Value) (P : Value → Value → Prop) : Prop := match vs with | [a, b] => P a b | _ => False
theorem l1_inv {vs : List Value} {P : Value → Prop} (h : l1 vs P) : ∃ a, vs = [a] ∧ P a := by
  match vs, h with
  | [a], h => exact ⟨a, rfl, h⟩
theorem l2_inv {vs : List Value} {P : Value → Value → Prop} (h : l2 vs P) : ∃ a b, vs = [a, b] ∧ P a b := by
  match vs, h with
  | [a, b], h => exact ⟨a, b, rfl, h⟩
noncomputable def vecC (vs : List Value) (D : DM) (k : Value → DM → Prop) : Prop := match vs with
  | [kd, it] => handedIn kd = true ∧ handedIn it = true ∧ newVec D kd it .none k
  | [kd, it, at_] => handedIn kd = true ∧ handedIn it = true ∧ handedIn at_ = true ∧ newVec D kd it at_ k
  | _ => False
noncomputable def rngC (vs : List Value) (D : DM) (k : Value → DM → Prop) : Prop := match vs with
  | [a] => onInt a fun hi => -(2 ^ 40) < hi ∧ hi < 2 ^ 40 ∧ ∀ a, D a = none → k (.ref a) (D.put a (.rng 0 hi))
  | [a, b] => ints2 a b fun lo hi => -(2 ^ 40) < lo ∧ lo < 2 ^ 40 ∧ -(2 ^ 40) < hi ∧ hi < 2 ^ 40 ∧ ∀ a, D a = none → k (.ref a) (D.put a (.rng lo hi))
  | _ => False
theorem vecC_inv {vs : List Value} {D : DM} {k : Value → DM → Prop} (h : vecC vs D k) :
    (∃ kd it, vs = [kd, it] ∧ handedIn kd = true ∧ handedIn it = true ∧ newVec D kd it .none k) ∨ (∃ kd it at_, vs = [kd, it, at_] ∧ handedIn kd = true ∧ handedIn it = true ∧ handedIn at_ = true ∧ newVec D kd it at_ k) := by
  match vs, h with
  | [a, b], h => exact .inl ⟨a, b, rfl, h⟩
  | [a, b, c], h => exact .inr ⟨a, b, c, rfl, h⟩
theorem rngC_inv {vs : List Value} {D : DM} {k : Value → DM → Prop} (h : rngC vs D k) :
    (∃ hi t, vs = [.int hi t] ∧ -(2 ^ 40) < hi ∧ hi < 2 ^ 40 ∧ ∀ a, D a = none → k (.ref a) (D.put a (.rng 0 hi))) ∨
    (∃ lo t hi u, vs = [.int lo t, .int hi u] ∧ -(2 ^ 40) < lo ∧ lo < 2 ^ 40 ∧ -(2 ^ 40) < hi ∧ hi < 2 ^ 40 ∧ ∀ a, D a = none → k (.ref a) (D.put a (.rng lo hi))) := by
  match vs, h with
  | [a], h => replace h := onInt_inv h; obtain ⟨x, t, rfl, h⟩ := h; exact .inl ⟨x, t, rfl, h⟩
  | [a, b], h => replace h := ints2_inv h; obtain ⟨x, t, y, u, rfl, rfl, h⟩ := h; exact .inr ⟨x, t, y, u, rfl, h⟩

noncomputable def callR (G : Gl) (n : Nat) (f : Fn) (vs : List Value) (D : DM) (k : Value → DM → Prop) : Prop := match f with
  | .own a => Calls G n a vs D k
  | .vec => vecC vs D k
  | .len => l1 vs fun a => onRef a fun l => lenR D l fun m => ∀ t, k (.int m t) D
  | .range => rngC vs D k
  | .list => l1 vs fun a => onRef a fun l => lstR D l k
  | .str => l1 vs fun a => onInt a fun i => i.natAbs < 2 ^ 64 ∧ ∀ t, k (.str (Str.ofString (toString i)) t) D
  | .isinst => l2 vs fun a b => onRef a fun x => onRef b fun C => C = G.C ∧ (∃ d, D x = some (.ins d)) ∧ k (.bool true) D
  | .abs => l1 vs fun a => onInt a fun i => ∀ t, k (.int i.natAbs t) D
  | .max => l2 vs fun a b => ints2 a b fun a b => ∀ t, k (.int (max a b) t) D
  | .min => l2 vs fun a b => ints2 a b fun a b => ∀ t, k (.int (min a b) t) D

section
variable {G : Gl} {c : Cx} {n : Nat} {σ : List Str} {V : Vs} {D : DM}

theorem W.ofCalls {f : Addr} {vs : List Value} {k : Value → Vs → DM → Prop} (hK : c.Ok G n) (h : Calls G n f vs D fun v D' => k v V D') : W G c σ V D (call (.ref f) vs) k := fun s Q E R q =>
  wpAny_call (h c σ V s _ hK R fun v D' h' tk' R' hk => q v V D' h' tk' R' hk)

theorem W.len {l : Addr} {k : Value → Vs → DM → Prop} (h : lenR D l fun m => ∀ t, k (.int m t) V D) : W G c σ V D (call (.builtin "len") [.ref l]) k := W.same fun s Q E R q => by
  have hb : big < 2 ^ 62 := by decide
  rcases h with ⟨vs, hl, hb', hk⟩ | ⟨kvs, hl, hb', hk⟩ | ⟨kvs, hl, hb', hk⟩
  · refine Calls.call_len_list (hl.isList R) ?_ (by simpa using q _ _ (hk _))
    rw [List.size_toArray]; omega
  · obtain ⟨h3, h4⟩ := hl.dictOf R
    exact call_len_dict h3 h4 (by omega) (q _ _ (hk _))
  · obtain ⟨_, _, h3, _, h4⟩ := R.dy l _ hl
    exact call_len_dict (h3 rfl).2.1 h4 (by omega) (q _ _ (hk _))

theorem small_of {lo hi : Int} (h1 : -(2 ^ 40) < lo) (h2 : lo < 2 ^ 40) (h3 : -(2 ^ 40) < hi) (h4 : hi < 2 ^ 40) : Builtin.Range.small lo hi 1 = true := by
  exact small_one (by omega) (by omega) (by omega) (by omega)

theorem W.range1 {hi : Int} {t : Tok} {k : Value → Vs → DM → Prop} (hK : c.Ok G n) (h1 : -(2 ^ 40) < hi) (h2 : hi < 2 ^ 40) (hk : ∀ a, D a = none → k (.ref a) V (D.put a (.rng 0 hi))) : W G c σ V D (call (.type "range") [.int hi t]) k := fun s Q E R q =>
  call_range_1 (q _ _ _ _ _ (R.alloc hK (a := .rng 0 hi) ⟨⟨_, _, _, Heap.get?_push_size _ rfl⟩, small_of (by decide) (by decide) h1 h2⟩) (hk _ R.fresh))
theorem W.range2 {lo hi : Int} {t u : Tok} {k : Value → Vs → DM → Prop} (hK : c.Ok G n) (h1 : -(2 ^ 40) < lo) (h2 : lo < 2 ^ 40) (h3 : -(2 ^ 40) < hi) (h4 : hi < 2 ^ 40) (hk : ∀ a, D a = none → k (.ref a) V (D.put a (.rng lo hi))) :
    W G c σ V D (call (.type "range") [.int lo t, .int hi u]) k := fun s Q E R q =>
  call_range_2 (q _ _ _ _ _ (R.alloc hK (a := .rng lo hi) ⟨⟨_, _, _, Heap.get?_push_size _ rfl⟩, small_of h1 h2 h3 h4⟩) (hk _ R.fresh))

theorem rangeSize_one (lo hi : Int) : Builtin.Range.rangeSize lo hi 1 = ((hi - lo).toNat : Int) := by
  unfold Builtin.Range.rangeSize
  simp
  split <;> omega

theorem W.list {l : Addr} {k : Value → Vs → DM → Prop} (hK : c.Ok G n) (h : lstR D l fun v D' => k v V D') : W G c σ V D (call (.type "list") [.ref l]) k := fun s Q E R q => by
  rcases h with ⟨vs, hl, hb, hk⟩ | ⟨lo, hi, hl, hb, hk⟩
  · obtain ⟨o, ho, hc, m, hd⟩ := hl.isList R
    refine call_list_seq l (.inl rfl) ho hc hd (fun h' c' hh hx => ?_) (by simpa using Nat.le_trans hb big_le)
    exact q _ _ _ h' s.toks ((R.keeps hh).add (R.free hK _ (Nat.le_refl _)) (o := .lst vs) ⟨c', hx⟩) (hk _ R.fresh)
  · obtain ⟨⟨t, u, v, hr⟩, hs⟩ := (R.dy l _ hl).2.2.2.2
    refine call_list_range hK.handled hr hs (rangeSize_one lo hi) (Nat.le_trans hb (by decide)) fun h' tk acc' c' hh hx hI => ?_
    refine q _ _ _ h' tk ((R.keeps hh).add (R.free hK _ (Nat.le_refl _)) (o := .lst acc'.toList) ⟨c', by simpa using hx⟩) (hk _ _ R.fresh (by simpa using hI.1) fun i v hv => ?_)
    obtain ⟨t', e⟩ := hI.2 i v (by simpa using hv)
    exact ⟨t', by rw [e, Int.mul_one]⟩

theorem W.strInt {i : Int} {t : Tok} {k : Value → Vs → DM → Prop} (hi : i.natAbs < 2 ^ 64) (hk : ∀ t, k (.str (Str.ofString (toString i)) t) V D) : W G c σ V D (call (.type "str") [.int i t]) k := W.same fun s Q E R q =>
  P.str_of_int (by
    by_cases h0 : i.natAbs = 0
    · rw [h0]; decide
    · have := (Nat.log2_lt h0).mpr hi
      omega) (q _ _ (hk _))

theorem W.absInt {i : Int} {t : Tok} {k : Value → Vs → DM → Prop} (hk : ∀ t, k (.int i.natAbs t) V D) : W G c σ V D (call (.builtin "abs") [.int i t]) k := W.same fun s Q E R q =>
  call_abs_int fun u tk => by
    have e : (if i < 0 then -i else i) = (i.natAbs : Int) := by split <;> omega
    rw [e]; exact q _ _ (hk _)
theorem W.maxInt {a b : Int} {t u : Tok} {k : Value → Vs → DM → Prop} (hK : c.Ok G n) (hk : ∀ t, k (.int (max a b) t) V D) : W G c σ V D (call (.builtin "max") [.int a t, .int b u]) k := fun s Q E R q =>
  max_two_ints hK.handled fun h' tk hh => by
    by_cases z : b > a
    · rw [if_pos z]; have : max a b = b := by omega
      exact q _ _ _ h' tk (R.keeps hh) (by rw [← this]; exact hk _)
    · rw [if_neg z]; have : max a b = a := by omega
      exact q _ _ _ h' tk (R.keeps hh) (by have := hk t; rwa [‹max a b = a›] at this)
theorem W.minInt {a b : Int} {t u : Tok} {k : Value → Vs → DM → Prop} (hK : c.Ok G n) (hk : ∀ t, k (.int (min a b) t) V D) : W G c σ V D (call (.builtin "min") [.int a t, .int b u]) k := fun s Q E R q =>
  min_two_ints hK.handled fun h' tk hh => by
    by_cases z : b < a
    · rw [if_pos z]; have e : min a b = b := by omega
      exact q _ _ _ h' tk (R.keeps hh) (by have := hk u; rwa [e] at this)
    · rw [if_neg z]; have e : min a b = a := by omega
      exact q _ _ _ h' tk (R.keeps hh) (by have := hk t; rwa [e] at this)

theorem W.isinst {x d : Addr} {k : Value → Vs → DM → Prop} (hK : c.Ok G n) (hi : isIn G.K (.ref G.C) G.C = true) (hx : D x = some (.ins d)) (hk : k (.bool true) V D) : W G c σ V D (call (.builtin "isinstance") [.ref x, .ref G.C]) k := W.same fun s Q E R q => by
  have hX : s.heap.get? x = some (instObj G.C d) := (R.dy x _ hx).2.2.2.2
  refine isi_call (K := G.K) (t := .ref G.C) (R.K hK) (fun M => ?_) hi (fun e => by cases e) (q _ s.toks hk)
  exact (Looks.ld hX).andThen .now

/-- an object's making, up to its __init__ -/
structure MakeK (G : Gl) (f : Addr) : Prop where
  mkI : makesIn G.K G.C = true
  init : findIn G.K (.ref G.C) "__init__" = some (some (.ref f))
  fn : typeIn G.K (.ref f) = some (.type "function")

theorem Cx.Ok.make {vs : List Value} (hK : c.Ok G (n + 1)) : Cx.Ok G { c with A := c.A.under (.builtin "type.__call__" ⟨.ref G.C :: vs, []⟩) } n where
  g := hK.g
  globals := hK.globals
  builtins := hK.builtins
  kind := hK.kind
  depth := by have := hK.depth; show c.A.depth + 1 + 2 * n + 200 < recursionLimit; omega
  frames := hK.frames
  units := by have := hK.units; show c.A.units + 1 + 16 * n + 16 < cLine; omega
  handled := hK.handled
  cells := hK.cells

theorem W.make {f : Addr} (M : MakeK G f) (hK : c.Ok G (n + 1)) {vs : List Value} {k : Value → Vs → DM → Prop}
    (h : ∀ x d, D x = none → D d = none → x ≠ d → Calls G n f (.ref x :: vs) ((D.put d (.vdc [])).put x (.ins d)) fun v D' => v = .none ∧ k (.ref x) V D') : W G c σ V D (call (.ref G.C) vs) k := fun s Q E R q => by
  refine wpAny_call ?_
  obtain ⟨hh, g, dr, tk, os⟩ := s
  have R1 := R.alloc hK (o := emptyDict) (a := .vdc []) ⟨by decide, [], 0, Heap.get?_push_size _ rfl, trivial⟩
  have R2 := R1.alloc hK (o := instObj G.C hh.objs.size) (a := .ins hh.objs.size) (Heap.get?_push_size _ rfl)
  have e1 : (hh.push emptyDict).objs.size = hh.objs.size + 1 := Heap.size_push ..
  rw [e1] at R2
  have hne : hh.objs.size + 1 ≠ hh.objs.size := Nat.succ_ne_self _
  refine make_core (makes_of (R.K hK) M.mkI) (looks_findIn (R.K hK) M.init) (fun self => bind_fn (R.K hK) self M.fn) (.inl rfl) ?_
  refine h (hh.objs.size + 1) hh.objs.size (R.free hK _ (Nat.le_succ _)).dy R.fresh hne { c with A := c.A.under (.builtin "type.__call__" ⟨.ref G.C :: vs, []⟩) } σ V ⟨(hh.push emptyDict).push (instObj G.C hh.objs.size), g, dr, tk, os⟩ _ hK.make ⟨R2.vr, R2.cl, R2.dy, R2.pr⟩ fun v D' h' tk' R' hk => ?_
  obtain ⟨rfl, hk⟩ := hk
  exact ⟨rfl, q _ V D' h' tk' ⟨R'.vr, R'.cl, R'.dy, R'.pr⟩ hk⟩
end
end Mine

namespace Mine

noncomputable def Cx.guard (c : Cx) (a : Addr) (o : Obj) : Cx := { c with prot := fun b => if b = a then some o else c.prot b }
theorem Cx.guard_same (c : Cx) (a : Addr) (o : Obj) : (c.guard a o).prot a = some o := by simp [Cx.guard]
theorem Cx.guard_ne (c : Cx) {a b : Addr} (o : Obj) (h : b ≠ a) : (c.guard a o).prot b = c.prot b := by simp [Cx.guard, h]

section
variable {G : Gl} {c : Cx} {n : Nat} {σ : List Str} {V : Vs} {D : DM} {h h' : Heap}

theorem Cx.Ok.guard (hK : c.Ok G n) (a : Addr) (o : Obj) : (c.guard a o).Ok G n := ⟨hK.g, hK.globals, hK.builtins, hK.kind, hK.depth, hK.frames, hK.units, hK.handled, hK.cells⟩

/-- where no name, no cell and no thing of ours stands -/
structure Off (G : Gl) (c : Cx) (a : Addr) : Prop where
  loc : a ≠ c.env.locals
  cel : ∀ x ∈ c.env.cells, a ≠ x.2
  old : G.h₀.get? a = none
  prt : c.prot a = none

theorem Free.off {a : Addr} (x : Free G c D a) : Off G c a := ⟨x.loc, x.cel, x.old, x.prt⟩

theorem Rp.guard (R : Rp G c σ V D h) {a : Addr} {o : Obj} (x : Off G c a) (hd : D a = none) (ho : h.get? a = some o) : Rp G (c.guard a o) σ V D h := by
  refine ⟨R.vr, fun y hy => ?_, fun b ob e => ?_, fun b ob e => ?_⟩
  · obtain ⟨h1, h2, h3⟩ := R.cl y hy
    exact ⟨h1, h2, fun q => ⟨(h3 q).1, (Cx.guard_ne c o (Ne.symm (x.cel y hy))).trans (h3 q).2⟩⟩
  · obtain ⟨h1, h2, h3, h3', h4⟩ := R.dy b ob e
    refine ⟨h1, h2, fun q => ⟨(h3 q).1, (h3 q).2.1, (Cx.guard_ne c o fun q' => ?_).trans (h3 q).2.2⟩, h3', h4⟩
    rw [q', hd] at e; cases e
  · by_cases q : b = a
    · subst q
      rw [Cx.guard_same] at e; cases e
      exact ⟨ho, x.loc⟩
    · rw [Cx.guard_ne _ _ q] at e
      exact R.pr b ob e

theorem Rp.guarded {a : Addr} {o : Obj} (R : Rp G (c.guard a o) σ V D h) : h.get? a = some o := (R.pr a o (Cx.guard_same ..)).1

/-- nothing of ours stands at a guarded place -/
theorem Rp.guard_dy {a : Addr} {o : Obj} (R : Rp G (c.guard a o) σ V D h) (hc : G.h₀.get? a = none) : D a = none := by
  cases e : D a with
  | none => rfl
  | some q =>
    obtain ⟨_, _, h3, h3', h4⟩ := R.dy a q e
    cases hw : q.rw with
    | true => have := (h3 hw).2.2; rw [Cx.guard_same] at this; cases this
    | false => have := h3' hw; rw [hc] at this; cases this

theorem Rp.unguard {a : Addr} {o : Obj} (R : Rp G (c.guard a o) σ V D h) (x : Off G c a) (hd : D a = none) (hk : ∀ b ob, b ≠ a → h.get? b = some ob → h'.get? b = some ob) : Rp G c σ V D h' := by
  obtain ⟨m, F, hv⟩ := R.vr
  have hLa : c.env.locals ≠ a := Ne.symm x.loc
  have old : ∀ b ob, G.h₀.get? b = some ob → b ≠ a := fun b ob e q => by rw [q, x.old] at e; cases e
  refine ⟨⟨m, ⟨?_, fun b ob e => hk b ob (old b ob e) (F.keep b ob e), F.above⟩, fun i id v e1 e2 => (hv i id v e1 e2).keep fun y hy ob eo => hk _ _ (Ne.symm (x.cel y hy)) eo⟩, fun y hy => ?_, fun b ob e => ?_, fun b ob e => ?_⟩
  · obtain ⟨ol, es, ep, hl, r⟩ := F.ns
    exact ⟨ol, es, ep, hk _ _ hLa hl, r⟩
  · obtain ⟨⟨v, ob, ho, hd'⟩, h2, h3⟩ := R.cl y hy
    exact ⟨⟨v, ob, hk _ _ (Ne.symm (x.cel y hy)) ho, hd'⟩, h2, fun q => ⟨(h3 q).1, (Cx.guard_ne c o (Ne.symm (x.cel y hy))).symm.trans (h3 q).2⟩⟩
  · have hb : b ≠ a := fun q => by rw [q, hd] at e; cases e
    obtain ⟨h1, h2, h3, h3', h4⟩ := R.dy b ob e
    exact ⟨h1, h2, fun q => ⟨(h3 q).1, (h3 q).2.1, (Cx.guard_ne c o hb).symm.trans (h3 q).2.2⟩, h3', h4.at fun o' eo => hk b o' hb eo⟩
  · have hb : b ≠ a := fun q => by rw [q, x.prt] at e; cases e
    obtain ⟨h1, h2⟩ := R.pr b ob ((Cx.guard_ne c o hb).trans e)
    exact ⟨hk b ob hb h1, h2⟩

theorem Rp.reguard {a : Addr} {o o' : Obj} (R : Rp G (c.guard a o) σ V D h) (x : Off G c a) (hd : D a = none) (hs : Heap.SameBut a h h') (ho : h'.get? a = some o') : Rp G (c.guard a o') σ V D h' :=
  (R.unguard x hd fun b ob hb e => (hs.2 b hb).trans e).guard x hd ho

structure Iter (G : Gl) (A : Around) (cond : Heap → Prop) (it : Addr) (m : Nat) (item : Nat → Value → Prop) (P : Nat → Obj → Prop) : Prop where
  self : ∀ (s : Shared) (Q : Value → Shared → Prop) (E : Value → Shared → Prop) o, s.heap.get? it = some o → P 0 o → Q (.ref it) s → wpAny (model G.prog G.w) A (pyIter (.ref it)) Q E s
  next : ∀ (i : Nat) (s : Shared) (Q : Option Value → Shared → Prop) (E : Value → Shared → Prop) o, cond s.heap → s.heap.get? it = some o → P i o → i < m →
    (∀ v o' h' tk', item i v → P (i + 1) o' → h'.get? it = some o' → Heap.SameBut it s.heap h' → Q (some v) { s with heap := h', toks := tk' }) → wpAny (model G.prog G.w) A (pyNext (.ref it)) Q E s
  fin : ∀ (s : Shared) (Q : Option Value → Shared → Prop) (E : Value → Shared → Prop) o, cond s.heap → s.heap.get? it = some o → P m o →
    (∀ h' tk', Heap.ExtBut it s.heap h' → Q none { s with heap := h', toks := tk' }) → wpAny (model G.prog G.w) A (pyNext (.ref it)) Q E s

theorem iterList {A : Around} (hh : A.handled = none) (it l : Addr) (vs : List Value) :
    Iter G A (fun h => h.IsList l vs.toArray) it vs.length (fun i v => vs[i]? = some v) (fun i o => o.cls = .type "list_iterator" ∧ o.data = .fields #[.ref l, .int i 0]) where
  self := fun s Q E o ho p q => wpAny_pyIter_listiter ⟨o, ho, p.1, p.2⟩ q
  next := fun i s Q E o hc ho p hi q => by
    refine wpAny_pyNext_list_item (x := vs[i]) ⟨o, ho, p.1, p.2⟩ hc (by simpa using hi) fun h' hit hs => ?_
    obtain ⟨o', ho', h1, h2⟩ := hit
    exact q _ o' h' s.toks (by simp [hi]) ⟨h1, h2⟩ ho' hs
  fin := fun s Q E o hc ho p q => wpAny_pyNext_list_end hh ⟨o, ho, p.1, p.2⟩ hc (by simp) fun h' hs => q h' s.toks hs

theorem iterRange {A : Around} (hh : A.handled = none) (it : Addr) (lo : Int) (m : Nat) :
    Iter G A (fun _ => True) it m (fun i v => ∃ t, v = .int (lo + i) t) (fun i o => o = { cls := .type "range_iterator", data := .fields #[rawInt (lo + i), rawInt ((m : Int) - i), rawInt 1] }) where
  self := fun s Q E o ho p q => by
    subst p
    exact wpAny_pyIter_rangeiter (it := it) ho q
  next := fun i s Q E o hc ho p hi q => by
    subst p
    refine wpAny_pyNext_range_item (it := it) (x := lo + i) (left := (m : Int) - i) (step := 1) ho (by omega) fun h' hit hs => ?_
    refine q _ _ h' _ ⟨_, rfl⟩ ?_ hit hs
    have e1 : lo + ((i + 1 : Nat) : Int) = lo + i + 1 := by omega
    have e2 : (m : Int) - ((i + 1 : Nat) : Int) = (m : Int) - i - 1 := by omega
    rw [e1, e2]
  fin := fun s Q E o hc ho p q => by
    subst p
    exact wpAny_pyNext_range_end (it := it) (x := lo + m) (left := (m : Int) - m) (step := 1) hh ho (by omega) fun h' hs => q h' s.toks hs

theorem iterDict {A : Around} (hh : A.handled = none) (it l : Addr) (kvs : List (Str × Value)) (ep : Nat) :
    Iter G A (fun h => h.DictAt (strKind G.prog G.w) l kvs ep) it kvs.length (fun i v => ∃ x u t, kvs[i]? = some (x, u) ∧ v = .str x t)
      (fun i o => o.cls = .type "dict_keyiterator" ∧ o.data = .fields #[.ref l, .int i 0, .int kvs.length 0, .int ep 0]) where
  self := fun s Q E o ho p q => wpAny_pyIter_keyiter ⟨o, ho, p.1, p.2⟩ q
  next := fun i s Q E o hc ho p hi q => by
    refine wpAny_pyNext_dict_item (k := kvs[i].1) (v := kvs[i].2) ⟨o, ho, p.1, p.2⟩ hc (by simp [hi]) fun key h' hk hit hs => ?_
    obtain ⟨o', ho', h1, h2⟩ := hit
    obtain ⟨t, rfl⟩ := Value.isStrOf_shape hk
    exact q _ o' h' s.toks ⟨kvs[i].1, kvs[i].2, t, by simp [hi], rfl⟩ ⟨h1, h2⟩ ho' hs
  fin := fun s Q E o hc ho p q => wpAny_pyNext_dict_end hh ⟨o, ho, p.1, p.2⟩ hc (by simp) fun h' hs => q h' s.toks hs

/-- how a statement ends, told of a turn -/
noncomputable def flowK (k : Flow → Vs → DM → Prop) (next : Vs → DM → Prop) : Flow → Vs → DM → Prop
  | .next, V, D => next V D
  | .cont, V, D => next V D
  | .brk, _, _ => False
  | .ret v, V, D => k (.ret v) V D

theorem forIter (hK : c.Ok G n) {s : Shared} (R : Rp G c σ V D s.heap) {it m : _} {o₀ : Obj} {item : Nat → Value → Prop} {P : Nat → Obj → Prop} {cond : Heap → Prop} (X : Iter G c.A cond it m item P)
    (h₀ : s.heap.get? it = some o₀) (p₀ : P 0 o₀) (hF : Off G c it) (hd₀ : D it = none) {x : Nat} {id : Str} {px : Pos} {body : List Stmt} (hσ : σ[x]? = some id) (hu : ∀ j, σ[j]? = some id → j = x)
    (hkd : c.env.kindOf id = some .local ∨ (c.own = true ∧ c.env.kindOf id = some .cell ∧ (c.env.cells.lookup id).isSome = true)) {k : Flow → Vs → DM → Prop}
    (I : Nat → Vs → DM → Prop) (hI : I 0 V D) (hc : ∀ i V1 D1 h, Rp G c σ V1 D1 h → I i V1 D1 → cond h)
    (turn : ∀ o i v V1 D1, item i v → i < m → I i V1 D1 → W G (c.guard it o) σ (V1.set x (some v)) D1 (execs body c.env) (flowK k (I (i + 1))))
    (done : ∀ V1 D1, I m V1 D1 → k .next V1 D1) {RR : Result → Shared → Prop}
    (hR : ∀ f V' D' h' tk', Rp G c σ V' D' h' → k f V' D' → RR (.ok f) { s with heap := h', toks := tk' }) : codeAny (model G.prog G.w) c.A (.forLoop (.Name id px) (.ref it) body [] c.env) RR s := by
  have key : ∀ {V1 D1 h o}, Rp G (c.guard it o) σ V1 D1 h → Rp G c σ V1 D1 h := fun R1 => R1.unguard hF (R1.guard_dy hF.old) fun _ _ _ e => e
  refine codeAny_forLoop (fun N s' => ∃ i V1 D1 o h tk, N = m - i ∧ i ≤ m ∧ s' = { s with heap := h, toks := tk } ∧ Rp G (c.guard it o) σ V1 D1 h ∧ P i o ∧ I i V1 D1) ?_ m
    ⟨0, V, D, o₀, s.heap, s.toks, rfl, Nat.zero_le _, rfl, R.guard hF hd₀ h₀, p₀, hI⟩ (fun _ => rfl)
  rintro N _ ⟨i, V1, D1, o, h, tk, rfl, hi, rfl, R1, hp, hI1⟩
  have hcond := hc i V1 D1 h (key R1) hI1
  rcases Nat.lt_or_eq_of_le hi with hlt | rfl
  · refine X.next i _ _ _ o hcond R1.guarded hp hlt fun v o' h' tk' hv hp' ho' hs => ?_
    have R2 := R1.reguard hF (R1.guard_dy hF.old) hs ho'
    refine wpAny_assign_Name ?_
    have hK' : (c.guard it o').Ok G n := hK.guard it o'
    refine W.store (c := c.guard it o') hK' hσ hu hkd (k := fun _ V2 D2 => V2 = V1.set x (some v) ∧ D2 = D1) ⟨rfl, rfl⟩ _ _ _ R2 fun _ V2 D2 h2 tk2 R3 e => ?_
    obtain ⟨rfl, rfl⟩ := e
    refine turn o' i v V1 D2 hv hlt hI1 _ _ _ R3 fun f V3 D3 h3 tk3 R4 hk => ?_
    cases f with
    | next => exact ⟨m - (i + 1), by omega, i + 1, V3, D3, o', h3, tk3, rfl, hlt, rfl, R4, hp', hk⟩
    | cont => exact ⟨m - (i + 1), by omega, i + 1, V3, D3, o', h3, tk3, rfl, hlt, rfl, R4, hp', hk⟩
    | brk => exact hk.elim
    | ret u => exact hR _ V3 D3 h3 tk3 (key R4) hk
  · refine X.fin _ _ _ o hcond R1.guarded hp fun h' tk' hs => ?_
    exact wpAny_execs_nil (hR _ V1 D1 h' tk' (R1.unguard hF (R1.guard_dy hF.old) fun b ob hb e => hs b ob hb e) (done V1 D1 hI1))
end
end Mine

namespace Mine

noncomputable def closeL (cells : List (Str × Addr)) : List (Str × NameKind) → List (Str × Addr) → List (Str × Addr)
  | [], acc => acc
  | (nm, k) :: r, acc => if (k == .free) = true then closeL cells r ((nm, (cells.lookup nm).getD 0) :: acc) else closeL cells r acc

theorem closure_eq {scope : Scope} {env : Env} (h : ∀ x ∈ scope.names, x.2 = .free → (env.cells.lookup x.1).isSome = true) : closureFor scope env = pure (closeL env.cells scope.names []) := by
  unfold closureFor
  have key : ∀ (names : List (Str × NameKind)) (acc : List (Str × Addr)), (∀ x ∈ names, x.2 = .free → (env.cells.lookup x.1).isSome = true) →
      (forIn names acc fun x cs => match x with
        | (name, kind) => if (kind == NameKind.free) = true then do let c ← cellOf env name; pure (ForInStep.yield ((name, c) :: cs)) else pure (ForInStep.yield cs) : Sem (List (Str × Addr))) = pure (closeL env.cells names acc) := by
    intro names
    induction names with
    | nil => intro acc _; rfl
    | cons y r ih =>
      intro acc hh
      obtain ⟨nm, kd⟩ := y
      rw [List.forIn_cons]
      by_cases hk : (kd == NameKind.free) = true
      · have hs := hh (nm, kd) (.head _) (eq_of_beq hk)
        obtain ⟨ca, hca⟩ := Option.isSome_iff_exists.mp hs
        have e1 : cellOf env nm = pure ca := by unfold cellOf; simp only at hca; rw [hca]
        simp only [hk, if_true, e1, closeL, hca, Option.getD_some]
        exact ih _ fun x hx => hh x (.tail _ hx)
      · simp only [hk, closeL]
        exact ih _ fun x hx => hh x (.tail _ hx)
  have := key scope.names [] h
  rw [show (do
      let mut cs := []
      for (name, kind) in scope.names do
        if kind == .free then cs := (name, ← cellOf env name) :: cs
      return cs : Sem (List (Str × Addr))) = _ from rfl]
  exact (congrArg (fun t : Sem (List (Str × Addr)) => t >>= fun cs => pure cs) this).trans rfl

theorem closeL_mem {cells : List (Str × Addr)} : ∀ {names : List (Str × NameKind)} {acc : List (Str × Addr)}, (∀ x ∈ names, x.2 = .free → (cells.lookup x.1).isSome = true) → (∀ p ∈ acc, cells.lookup p.1 = some p.2) →
    (∀ p ∈ closeL cells names acc, cells.lookup p.1 = some p.2) ∧ (∀ p ∈ acc, p ∈ closeL cells names acc) ∧ ∀ x ∈ names, x.2 = .free → ∃ p ∈ closeL cells names acc, p.1 = x.1 := by
  intro names
  induction names with
  | nil => exact fun _ h => ⟨h, fun _ hp => hp, fun _ hx => nomatch hx⟩
  | cons y r ih =>
    obtain ⟨nm, kd⟩ := y
    intro acc hs hacc
    by_cases hk : (kd == NameKind.free) = true
    · have hs' := hs (nm, kd) (.head _) (eq_of_beq hk)
      obtain ⟨ca, hca⟩ := Option.isSome_iff_exists.mp hs'
      simp only at hca
      simp only [closeL, hk, if_true]
      obtain ⟨i1, i2, i3⟩ := ih (acc := (nm, (cells.lookup nm).getD 0) :: acc) (fun x hx => hs x (.tail _ hx)) fun p hp => by
        cases hp with
        | head => simp [hca]
        | tail _ hp => exact hacc p hp
      refine ⟨i1, fun p hp => i2 p (.tail _ hp), fun x hx hf => ?_⟩
      cases hx with
      | head => exact ⟨_, i2 _ (.head _), rfl⟩
      | tail _ hx => exact i3 x hx hf
    · have hk' : (kd == NameKind.free) = false := by simpa using hk
      simp only [closeL, hk', Bool.false_eq_true, if_false]
      obtain ⟨i1, i2, i3⟩ := ih (acc := acc) (fun x hx => hs x (.tail _ hx)) hacc
      refine ⟨i1, i2, fun x hx hf => ?_⟩
      cases hx with
      | head => exact absurd hf (by simpa using hk)
      | tail _ hx => exact i3 x hx hf

theorem lookup_of_all {l : List (Str × Addr)} {id : Str} {b : Addr} (h1 : ∀ p ∈ l, p.1 = id → p.2 = b) (h2 : ∃ p ∈ l, p.1 = id) : l.lookup id = some b := by
  induction l with
  | nil => obtain ⟨_, hp, _⟩ := h2; cases hp
  | cons x r ih =>
    obtain ⟨a, v⟩ := x
    rw [List.lookup_cons]
    by_cases e : (id == a) = true
    · rw [e]; exact congrArg some (h1 (a, v) (.head _) (eq_of_beq e).symm)
    · have e' : (id == a) = false := by simpa using e
      rw [e']
      refine ih (fun p hp => h1 p (.tail _ hp)) ?_
      obtain ⟨p, hp, hq⟩ := h2
      cases hp with
      | head => exact absurd (by simp at hq; simp [hq]) e
      | tail _ hp => exact ⟨p, hp, hq⟩

theorem lookup_relabel {env : Env} {x : Str} : ∀ (names : List (Str × NameKind)), (names.map fun (n, k) => if (k == NameKind.free && env.scope.kind == .function && env.kindOf n == some .cell) = true then (n, NameKind.cell) else (n, k)).lookup x =
    (names.lookup x).map fun k => if (k == NameKind.free && env.scope.kind == .function && env.kindOf x == some .cell) = true then NameKind.cell else k
  | [] => rfl
  | (a, k) :: r => by
    have ih := lookup_relabel (env := env) (x := x) r
    rw [List.map_cons]
    have e1 : (if (k == NameKind.free && env.scope.kind == .function && env.kindOf a == some .cell) = true then (a, NameKind.cell) else (a, k)) = (a, if (k == NameKind.free && env.scope.kind == .function && env.kindOf a == some .cell) = true then NameKind.cell else k) := by
      split <;> rfl
    show List.lookup x ((if (k == NameKind.free && env.scope.kind == .function && env.kindOf a == some .cell) = true then (a, NameKind.cell) else (a, k)) :: _) = _
    rw [e1, List.lookup_cons, List.lookup_cons]
    cases hx : (x == a) with
    | true => rw [eq_of_beq hx]; rfl
    | false => exact ih

noncomputable def Cx.inner (c : Cx) (env2 : Env) (h₁ : Heap) : Cx :=
  { A := c.A, env := env2, own := false, prot := fun b => if (b == c.env.locals || c.env.cells.any fun x => x.2 == b) = true then h₁.get? b else c.prot b }

noncomputable def blankT (xid : Str) (σ : List Str) (x : Nat) : List Str := (σ.map fun s => if s = xid then Str.empty else s).set x xid

/-- what the names of a comprehension's block must be -/
structure Blk (c : Cx) (σ : List Str) (scope : Scope) (x : Nat) (xid : Str) : Prop where
  kind : scope.kind = .function
  ckind : c.env.scope.kind = .function
  nocell : ∀ y ∈ scope.names, y.2 ≠ .cell
  free : ∀ y ∈ scope.names, y.2 = .free → (c.env.cells.lookup y.1).isSome = true ∧ c.env.kindOf y.1 = some .cell
  loc : ∀ y ∈ scope.names, y.2 = .local → (y.1 = xid ∨ y.1 = Str.ofString ".0") ∧ scope.names.lookup y.1 = some .local
  own : scope.names.lookup xid = some .local
  blank : scope.names.lookup Str.empty = none
  dot : ∀ s ∈ σ, s ≠ Str.ofString ".0"
  ne : xid ≠ Str.ofString ".0"
  lt : x < σ.length

section
variable {G : Gl} {c : Cx} {n : Nat} {σ : List Str} {V : Vs} {D : DM} {h h' : Heap}

theorem Cx.Ok.inner (hK : c.Ok G n) {scope : Scope} {cl : List (Str × Addr)} {C : Addr} {h₁ : Heap} (hk : scope.kind = .function) : (c.inner (compEnvC scope cl C c.env) h₁).Ok G n where
  g := hK.g
  globals := hK.globals
  builtins := hK.builtins
  kind := hk
  depth := hK.depth
  frames := hK.frames
  units := hK.units
  handled := hK.handled
  cells := fun e => by cases e

theorem blank_get {xid : Str} {x i : Nat} {id : Str} (hx : x < σ.length) (h : (blankT xid σ x)[i]? = some id) : (i = x ∧ id = xid) ∨ (i ≠ x ∧ ((id = Str.empty) ∨ (id ≠ xid ∧ σ[i]? = some id))) := by
  unfold blankT at h
  rw [List.getElem?_set] at h
  by_cases e : x = i
  · subst e
    rw [if_pos rfl] at h
    split at h
    · cases h; exact .inl ⟨rfl, rfl⟩
    · cases h
  · rw [if_neg e, List.getElem?_map] at h
    obtain ⟨s, hs, rfl⟩ := Option.map_eq_some_iff.mp h
    refine .inr ⟨fun q => e q.symm, ?_⟩
    split
    · exact .inl rfl
    · rename_i hne; exact .inr ⟨hne, hs⟩

theorem Rp.inner (R : Rp G c σ V D h) {scope : Scope} {x : Nat} {xid : Str} (B : Blk c σ scope x xid) {C : Addr} (hF : Off G c C) (hd : D C = none) (hL : c.env.locals < C) (hn : h'.Ns C fun _ => none) (hk : ∀ b o, h.get? b = some o → h'.get? b = some o) (hC : h.get? C = none) :
    Rp G (c.inner (compEnvC scope (closeL c.env.cells scope.names []) C c.env) h) (blankT xid σ x) (V.set x none) D h' := by
  obtain ⟨m, F, hv⟩ := R.vr
  obtain ⟨c1, c2, c3⟩ := closeL_mem (cells := c.env.cells) (names := scope.names) (acc := []) (fun y hy hf => (B.free y hy hf).1) (fun _ hp => nomatch hp)
  refine ⟨⟨_, ⟨hn, fun b o e => hk b o (F.keep b o e), Nat.le_of_lt (Nat.lt_of_le_of_lt F.above hL)⟩, fun i id v h1 h2 => ?_⟩, fun y hy => ?_, fun b o e => ?_, fun b o e => ?_⟩
  · have hix : i ≠ x := fun q => by
      subst q
      rw [List.getElem?_set] at h2
      simp at h2
    rw [List.getElem?_set, if_neg (Ne.symm hix)] at h2
    rcases blank_get B.lt h1 with ⟨q, _⟩ | ⟨_, h1'⟩
    · exact absurd q hix
    show Holds (compEnvC scope (closeL c.env.cells scope.names []) C c.env) _ _ _ _
    unfold Holds
    have ek : (compEnvC scope (closeL c.env.cells scope.names []) C c.env).kindOf id = (scope.names.lookup id).map fun k => if (k == NameKind.free && c.env.scope.kind == .function && c.env.kindOf id == some .cell) = true then NameKind.cell else k := lookup_relabel scope.names
    rw [ek]
    cases el : scope.names.lookup id with
    | none => trivial
    | some kd =>
      have hmem : (id, kd) ∈ scope.names := by
        have : ∀ (l : List (Str × NameKind)), l.lookup id = some kd → (id, kd) ∈ l := by
          intro l
          induction l with
          | nil => intro e; cases e
          | cons z r ih =>
            intro e
            obtain ⟨a, b⟩ := z
            rw [List.lookup_cons] at e
            split at e
            · rename_i q; cases e; rw [eq_of_beq q]; exact .head _
            · exact .tail _ (ih e)
        exact this _ el
      rcases h1' with rfl | ⟨hne, hs⟩
      · rw [B.blank] at el; cases el
      · cases kd with
        | «local» =>
          rcases (B.loc _ hmem rfl).1 with q | q
          · exact absurd q hne
          · exact absurd q (B.dot id (List.mem_of_getElem? hs))
        | free =>
          obtain ⟨f1, f2⟩ := B.free _ hmem rfl
          simp only at f1 f2
          have hh := hv i id v hs h2
          unfold Holds at hh
          rw [f2] at hh
          simp only [Option.map_some, B.ckind, f2, beq_self_eq_true, Bool.and_self, if_true]
          obtain ⟨ca, q1, q2⟩ := hh
          refine ⟨ca, lookup_of_all (fun p hp hpid => ?_) (c3 _ hmem rfl), q2.keeps hk⟩
          have := c1 p hp
          rw [hpid, q1] at this
          exact (Option.some.inj this).symm
        | cell => exact absurd rfl (B.nocell _ hmem)
        | globalExplicit => trivial
        | globalImplicit => trivial
  · have hy' := c1 y hy
    have hm := mem_of_lookup' hy'
    obtain ⟨⟨v, hc⟩, h2, h3⟩ := R.cl _ hm
    exact ⟨⟨v, hc.keeps hk⟩, Ne.symm (hF.cel _ hm), fun q => by cases q⟩
  · obtain ⟨h1, h2, h3, h3', h4⟩ := R.dy b o e
    refine ⟨fun q => (by rw [show b = C from q, hd] at e; cases e), fun y hy => h2 _ (mem_of_lookup' (c1 y hy)), fun q => ⟨(h3 q).1, (h3 q).2.1, ?_⟩, h3', h4.at fun o' => hk b o'⟩
    show (if (b == c.env.locals || c.env.cells.any fun x => x.2 == b) = true then h.get? b else c.prot b) = none
    rw [if_neg, (h3 q).2.2]
    simp only [Bool.or_eq_true, beq_iff_eq, List.any_eq_true, not_or, not_exists, not_and]
    exact ⟨h1, fun y hy q' => h2 y hy q'.symm⟩
  · have e' : (if (b == c.env.locals || c.env.cells.any fun x => x.2 == b) = true then h.get? b else c.prot b) = some o := e
    have hg : h.get? b = some o := by
      split at e'
      · exact e'
      · exact (R.pr b o e').1
    exact ⟨hk b o hg, fun q => by rw [show b = C from q, hC] at hg; cases hg⟩

theorem Rp.outer {V2 : Vs} {σ2 : List Str} {D' : DM} {env2 : Env} {oC : Obj} (R₀ : Rp G c σ V D h) (hlo : ∀ x ∈ c.env.cells, c.own = false → True) {C : Addr} (hF : Off G c C) (hC : env2.locals = C) (R : Rp G (c.inner env2 h) σ2 V2 D' h') (hk : h'.get? C = some oC) :
    Rp G (c.guard C oC) σ V D' h' := by
  obtain ⟨m, F, hv⟩ := R₀.vr
  obtain ⟨m2, F2, _⟩ := R.vr
  have prot : ∀ b o, h.get? b = some o → (b = c.env.locals ∨ ∃ x ∈ c.env.cells, x.2 = b) → h'.get? b = some o := fun b o e q => by
    refine (R.pr b o ?_).1
    show (if (b == c.env.locals || c.env.cells.any fun x => x.2 == b) = true then h.get? b else c.prot b) = some o
    rw [if_pos, e]
    simp only [Bool.or_eq_true, beq_iff_eq, List.any_eq_true]
    rcases q with q | ⟨x, hx, q⟩
    · exact .inl q
    · exact .inr ⟨x, hx, q⟩
  refine ⟨⟨m, ⟨?_, F2.keep, F.above⟩, fun i id v h1 h2 => (hv i id v h1 h2).keep fun y hy ob eo => prot _ _ eo (.inr ⟨y, hy, rfl⟩)⟩, fun y hy => ?_, fun b o e => ?_, fun b o e => ?_⟩
  · obtain ⟨ol, es, ep, hl, r⟩ := F.ns
    exact ⟨ol, es, ep, prot _ _ hl (.inl rfl), r⟩
  · obtain ⟨⟨v, ob, ho, hd'⟩, h2, h3⟩ := R₀.cl y hy
    exact ⟨⟨v, ob, prot _ _ ho (.inr ⟨y, hy, rfl⟩), hd'⟩, h2, fun q => ⟨(h3 q).1, (Cx.guard_ne c oC (Ne.symm (hF.cel y hy))).trans (h3 q).2⟩⟩
  · obtain ⟨h1, h2, h3, h3', h4⟩ := R.dy b o e
    cases hw : o.rw with
    | true =>
      have hp : (if (b == c.env.locals || c.env.cells.any fun x => x.2 == b) = true then h.get? b else c.prot b) = none := (h3 hw).2.2
      have hn : ¬ (b == c.env.locals || c.env.cells.any fun x => x.2 == b) = true := fun q => by
        rw [if_pos q] at hp
        simp only [Bool.or_eq_true, beq_iff_eq, List.any_eq_true] at q
        rcases q with q | ⟨x, hx, q⟩
        · obtain ⟨ol, es, ep, hl, r⟩ := F.ns
          rw [q, hl] at hp; cases hp
        · obtain ⟨⟨v, ob, ho, _⟩, _⟩ := R₀.cl x hx
          rw [← q, ho] at hp; cases hp
      rw [if_neg hn] at hp
      simp only [Bool.or_eq_true, beq_iff_eq, List.any_eq_true, not_or, not_exists, not_and] at hn
      refine ⟨hn.1, fun y hy q => hn.2 y hy q.symm, fun _ => ⟨(h3 hw).1, (h3 hw).2.1, ?_⟩, fun q => (by cases q), h4⟩
      rw [Cx.guard_ne _ _ (by rw [← hC]; exact h1)]; exact hp
    | false =>
      have ho := h3' hw
      obtain ⟨o', ho'⟩ := Option.isSome_iff_exists.mp ho
      refine ⟨fun q => ?_, fun y hy q => ?_, fun q => (by cases q), fun _ => ho, h4⟩
      · rw [q] at ho'
        exact absurd (Nat.lt_of_lt_of_le (Heap.lt_size ho') F.above) (Nat.lt_irrefl _)
      · obtain ⟨⟨v, ob, hob, hd'⟩, _⟩ := R₀.cl y hy
        have := prot _ _ hob (.inr ⟨y, hy, rfl⟩)
        cases o <;> first | cases hw | skip
        obtain ⟨ol, hol, _, _, hds⟩ := h4
        rw [q, this] at hol
        cases hol
        rw [hd'] at hds
        cases hds
  · by_cases hb : b = C
    · subst hb
      rw [Cx.guard_same] at e; cases e
      exact ⟨hk, hF.loc⟩
    · rw [Cx.guard_ne _ _ hb] at e
      obtain ⟨h1, h2⟩ := R₀.pr b o e
      refine ⟨?_, h2⟩
      by_cases q : (b == c.env.locals || c.env.cells.any fun x => x.2 == b) = true
      · simp only [Bool.or_eq_true, beq_iff_eq, List.any_eq_true] at q
        exact prot b o h1 q
      · refine (R.pr b o ?_).1
        show (if (b == c.env.locals || c.env.cells.any fun x => x.2 == b) = true then h.get? b else c.prot b) = some o
        rw [if_neg q, e]
end
end Mine

namespace Mine
section
variable {G : Gl} {c : Cx} {n : Nat} {σ : List Str} {V : Vs} {D : DM} {h h' : Heap}

theorem Off.guard {a b : Addr} {o : Obj} (x : Off G c a) (h : a ≠ b) : Off G (c.guard b o) a := ⟨x.loc, x.cel, x.old, (Cx.guard_ne c o h).trans x.prt⟩
theorem Off.inner {a : Addr} {env2 : Env} {h₁ : Heap} (x : Off G c a) (h1 : a ≠ env2.locals) (h2 : ∀ y ∈ env2.cells, a ≠ y.2) : Off G (c.inner env2 h₁) a := by
  refine ⟨h1, h2, x.old, ?_⟩
  show (if (a == c.env.locals || c.env.cells.any fun x => x.2 == a) = true then h₁.get? a else c.prot a) = none
  rw [if_neg, x.prt]
  simp only [Bool.or_eq_true, beq_iff_eq, List.any_eq_true, not_or, not_exists, not_and]
  exact ⟨x.loc, fun y hy q => x.cel y hy q.symm⟩
theorem guard_comm (c : Cx) {a b : Addr} (o o' : Obj) (h : a ≠ b) : (c.guard a o).guard b o' = (c.guard b o').guard a o := by
  unfold Cx.guard
  simp only [Cx.mk.injEq, true_and, and_true]
  funext z
  by_cases h1 : z = b
  · subst h1; simp [Ne.symm h]
  · by_cases h2 : z = a
    · subst h2; simp [h1]
    · simp [h1, h2]

theorem blank_x {xid : Str} {x : Nat} (hx : x < σ.length) : (blankT xid σ x)[x]? = some xid := by
  unfold blankT
  rw [List.getElem?_set]
  simp [hx]

theorem compIter (hK : c.Ok G n) {s : Shared} (R : Rp G c σ V D s.heap) {it m : _} {o₀ : Obj} {item : Nat → Value → Prop} {P : Nat → Obj → Prop} {cond : Heap → Prop} (X : Iter G c.A cond it m item P)
    (h₀ : s.heap.get? it = some o₀) (p₀ : P 0 o₀) (hF : Off G c it) (hd₀ : D it = none) {x : Nat} {xid : Str} {px pos : Pos} {elt iter : Expr} {scope : Scope} (B : Blk c σ scope x xid) (hm : m ≤ sizeLine)
    (I : Nat → List Value → DM → Prop) (hI : I 0 [] D) (hc : ∀ (c' : Cx) σ' V' i out D1 h, Rp G c' σ' V' D1 h → I i out D1 → cond h)
    (turn : ∀ (c' : Cx) (C : Addr), c'.Ok G n → c'.env = compEnvC scope (closeL c.env.cells scope.names []) C c.env → c'.own = false → ∀ i v out D1, item i v → i < m → out.length = i → I i out D1 →
      W G c' (blankT xid σ x) (V.set x (some v)) D1 (eval elt c'.env) (fun y V2 D2 => V2 = V.set x (some v) ∧ I (i + 1) (out ++ [y]) D2))
    {RR : Value → Addr → Result → Shared → Prop} {E : Value → Shared → Prop}
    (hR : ∀ out D1 acc C oC h' tk', (∃ mm, ∀ h : Heap, h.get? C = some oC → h.Ns C mm) → I m out D1 → out.length = m → D1 acc = none → Rp G (c.guard C oC) σ V (D1.put acc (.lst out)) h' → Off G c C → RR (.ref acc) C (.ok .next) { s with heap := h', toks := tk' }) :
    wpAny (model G.prog G.w) c.A (newList []) (fun acc s₃ => wpAny (model G.prog G.w) c.A (newFunctionEnv scope c.env.globals (closeL c.env.cells scope.names []) [] c.env.qual none .none (some c.env)) (fun cenv s₄ =>
      codeAny (model G.prog G.w) c.A (.compStart (.ListComp elt [⟨.Name xid px, iter, [], 0⟩] scope pos) 0 (.ref it) acc { cenv with scope := relabel scope c.env }) (RR acc cenv.locals) s₄) E s₃) E s := by
  refine wpAny_newList (wpAny_newFunctionEnv B.nocell (by intro y hy; simp at hy) (fun h₁ hn₁ hs₁ => ?_) B.kind) (Nat.zero_le _)
  dsimp only at hn₁ hs₁ ⊢
  generalize hA : s.heap.objs.size = acc at *
  generalize hH : s.heap.push { cls := .type "list", data := .seq ([] : List Value).toArray } = H1 at *
  have hC1 : H1.objs.size = acc + 1 := by rw [← hH, Heap.size_push, hA]
  generalize hC : H1.objs.size = C at *
  have k1 : ∀ b o, s.heap.get? b = some o → H1.get? b = some o := fun b o e => hH ▸ Heap.get?_push_of_some _ e
  have k2 : ∀ b o, H1.get? b = some o → h₁.get? b = some o := fun b o e => hs₁.extBut b o (Nat.ne_of_lt (hC ▸ Heap.lt_size e)) (Heap.get?_push_of_some _ e)
  have hacc1 : H1.get? acc = some { cls := .type "list", data := .seq ([] : List Value).toArray } := by rw [← hH, ← hA]; exact Heap.get?_push_size _ rfl
  have R1 := R.keeps k1
  have fAcc : Free G c D acc := R.free hK acc (Nat.le_of_eq hA)
  have fC : Free G c D C := R.free hK C (by rw [hA, hC1]; exact Nat.le_succ _)
  have hAC : acc ≠ C := by rw [hC1]; exact (Nat.succ_ne_self acc).symm
  have hIA : it ≠ acc := fun q => by have := Heap.lt_size h₀; rw [hA, q] at this; exact Nat.lt_irrefl _ this
  have hIC : it ≠ C := fun q => by have := Heap.lt_size h₀; rw [hA, q, hC1] at this; exact absurd this (by simp)
  have hLC : c.env.locals < C := by obtain ⟨m', F⟩ := R.fr; have := F.ns.lt; rw [hA] at this; rw [hC1]; exact Nat.lt_succ_of_lt this
  have hCn : H1.get? C = none := by
    cases e : H1.get? C with
    | none => rfl
    | some o => have := Heap.lt_size e; rw [hC] at this; exact absurd this (Nat.lt_irrefl _)
  have Ri := R1.inner B (C := C) fC.off fC.dy hLC (by simpa using hn₁) k2 hCn
  obtain ⟨c1, _, _⟩ := closeL_mem (cells := c.env.cells) (names := scope.names) (acc := []) (fun y hy hf => (B.free y hy hf).1) (fun _ hp => nomatch hp)
  have hcl : ∀ {a : Addr}, (∀ y ∈ c.env.cells, a ≠ y.2) → ∀ y ∈ closeL c.env.cells scope.names [], a ≠ y.2 := fun hh y hy => hh _ (mem_of_lookup' (c1 y hy))
  generalize hci : c.inner (compEnvC scope (closeL c.env.cells scope.names []) C c.env) H1 = ci at *
  have ei : ci.env = compEnvC scope (closeL c.env.cells scope.names []) C c.env := by rw [← hci]; rfl
  have eA : ci.A = c.A := by rw [← hci]; rfl
  have eo : ci.own = false := by rw [← hci]; rfl
  have oA : Off G ci acc := hci ▸ fAcc.off.inner hAC (hcl fAcc.cel)
  have oI : Off G ci it := hci ▸ hF.inner hIC (hcl hF.cel)
  have hKi : ci.Ok G n := hci ▸ hK.inner B.kind
  have Rg := (Ri.guard oA fAcc.dy (k2 _ _ hacc1)).guard (oI.guard hIA) hd₀ (k2 _ _ (k1 _ _ h₀))
  have hxe : xid ≠ Str.empty := fun q => by have := B.own; rw [q, B.blank] at this; cases this
  have hu : ∀ j, (blankT xid σ x)[j]? = some xid → j = x := fun j e => by
    rcases blank_get B.lt e with ⟨q, _⟩ | ⟨_, q | ⟨q, _⟩⟩
    · exact q
    · exact absurd q hxe
    · exact absurd rfl q
  have hkx : ci.env.kindOf xid = some .local := by
    rw [ei]
    show (List.lookup xid (List.map _ scope.names)) = _
    rw [lookup_relabel (env := c.env) scope.names, B.own]
    rfl
  have loop : codeAny (model G.prog G.w) c.A (.compLoop (.ListComp elt [⟨.Name xid px, iter, [], 0⟩] scope pos) 0 (.ref it) (.ref acc) ci.env) (RR (.ref acc) C) { s with heap := h₁, toks := s.toks + ([] : List (Str × Value)).length } := by
    refine codeAny_compLoop_list (fun N s' => ∃ i out D1 u oit nn h tk, N = m - i ∧ i ≤ m ∧ s' = { s with heap := h, toks := tk } ∧
      Rp G ((ci.guard acc { cls := .type "list", data := .seq out.toArray nn }).guard it oit) (blankT xid σ x) (V.set x u) D1 h ∧ P i oit ∧ out.length = i ∧ I i out D1) ?_ m
      ⟨0, [], D, none, o₀, 0, h₁, _, rfl, Nat.zero_le _, rfl, Rg, p₀, rfl, hI⟩ (fun _ => rfl)
    rintro N _ ⟨i, out, D1, u, oit, nn, h, tk, rfl, hi, rfl, R2, hp, hl, hI1⟩
    have hcond := hc _ _ _ i out D1 h R2 hI1
    rcases Nat.lt_or_eq_of_le hi with hlt | rfl
    · refine X.next i _ _ _ oit hcond R2.guarded hp hlt fun v o' h2 tk2 hv hp' ho' hs => ?_
      have R3 := R2.reguard (oI.guard hIA) (R2.guard_dy hF.old) hs ho'
      refine wpAny_assign_Name ?_
      have hK3 : Cx.Ok G ((ci.guard acc { cls := .type "list", data := .seq out.toArray nn }).guard it o') n := (hKi.guard _ _).guard _ _
      have eA3 : ((ci.guard acc { cls := .type "list", data := .seq out.toArray nn }).guard it o').A = c.A := eA
      rw [← eA3]
      refine W.store (c := (ci.guard acc { cls := .type "list", data := .seq out.toArray nn }).guard it o') hK3 (blank_x B.lt) hu (.inl hkx) (k := fun _ V2 D2 => V2 = V.set x (some v) ∧ D2 = D1) ⟨by rw [List.set_set], rfl⟩ _ _ _ R3 fun _ V2 D2 h3 tk3 R4 e => ?_
      obtain ⟨rfl, rfl⟩ := e
      refine turn _ C hK3 ei eo i v out D2 hv hlt hl hI1 _ _ _ R4 fun y V3 D3 h4 tk4 R5 e => ?_
      obtain ⟨rfl, hI2⟩ := e
      have hga : h4.get? acc = some { cls := .type "list", data := .seq out.toArray nn } := by
        rw [guard_comm _ _ _ (Ne.symm hIA)] at R5
        exact R5.guarded
      rw [eA3]
      refine wpAny_list_append_plain (items := out.toArray) ⟨nn, hga⟩ (fun h5 hp5 hs5 => ?_) (by rw [List.size_toArray]; omega)
      obtain ⟨n5, hp5⟩ := hp5
      have e5 : out.toArray.push y = (out ++ [y]).toArray := by simp
      rw [e5] at hp5
      refine ⟨m - (i + 1), by omega, i + 1, out ++ [y], D3, some v, o', n5, h5, tk4, rfl, hlt, rfl, ?_, hp', by simp [hl], hI2⟩
      rw [guard_comm _ _ _ (Ne.symm hIA)] at R5 ⊢
      exact R5.reguard (oA.guard (Ne.symm hIA)) (R5.guard_dy fAcc.old) hs5 hp5
    · refine X.fin _ _ _ oit hcond R2.guarded hp fun h2 tk2 hs => ?_
      have R3 := R2.unguard (oI.guard hIA) (R2.guard_dy hF.old) fun b ob hb e => hs b ob hb e
      have dA := R3.guard_dy fAcc.old
      have hga := R3.guarded
      have R4 := R3.unguard oA dA fun _ _ _ e => e
      have hnC : ∃ oC, h2.get? C = some oC ∧ ∃ mm, ∀ h : Heap, h.get? C = some oC → h.Ns C mm := by
        obtain ⟨m4, F4⟩ := R4.fr
        obtain ⟨oC, es, ep, e, r⟩ := F4.ns
        rw [ei] at e
        exact ⟨oC, e, m4, fun h e' => ⟨oC, es, ep, e', r⟩⟩
      obtain ⟨oC, hoC, hNs⟩ := hnC
      rw [← hci] at R4
      have R5 := R1.outer (fun _ _ _ => trivial) fC.off (env2 := compEnvC scope (closeL c.env.cells scope.names []) C c.env) rfl R4 hoC
      refine hR out D1 acc C oC h2 tk2 hNs hI1 hl dA ?_ fC.off
      exact R5.add ⟨fAcc.loc, fAcc.cel, fAcc.old, fAcc.sys, (Cx.guard_ne c oC hAC).trans fAcc.prt, dA⟩ (o := .lst out) ⟨nn, hga⟩
  have e₂ : ∀ (k : Nat), ({ newEnv scope C c.env.globals (closeL c.env.cells scope.names []) c.env.qual none .none (some c.env) k with scope := relabel scope c.env } : Env) = { newEnv scope C c.env.globals (closeL c.env.cells scope.names []) c.env.qual none .none (some c.env) k with scope := relabel scope c.env } := fun _ => rfl
  rw [ei] at loop
  refine codeAny_compStart_list loop ?_
  exact X.self _ _ _ o₀ (k2 _ _ (k1 _ _ h₀)) p₀ loop
end
end Mine

namespace Mine

mutual
inductive E where
  | v (i : Nat) | cls | none | bool (b : Bool) | int (i : Int) | str (s : String)
  | bin (op : Operator) (a b : E) | neg (a : E) | cmp (op : CmpOp) (a b : E) | or2 (a b : E)
  | ite (t : T) (a b : E)
  | lst (es : Es) | tup (es : Es) | dct0 (str : Bool) | dct (ks : List String) (vs : Es)
  | att (a : E) (i : Nat) | idx (a i : E) | sidx (s : String) (i : E) | slc (a hi : E)
  | call (f : Fn) (args : Es)
  | app (o e : E) | pop (o e : E) | ndx (o e : E) | get1 (o e : E) | get2 (o e d : E)
  | comp (kd : Nat) (x : Nat) (src elt : E)
  | bad
inductive T where
  | nt (t : T) | and (ts : Ts) | or (ts : Ts) | cmp (op : CmpOp) (a b : E) | e (a : E) | bad
inductive Es where
  | nil | cons (e : E) (r : Es)
inductive Ts where
  | nil | cons (t : T) (r : Ts)
end
mutual
inductive S where
  | set (i : Nat) (e : E) | setn (is : List Nat) (e : E) | satt (o : E) (f : Nat) (e : E) | sidx (o i e : E) | aug (i : Nat) (e : E)
  | ite (t : T) (a b : Ss) | for_ (kd : Nat) (x : Nat) (src : E) (body : Ss) | while_ (t : T) (body : Ss)
  | ret (e : E) | ex (e : E) | cont | bad
inductive Ss where
  | nil | cons (s : S) (r : Ss)
end


/-- what a loop runs over: how many, which, and what must stay -/
noncomputable def srcR (D : DM) (kd : Nat) (sv : Value) (k : (m : Nat) → (item : Nat → Value → Prop) → (still : DM → Prop) → (start : DM → DM → Prop) → (back : DM → DM) → Prop) : Prop :=
  match kd with
  | 0 => ∃ l vs, sv = .ref l ∧ LsAt D l vs ∧ vs.length ≤ big ∧ k vs.length (fun i v => vs[i]? = some v) (fun D' => LsAt D' l vs) (fun D₁ D₂ => D₁ = D₂) id
  | 1 => ∃ l lo hi, sv = .ref l ∧ D l = some (.rng lo hi) ∧ (hi - lo).toNat ≤ big ∧ k (hi - lo).toNat (fun i v => ∃ t, v = .int (lo + i) t) (fun _ => True) (fun D₁ D₂ => D₁ = D₂) id
  | _ => ∃ l kvs, sv = .ref l ∧ D l = some (.ds kvs) ∧ kvs.length ≤ big ∧ ∀ ep, k kvs.length (fun i v => ∃ x u t, kvs[i]? = some (x, u) ∧ v = .str x t) (fun D' => D' l = some (.dse kvs ep)) (fun D₁ D₂ => D₂ = D₁.put l (.dse kvs ep)) (fun D' => D'.put l (.ds kvs))

noncomputable def setAll : Vs → List Nat → List Value → Vs
  | V, i :: is, v :: vs => setAll (V.set i (some v)) is vs
  | V, _, _ => V

noncomputable def gotS (kvs : List (Str × Value)) (z : Str) (w : Value) : Value := (valueAt kvs z).getD w

mutual
noncomputable def wpE (G : Gl) (n : Nat) : E → Vs → DM → (Value → DM → Prop) → Prop
  | .v i, V, D, k => match V.getD i Option.none with | some x => k x D | Option.none => False
  | .cls, V, D, k => k (.ref G.C) D
  | .none, V, D, k => k .none D
  | .bool b, V, D, k => k (.bool b) D
  | .int i, V, D, k => ∀ t, k (.int i t) D
  | .str s, V, D, k => ∀ t, k (.str (Str.ofString s) t) D
  | .bin op a b, V, D, k => wpE G n a V D fun x D1 => wpE G n b V D1 fun y D2 => binR D2 op x y k
  | .neg a, V, D, k => wpE G n a V D fun x D1 => match x with | .int i _ => ∀ t, k (.int (-i) t) D1 | _ => False
  | .cmp op a b, V, D, k => wpE G n a V D fun x D1 => wpE G n b V D1 fun y D2 => ∃ r, cmpR D2 op x y r ∧ k (.bool r) D2
  | .or2 a b, V, D, k => wpE G n a V D fun x D1 => ∃ r, truR x r ∧ (r = true → k x D1) ∧ (r = false → wpE G n b V D1 k)
  | .ite t a b, V, D, k => wpT G n t V D fun r D1 => (r = true → wpE G n a V D1 k) ∧ (r = false → wpE G n b V D1 k)
  | .lst es, V, D, k => wpEs G n es V D fun vs D1 => vs.length ≤ 64 ∧ ∀ a, D1 a = Option.none → k (.ref a) (D1.put a (.lst vs))
  | .tup es, V, D, k => wpEs G n es V D fun vs D1 => vs.length ≤ 64 ∧ ∀ a, D1 a = Option.none → k (.ref a) (D1.put a (.tup vs))
  | .dct0 s, V, D, k => ∀ a, D a = Option.none → k (.ref a) (D.put a (if s then .ds [] else .di []))
  | .dct ks vs, V, D, k => wpEs G n vs V D fun us D1 => us.length = ks.length ∧ ∀ a, D1 a = Option.none → k (.ref a) (D1.put a (.ds ((ks.map Str.ofString).zip us)))
  | .att a i, V, D, k => wpE G n a V D fun x D1 => ∃ l d fs v, x = .ref l ∧ D1 l = some (.ins d) ∧ D1 d = some (.vdc fs) ∧ fs[i]? = some v ∧ k v D1
  | .idx a i, V, D, k => wpE G n a V D fun x D1 => wpE G n i V D1 fun y D2 => itmR D2 x y fun v => k v D2
  | .sidx s i, V, D, k => wpE G n i V D fun y D1 => ∃ j t ch, y = .int j t ∧ 0 ≤ j ∧ j < 1000 ∧ (Str.ofString s).cps[j.toNat]? = some ch ∧ ∀ t', k (.str ⟨#[ch]⟩ t') D1
  | .slc a hi, V, D, k => wpE G n a V D fun x D1 => wpE G n hi V D1 fun y D2 => ∃ l vs j t, x = .ref l ∧ LsAt D2 l vs ∧ vs.length ≤ big ∧ y = .int j t ∧ 0 ≤ j ∧ ∀ a, D2 a = Option.none → k (.ref a) (D2.put a (.lst (vs.take j.toNat)))
  | .call f args, V, D, k => wpEs G n args V D fun vs D1 => callR G n f vs D1 k
  | .app o e, V, D, k => wpE G n o V D fun x D1 => ∃ l vs₀, x = .ref l ∧ D1 l = some (.lst vs₀) ∧ wpE G n e V D1 fun y D2 => ∃ vs, D2 l = some (.lst vs) ∧ vs.length ≤ big ∧ k .none (D2.put l (.lst (vs ++ [y])))
  | .pop o e, V, D, k => wpE G n o V D fun x D1 => ∃ l vs₀, x = .ref l ∧ D1 l = some (.lst vs₀) ∧ wpE G n e V D1 fun y D2 => ∃ vs j t u, D2 l = some (.lst vs) ∧ vs.length ≤ big ∧ y = .int j t ∧ 0 ≤ j ∧ vs[j.toNat]? = some u ∧ k u (D2.put l (.lst (vs.eraseIdx j.toNat)))
  | .ndx o e, V, D, k => wpE G n o V D fun x D1 => ∃ l vs₀, x = .ref l ∧ D1 l = some (.lst vs₀) ∧ wpE G n e V D1 fun y D2 => ∃ vs j, LsAt D2 l vs ∧ vs.length ≤ big ∧ j < vs.length ∧ (∀ i u, vs[i]? = some u → aeq u y = some (decide (i = j)) ∨ (j < i ∧ (aeq u y).isSome = true)) ∧ ∀ t, k (.int (j : Nat) t) D2
  | .get1 o e, V, D, k => wpE G n o V D fun x D1 => ∃ l kvs₀, x = .ref l ∧ SdAt D1 l kvs₀ ∧ wpE G n e V D1 fun y D2 => ∃ kvs z t, SdAt D2 l kvs ∧ y = .str z t ∧ k (gotS kvs z .none) D2
  | .get2 o e d, V, D, k => wpE G n o V D fun x D1 => ∃ l kvs₀, x = .ref l ∧ SdAt D1 l kvs₀ ∧ wpE G n e V D1 fun y D2 => wpE G n d V D2 fun w D3 => ∃ kvs z t, SdAt D3 l kvs ∧ y = .str z t ∧ k (gotS kvs z w) D3
  | .comp kd x src elt, V, D, k => wpE G n src V D fun sv D1 => srcR D1 kd sv fun m item still start back => kd < 2 ∧ ∃ I : Nat → List Value → DM → Prop, I 0 [] D1 ∧ (∀ i out D2, I i out D2 → still D2) ∧
      (∀ i out D2 v, i < m → item i v → out.length = i → I i out D2 → wpE G n elt (V.set x (some v)) D2 fun y D3 => I (i + 1) (out ++ [y]) D3) ∧
      ∀ out D2 a, I m out D2 → out.length = m → D2 a = Option.none → k (.ref a) (D2.put a (.lst out))
  | .bad, _, _, _ => False
noncomputable def wpT (G : Gl) (n : Nat) : T → Vs → DM → (Bool → DM → Prop) → Prop
  | .nt t, V, D, k => wpT G n t V D fun r D1 => k (!r) D1
  | .and ts, V, D, k => wpAnd G n ts V D k
  | .or ts, V, D, k => wpOr G n ts V D k
  | .cmp op a b, V, D, k => wpE G n a V D fun x D1 => wpE G n b V D1 fun y D2 => ∃ r, cmpR D2 op x y r ∧ k r D2
  | .e a, V, D, k => wpE G n a V D fun x D1 => ∃ r, truR x r ∧ k r D1
  | .bad, _, _, _ => False
noncomputable def wpAnd (G : Gl) (n : Nat) : Ts → Vs → DM → (Bool → DM → Prop) → Prop
  | .nil, V, D, k => k true D
  | .cons t r, V, D, k => wpT G n t V D fun b D1 => (b = true → wpAnd G n r V D1 k) ∧ (b = false → k false D1)
noncomputable def wpOr (G : Gl) (n : Nat) : Ts → Vs → DM → (Bool → DM → Prop) → Prop
  | .nil, V, D, k => k false D
  | .cons t r, V, D, k => wpT G n t V D fun b D1 => (b = true → k true D1) ∧ (b = false → wpOr G n r V D1 k)
noncomputable def wpEs (G : Gl) (n : Nat) : Es → Vs → DM → (List Value → DM → Prop) → Prop
  | .nil, V, D, k => k [] D
  | .cons e r, V, D, k => wpE G n e V D fun x D1 => wpEs G n r V D1 fun xs D2 => k (x :: xs) D2
end

noncomputable def stoR (D : DM) (o i v : Value) (k : DM → Prop) : Prop := onRef o fun l =>
      (∃ vs j t, ((D l = some (.lst vs)) ∨ D l = some (.mls vs)) ∧ i = .int j t ∧ 0 ≤ j ∧ j < vs.length ∧ vs.length ≤ big ∧ k (D.put l (.mls (vs.set j.toNat v)))) ∨
      (∃ kvs x t, D l = some (.ds kvs) ∧ i = .str x t ∧ kvs.length ≤ big ∧ k (D.put l (.ds (stored kvs x v)))) ∨
      (∃ kvs x t, D l = some (.di kvs) ∧ i = .int x t ∧ kvs.length ≤ big ∧ k (D.put l (.di (stored kvs x v))))

mutual
noncomputable def wpS (G : Gl) (n : Nat) : S → Vs → DM → (Flow → Vs → DM → Prop) → Prop
  | .set i e, V, D, k => wpE G n e V D fun x D1 => k .next (V.set i (some x)) D1
  | .setn is e, V, D, k => wpE G n e V D fun x D1 => ∃ l vs, x = .ref l ∧ LsAt D1 l vs ∧ vs.length = is.length ∧ k .next (setAll V is vs) D1
  | .satt o f e, V, D, k => wpE G n e V D fun x D1 => wpE G n o V D1 fun y D2 => ∃ l d fs, y = .ref l ∧ D2 l = some (.ins d) ∧ D2 d = some (.vdc fs) ∧ f ≤ fs.length ∧ handedIn x = true ∧ k .next V (D2.put d (.vdc (putF fs f x)))
  | .sidx o i e, V, D, k => wpE G n e V D fun x D1 => wpE G n o V D1 fun y D2 => wpE G n i V D2 fun z D3 => stoR D3 y z x fun D4 => k .next V D4
  | .aug i e, V, D, k => match V.getD i Option.none with
      | some (.int a _) => wpE G n e V D fun y D1 => match y with | .int b _ => ∀ t, k .next (V.set i (some (.int (a + b) t))) D1 | _ => False
      | _ => False
  | .ite t a b, V, D, k => wpT G n t V D fun r D1 => (r = true → wpSs G n a V D1 k) ∧ (r = false → wpSs G n b V D1 k)
  | .for_ kd x src body, V, D, k => wpE G n src V D fun sv D1 => srcR D1 kd sv fun m item still start back => ∃ I : Nat → Vs → DM → Prop, (∀ D2, start D1 D2 → I 0 V D2) ∧ (∀ i V2 D2, I i V2 D2 → still D2) ∧
      (∀ i V2 D2 v, i < m → item i v → I i V2 D2 → wpSs G n body (V2.set x (some v)) D2 (flowK k (I (i + 1)))) ∧
      ∀ V2 D2, I m V2 D2 → k .next V2 (back D2)
  | .while_ t body, V, D, k => ∃ I : Nat → Vs → DM → Prop, (∃ m, I m V D) ∧ ∀ m V2 D2, I m V2 D2 → wpT G n t V2 D2 fun r D3 => (r = true → wpSs G n body V2 D3 (flowK k fun V4 D4 => ∃ m', m' < m ∧ I m' V4 D4)) ∧ (r = false → k .next V2 D3)
  | .ret e, V, D, k => wpE G n e V D fun x D1 => k (.ret x) V D1
  | .ex e, V, D, k => wpE G n e V D fun _ D1 => k .next V D1
  | .cont, V, D, k => k .cont V D
  | .bad, _, _, _ => False
noncomputable def wpSs (G : Gl) (n : Nat) : Ss → Vs → DM → (Flow → Vs → DM → Prop) → Prop
  | .nil, V, D, k => k .next V D
  | .cons s r, V, D, k => wpS G n s V D fun f V1 D1 => match f with | .next => wpSs G n r V1 D1 k | f => k f V1 D1
end

/-- what the names of a block are -/
structure Ck where
  names : List (Str × NameKind)
  σ : List Str
  own : Bool
  hv : Bool
  tbl : List (Str × Value)
  C : Addr

noncomputable def Ck.glob (ck : Ck) (id : Str) (v : Value) : Bool := ck.names.lookup id == some .globalImplicit && !(id == ("__debug__" : Str)) && ck.tbl.lookup id == some v
noncomputable def Ck.var (ck : Ck) (i : Nat) (id : Str) : Bool := ck.σ[i]? == some id && (ck.names.lookup id == some .local || ck.names.lookup id == some .cell) && !(id == ("__debug__" : Str))
noncomputable def Ck.sto (ck : Ck) (i : Nat) (id : Str) : Bool := ck.σ[i]? == some id && (List.range ck.σ.length).all (fun j => ck.σ[j]? != some id || j == i) && (ck.names.lookup id == some .local || (ck.own && ck.names.lookup id == some .cell))
noncomputable def Ck.inner (ck : Ck) (scope : Scope) (x : Nat) (xid : Str) : Ck :=
  { ck with names := scope.names.map (fun (n, k) => if (k == NameKind.free && ck.names.lookup n == some .cell) = true then (n, NameKind.cell) else (n, k)), σ := blankT xid ck.σ x, own := false }
noncomputable def Ck.blk (ck : Ck) (scope : Scope) (x : Nat) (xid : Str) : Bool :=
  scope.kind == .function && scope.names.all (fun y => match y.2 with
    | .cell => false
    | .free => ck.names.lookup y.1 == some .cell
    | .local => (y.1 == xid || y.1 == Str.ofString ".0") && scope.names.lookup y.1 == some .local
    | _ => true) && scope.names.lookup xid == some .local && scope.names.lookup Str.empty == none && ck.σ.all (fun s => !(s == Str.ofString ".0")) && !(xid == Str.ofString ".0") && decide (x < ck.σ.length)

noncomputable def onName (zz : Expr) (g : Str → Bool) : Bool := if h : zz.ctorIdx = 23 then Expr.Name.elim (motive_1 := fun _ => Bool) zz h fun id p => g id else false
theorem onName_inv {zz : Expr} {g : Str → Bool} (h : onName zz g = true) : ∃ (id : Str) (p : Pos), zz = .Name id p ∧ g id = true := by
  by_cases e : zz.ctorIdx = 23
  · revert h
    exact Expr.Name.elim (motive_1 := fun zz => onName zz g = true → ∃ (id : Str) (p : Pos), zz = .Name id p ∧ g id = true) zz e fun id p h => ⟨id, p, rfl, h⟩
  · unfold onName at h; rw [dif_neg e] at h; cases h
noncomputable def onConst (zz : Expr) (g : Const → Bool) : Bool := if h : zz.ctorIdx = 19 then Expr.Constant.elim (motive_1 := fun _ => Bool) zz h fun v k p => g v else false
theorem onConst_inv {zz : Expr} {g : Const → Bool} (h : onConst zz g = true) : ∃ (v : Const) (k : Nat) (p : Pos), zz = .Constant v k p ∧ g v = true := by
  by_cases e : zz.ctorIdx = 19
  · revert h
    exact Expr.Constant.elim (motive_1 := fun zz => onConst zz g = true → ∃ (v : Const) (k : Nat) (p : Pos), zz = .Constant v k p ∧ g v = true) zz e fun v k p h => ⟨v, k, p, rfl, h⟩
  · unfold onConst at h; rw [dif_neg e] at h; cases h
noncomputable def onBin (zz : Expr) (g : Expr → Operator → Expr → Bool) : Bool := if h : zz.ctorIdx = 2 then Expr.BinOp.elim (motive_1 := fun _ => Bool) zz h fun l op r p => g l op r else false
theorem onBin_inv {zz : Expr} {g : Expr → Operator → Expr → Bool} (h : onBin zz g = true) : ∃ (l : Expr) (op : Operator) (r : Expr) (p : Pos), zz = .BinOp l op r p ∧ g l op r = true := by
  by_cases e : zz.ctorIdx = 2
  · revert h
    exact Expr.BinOp.elim (motive_1 := fun zz => onBin zz g = true → ∃ (l : Expr) (op : Operator) (r : Expr) (p : Pos), zz = .BinOp l op r p ∧ g l op r = true) zz e fun l op r p h => ⟨l, op, r, p, rfl, h⟩
  · unfold onBin at h; rw [dif_neg e] at h; cases h
noncomputable def onUn (zz : Expr) (g : UnaryOp → Expr → Bool) : Bool := if h : zz.ctorIdx = 3 then Expr.UnaryOp.elim (motive_1 := fun _ => Bool) zz h fun op x p => g op x else false
theorem onUn_inv {zz : Expr} {g : UnaryOp → Expr → Bool} (h : onUn zz g = true) : ∃ (op : UnaryOp) (x : Expr) (p : Pos), zz = .UnaryOp op x p ∧ g op x = true := by
  by_cases e : zz.ctorIdx = 3
  · revert h
    exact Expr.UnaryOp.elim (motive_1 := fun zz => onUn zz g = true → ∃ (op : UnaryOp) (x : Expr) (p : Pos), zz = .UnaryOp op x p ∧ g op x = true) zz e fun op x p h => ⟨op, x, p, rfl, h⟩
  · unfold onUn at h; rw [dif_neg e] at h; cases h
noncomputable def onCmp (zz : Expr) (g : Expr → List CmpOp → List Expr → Bool) : Bool := if h : zz.ctorIdx = 15 then Expr.Compare.elim (motive_1 := fun _ => Bool) zz h fun l ops rs p => g l ops rs else false
theorem onCmp_inv {zz : Expr} {g : Expr → List CmpOp → List Expr → Bool} (h : onCmp zz g = true) : ∃ (l : Expr) (ops : List CmpOp) (rs : List Expr) (p : Pos), zz = .Compare l ops rs p ∧ g l ops rs = true := by
  by_cases e : zz.ctorIdx = 15
  · revert h
    exact Expr.Compare.elim (motive_1 := fun zz => onCmp zz g = true → ∃ (l : Expr) (ops : List CmpOp) (rs : List Expr) (p : Pos), zz = .Compare l ops rs p ∧ g l ops rs = true) zz e fun l ops rs p h => ⟨l, ops, rs, p, rfl, h⟩
  · unfold onCmp at h; rw [dif_neg e] at h; cases h
noncomputable def onBool (zz : Expr) (g : BoolOp → List Expr → Bool) : Bool := if h : zz.ctorIdx = 0 then Expr.BoolOp.elim (motive_1 := fun _ => Bool) zz h fun op xs p => g op xs else false
theorem onBool_inv {zz : Expr} {g : BoolOp → List Expr → Bool} (h : onBool zz g = true) : ∃ (op : BoolOp) (xs : List Expr) (p : Pos), zz = .BoolOp op xs p ∧ g op xs = true := by
  by_cases e : zz.ctorIdx = 0
  · revert h
    exact Expr.BoolOp.elim (motive_1 := fun zz => onBool zz g = true → ∃ (op : BoolOp) (xs : List Expr) (p : Pos), zz = .BoolOp op xs p ∧ g op xs = true) zz e fun op xs p h => ⟨op, xs, p, rfl, h⟩
  · unfold onBool at h; rw [dif_neg e] at h; cases h
noncomputable def onIfE (zz : Expr) (g : Expr → Expr → Expr → Bool) : Bool := if h : zz.ctorIdx = 5 then Expr.IfExp.elim (motive_1 := fun _ => Bool) zz h fun x y z p => g x y z else false
theorem onIfE_inv {zz : Expr} {g : Expr → Expr → Expr → Bool} (h : onIfE zz g = true) : ∃ (x : Expr) (y : Expr) (z : Expr) (p : Pos), zz = .IfExp x y z p ∧ g x y z = true := by
  by_cases e : zz.ctorIdx = 5
  · revert h
    exact Expr.IfExp.elim (motive_1 := fun zz => onIfE zz g = true → ∃ (x : Expr) (y : Expr) (z : Expr) (p : Pos), zz = .IfExp x y z p ∧ g x y z = true) zz e fun x y z p h => ⟨x, y, z, p, rfl, h⟩
  · unfold onIfE at h; rw [dif_neg e] at h; cases h
noncomputable def onLst (zz : Expr) (g : List Expr → Bool) : Bool := if h : zz.ctorIdx = 24 then Expr.List.elim (motive_1 := fun _ => Bool) zz h fun xs p => g xs else false
theorem onLst_inv {zz : Expr} {g : List Expr → Bool} (h : onLst zz g = true) : ∃ (xs : List Expr) (p : Pos), zz = .List xs p ∧ g xs = true := by
  by_cases e : zz.ctorIdx = 24
  · revert h
    exact Expr.List.elim (motive_1 := fun zz => onLst zz g = true → ∃ (xs : List Expr) (p : Pos), zz = .List xs p ∧ g xs = true) zz e fun xs p h => ⟨xs, p, rfl, h⟩
  · unfold onLst at h; rw [dif_neg e] at h; cases h
noncomputable def onTup (zz : Expr) (g : List Expr → Bool) : Bool := if h : zz.ctorIdx = 25 then Expr.Tuple.elim (motive_1 := fun _ => Bool) zz h fun xs k p => g xs else false
theorem onTup_inv {zz : Expr} {g : List Expr → Bool} (h : onTup zz g = true) : ∃ (xs : List Expr) (k : Nat) (p : Pos), zz = .Tuple xs k p ∧ g xs = true := by
  by_cases e : zz.ctorIdx = 25
  · revert h
    exact Expr.Tuple.elim (motive_1 := fun zz => onTup zz g = true → ∃ (xs : List Expr) (k : Nat) (p : Pos), zz = .Tuple xs k p ∧ g xs = true) zz e fun xs k p h => ⟨xs, k, p, rfl, h⟩
  · unfold onTup at h; rw [dif_neg e] at h; cases h
noncomputable def onDict (zz : Expr) (g : List (Option Expr) → List Expr → Bool) : Bool := if h : zz.ctorIdx = 6 then Expr.Dict.elim (motive_1 := fun _ => Bool) zz h fun kx vx p => g kx vx else false
theorem onDict_inv {zz : Expr} {g : List (Option Expr) → List Expr → Bool} (h : onDict zz g = true) : ∃ (kx : List (Option Expr)) (vx : List Expr) (p : Pos), zz = .Dict kx vx p ∧ g kx vx = true := by
  by_cases e : zz.ctorIdx = 6
  · revert h
    exact Expr.Dict.elim (motive_1 := fun zz => onDict zz g = true → ∃ (kx : List (Option Expr)) (vx : List Expr) (p : Pos), zz = .Dict kx vx p ∧ g kx vx = true) zz e fun kx vx p h => ⟨kx, vx, p, rfl, h⟩
  · unfold onDict at h; rw [dif_neg e] at h; cases h
noncomputable def onAttr (zz : Expr) (g : Expr → Str → Pos → Bool) : Bool := if h : zz.ctorIdx = 20 then Expr.Attribute.elim (motive_1 := fun _ => Bool) zz h fun x a p => g x a p else false
theorem onAttr_inv {zz : Expr} {g : Expr → Str → Pos → Bool} (h : onAttr zz g = true) : ∃ (x : Expr) (a : Str) (p : Pos), zz = .Attribute x a p ∧ g x a p = true := by
  by_cases e : zz.ctorIdx = 20
  · revert h
    exact Expr.Attribute.elim (motive_1 := fun zz => onAttr zz g = true → ∃ (x : Expr) (a : Str) (p : Pos), zz = .Attribute x a p ∧ g x a p = true) zz e fun x a p h => ⟨x, a, p, rfl, h⟩
  · unfold onAttr at h; rw [dif_neg e] at h; cases h
noncomputable def onSub (zz : Expr) (g : Expr → Expr → Bool) : Bool := if h : zz.ctorIdx = 21 then Expr.Subscript.elim (motive_1 := fun _ => Bool) zz h fun x y p => g x y else false
theorem onSub_inv {zz : Expr} {g : Expr → Expr → Bool} (h : onSub zz g = true) : ∃ (x : Expr) (y : Expr) (p : Pos), zz = .Subscript x y p ∧ g x y = true := by
  by_cases e : zz.ctorIdx = 21
  · revert h
    exact Expr.Subscript.elim (motive_1 := fun zz => onSub zz g = true → ∃ (x : Expr) (y : Expr) (p : Pos), zz = .Subscript x y p ∧ g x y = true) zz e fun x y p h => ⟨x, y, p, rfl, h⟩
  · unfold onSub at h; rw [dif_neg e] at h; cases h
noncomputable def onSlice (zz : Expr) (g : Option Expr → Option Expr → Option Expr → Bool) : Bool := if h : zz.ctorIdx = 26 then Expr.Slice.elim (motive_1 := fun _ => Bool) zz h fun lo hi st p => g lo hi st else false
theorem onSlice_inv {zz : Expr} {g : Option Expr → Option Expr → Option Expr → Bool} (h : onSlice zz g = true) : ∃ (lo : Option Expr) (hi : Option Expr) (st : Option Expr) (p : Pos), zz = .Slice lo hi st p ∧ g lo hi st = true := by
  by_cases e : zz.ctorIdx = 26
  · revert h
    exact Expr.Slice.elim (motive_1 := fun zz => onSlice zz g = true → ∃ (lo : Option Expr) (hi : Option Expr) (st : Option Expr) (p : Pos), zz = .Slice lo hi st p ∧ g lo hi st = true) zz e fun lo hi st p h => ⟨lo, hi, st, p, rfl, h⟩
  · unfold onSlice at h; rw [dif_neg e] at h; cases h
noncomputable def onCall (zz : Expr) (g : Expr → List Expr → List Keyword → Pos → Bool) : Bool := if h : zz.ctorIdx = 16 then Expr.Call.elim (motive_1 := fun _ => Bool) zz h fun f xs kw p => g f xs kw p else false
theorem onCall_inv {zz : Expr} {g : Expr → List Expr → List Keyword → Pos → Bool} (h : onCall zz g = true) : ∃ (f : Expr) (xs : List Expr) (kw : List Keyword) (p : Pos), zz = .Call f xs kw p ∧ g f xs kw p = true := by
  by_cases e : zz.ctorIdx = 16
  · revert h
    exact Expr.Call.elim (motive_1 := fun zz => onCall zz g = true → ∃ (f : Expr) (xs : List Expr) (kw : List Keyword) (p : Pos), zz = .Call f xs kw p ∧ g f xs kw p = true) zz e fun f xs kw p h => ⟨f, xs, kw, p, rfl, h⟩
  · unfold onCall at h; rw [dif_neg e] at h; cases h
noncomputable def onComp (zz : Expr) (g : Expr → List Comprehension → Scope → Bool) : Bool := if h : zz.ctorIdx = 8 then Expr.ListComp.elim (motive_1 := fun _ => Bool) zz h fun ex gens sc p => g ex gens sc else false
theorem onComp_inv {zz : Expr} {g : Expr → List Comprehension → Scope → Bool} (h : onComp zz g = true) : ∃ (ex : Expr) (gens : List Comprehension) (sc : Scope) (p : Pos), zz = .ListComp ex gens sc p ∧ g ex gens sc = true := by
  by_cases e : zz.ctorIdx = 8
  · revert h
    exact Expr.ListComp.elim (motive_1 := fun zz => onComp zz g = true → ∃ (ex : Expr) (gens : List Comprehension) (sc : Scope) (p : Pos), zz = .ListComp ex gens sc p ∧ g ex gens sc = true) zz e fun ex gens sc p h => ⟨ex, gens, sc, p, rfl, h⟩
  · unfold onComp at h; rw [dif_neg e] at h; cases h
noncomputable def onRet (zz : Stmt) (g : Option Expr → Bool) : Bool := if h : zz.ctorIdx = 3 then Stmt.Return.elim (motive_2 := fun _ => Bool) zz h fun v p => g v else false
theorem onRet_inv {zz : Stmt} {g : Option Expr → Bool} (h : onRet zz g = true) : ∃ (v : Option Expr) (p : Pos), zz = .Return v p ∧ g v = true := by
  by_cases e : zz.ctorIdx = 3
  · revert h
    exact Stmt.Return.elim (motive_2 := fun zz => onRet zz g = true → ∃ (v : Option Expr) (p : Pos), zz = .Return v p ∧ g v = true) zz e fun v p h => ⟨v, p, rfl, h⟩
  · unfold onRet at h; rw [dif_neg e] at h; cases h
noncomputable def onAssign (zz : Stmt) (g : List Expr → Expr → Bool) : Bool := if h : zz.ctorIdx = 5 then Stmt.Assign.elim (motive_2 := fun _ => Bool) zz h fun ts x p => g ts x else false
theorem onAssign_inv {zz : Stmt} {g : List Expr → Expr → Bool} (h : onAssign zz g = true) : ∃ (ts : List Expr) (x : Expr) (p : Pos), zz = .Assign ts x p ∧ g ts x = true := by
  by_cases e : zz.ctorIdx = 5
  · revert h
    exact Stmt.Assign.elim (motive_2 := fun zz => onAssign zz g = true → ∃ (ts : List Expr) (x : Expr) (p : Pos), zz = .Assign ts x p ∧ g ts x = true) zz e fun ts x p h => ⟨ts, x, p, rfl, h⟩
  · unfold onAssign at h; rw [dif_neg e] at h; cases h
noncomputable def onAug (zz : Stmt) (g : Expr → Operator → Expr → Bool) : Bool := if h : zz.ctorIdx = 7 then Stmt.AugAssign.elim (motive_2 := fun _ => Bool) zz h fun t op x p => g t op x else false
theorem onAug_inv {zz : Stmt} {g : Expr → Operator → Expr → Bool} (h : onAug zz g = true) : ∃ (t : Expr) (op : Operator) (x : Expr) (p : Pos), zz = .AugAssign t op x p ∧ g t op x = true := by
  by_cases e : zz.ctorIdx = 7
  · revert h
    exact Stmt.AugAssign.elim (motive_2 := fun zz => onAug zz g = true → ∃ (t : Expr) (op : Operator) (x : Expr) (p : Pos), zz = .AugAssign t op x p ∧ g t op x = true) zz e fun t op x p h => ⟨t, op, x, p, rfl, h⟩
  · unfold onAug at h; rw [dif_neg e] at h; cases h
noncomputable def onFor (zz : Stmt) (g : Expr → Expr → List Stmt → List Stmt → Bool) : Bool := if h : zz.ctorIdx = 9 then Stmt.For.elim (motive_2 := fun _ => Bool) zz h fun t x y els p => g t x y els else false
theorem onFor_inv {zz : Stmt} {g : Expr → Expr → List Stmt → List Stmt → Bool} (h : onFor zz g = true) : ∃ (t : Expr) (x : Expr) (y : List Stmt) (els : List Stmt) (p : Pos), zz = .For t x y els p ∧ g t x y els = true := by
  by_cases e : zz.ctorIdx = 9
  · revert h
    exact Stmt.For.elim (motive_2 := fun zz => onFor zz g = true → ∃ (t : Expr) (x : Expr) (y : List Stmt) (els : List Stmt) (p : Pos), zz = .For t x y els p ∧ g t x y els = true) zz e fun t x y els p h => ⟨t, x, y, els, p, rfl, h⟩
  · unfold onFor at h; rw [dif_neg e] at h; cases h
noncomputable def onWhile (zz : Stmt) (g : Expr → List Stmt → List Stmt → Bool) : Bool := if h : zz.ctorIdx = 11 then Stmt.While.elim (motive_2 := fun _ => Bool) zz h fun x y els p => g x y els else false
theorem onWhile_inv {zz : Stmt} {g : Expr → List Stmt → List Stmt → Bool} (h : onWhile zz g = true) : ∃ (x : Expr) (y : List Stmt) (els : List Stmt) (p : Pos), zz = .While x y els p ∧ g x y els = true := by
  by_cases e : zz.ctorIdx = 11
  · revert h
    exact Stmt.While.elim (motive_2 := fun zz => onWhile zz g = true → ∃ (x : Expr) (y : List Stmt) (els : List Stmt) (p : Pos), zz = .While x y els p ∧ g x y els = true) zz e fun x y els p h => ⟨x, y, els, p, rfl, h⟩
  · unfold onWhile at h; rw [dif_neg e] at h; cases h
noncomputable def onIf (zz : Stmt) (g : Expr → List Stmt → List Stmt → Bool) : Bool := if h : zz.ctorIdx = 12 then Stmt.If.elim (motive_2 := fun _ => Bool) zz h fun x y els p => g x y els else false
theorem onIf_inv {zz : Stmt} {g : Expr → List Stmt → List Stmt → Bool} (h : onIf zz g = true) : ∃ (x : Expr) (y : List Stmt) (els : List Stmt) (p : Pos), zz = .If x y els p ∧ g x y els = true := by
  by_cases e : zz.ctorIdx = 12
  · revert h
    exact Stmt.If.elim (motive_2 := fun zz => onIf zz g = true → ∃ (x : Expr) (y : List Stmt) (els : List Stmt) (p : Pos), zz = .If x y els p ∧ g x y els = true) zz e fun x y els p h => ⟨x, y, els, p, rfl, h⟩
  · unfold onIf at h; rw [dif_neg e] at h; cases h
noncomputable def onEx (zz : Stmt) (g : Expr → Bool) : Bool := if h : zz.ctorIdx = 24 then Stmt.Expr.elim (motive_2 := fun _ => Bool) zz h fun x p => g x else false
theorem onEx_inv {zz : Stmt} {g : Expr → Bool} (h : onEx zz g = true) : ∃ (x : Expr) (p : Pos), zz = .Expr x p ∧ g x = true := by
  by_cases e : zz.ctorIdx = 24
  · revert h
    exact Stmt.Expr.elim (motive_2 := fun zz => onEx zz g = true → ∃ (x : Expr) (p : Pos), zz = .Expr x p ∧ g x = true) zz e fun x p h => ⟨x, p, rfl, h⟩
  · unfold onEx at h; rw [dif_neg e] at h; cases h
noncomputable def onCont (zz : Stmt) (g : Pos → Bool) : Bool := if h : zz.ctorIdx = 27 then Stmt.Continue.elim (motive_2 := fun _ => Bool) zz h fun p => g p else false
theorem onCont_inv {zz : Stmt} {g : Pos → Bool} (h : onCont zz g = true) : ∃ (p : Pos), zz = .Continue p ∧ g p = true := by
  by_cases e : zz.ctorIdx = 27
  · revert h
    exact Stmt.Continue.elim (motive_2 := fun zz => onCont zz g = true → ∃ (p : Pos), zz = .Continue p ∧ g p = true) zz e fun p h => ⟨p, rfl, h⟩
  · unfold onCont at h; rw [dif_neg e] at h; cases h
noncomputable def isC (n : Nat) (zz : Expr) : Bool := Nat.beq zz.ctorIdx n
noncomputable def notSet (e : Expr) : Bool := !isC 7 e
noncomputable def notSlice (e : Expr) : Bool := !isC 26 e
noncomputable def notComp (e : Expr) : Bool := !(isC 8 e || isC 9 e || isC 10 e)
noncomputable def notStar (e : Expr) : Bool := !isC 22 e
noncomputable def notTuple (e : Expr) : Bool := !isC 25 e
noncomputable def notCall (e : Expr) : Bool := !isC 16 e
noncomputable def isNm (e : Expr) : Bool := isC 23 e
noncomputable def one {α : Type} (xs : List α) (g : α → Bool) : Bool := match xs with | [x] => g x | _ => false
noncomputable def two {α : Type} (xs : List α) (g : α → α → Bool) : Bool := match xs with | [x, y] => g x y | _ => false
noncomputable def cns {α : Type} (xs : List α) (g : α → List α → Bool) : Bool := match xs with | x :: r => g x r | [] => false
noncomputable def some1 {α : Type} (o : Option α) (g : α → Bool) : Bool := match o with | some x => g x | none => false
theorem one_inv {α : Type} {xs : List α} {g : α → Bool} (h : one xs g = true) : ∃ x, xs = [x] ∧ g x = true := by
  match xs, h with
  | [x], h => exact ⟨x, rfl, h⟩
theorem two_inv {α : Type} {xs : List α} {g : α → α → Bool} (h : two xs g = true) : ∃ x y, xs = [x, y] ∧ g x y = true := by
  match xs, h with
  | [x, y], h => exact ⟨x, y, rfl, h⟩
theorem cns_inv {α : Type} {xs : List α} {g : α → List α → Bool} (h : cns xs g = true) : ∃ x r, xs = x :: r ∧ g x r = true := by
  match xs, h with
  | x :: r, h => exact ⟨x, r, rfl, h⟩
theorem some1_inv {α : Type} {o : Option α} {g : α → Bool} (h : some1 o g = true) : ∃ x, o = some x ∧ g x = true := by
  match o, h with
  | some x, h => exact ⟨x, rfl, h⟩
theorem nil_of {α : Type} {xs : List α} (h : xs.isEmpty = true) : xs = [] := List.isEmpty_iff.mp h
theorem and_of {a b : Bool} (h : (a && b) = true) : a = true ∧ b = true := by rwa [Bool.and_eq_true] at h

noncomputable def tgtNames : List Expr → Option (List Str)
  | [] => some []
  | e :: r => if h : e.ctorIdx = 23 then Expr.Name.elim (motive_1 := fun _ => Option (List Str)) e h fun id _ => (tgtNames r).map (id :: ·) else none
noncomputable def strOf : Const → Option Str
  | .str s => some s
  | _ => none
noncomputable def keyNames : List (Option Expr) → Option (List Str)
  | [] => some []
  | none :: _ => none
  | some e :: r => if h : e.ctorIdx = 19 then Expr.Constant.elim (motive_1 := fun _ => Option (List Str)) e h fun c _ _ => (strOf c).bind fun s => (keyNames r).map (s :: ·) else none
noncomputable def meth1 (zz : Expr) (nm : Str) (ok : Expr → Bool) (g : Expr → Expr → Bool) : Bool :=
  onCall zz fun f xs kw pos => onAttr f fun x a apos => one xs fun y => kw.isEmpty && (a == nm && (apos.endLine == pos.line && (ok x && (notStar y && g x y))))
theorem meth1_inv {zz : Expr} {nm : Str} {ok : Expr → Bool} {g : Expr → Expr → Bool} (h : meth1 zz nm ok g = true) :
    ∃ (x y : Expr) (apos pos : Pos), zz = .Call (.Attribute x nm apos) [y] [] pos ∧ (apos.endLine == pos.line) = true ∧ ok x = true ∧ notStar y = true ∧ g x y = true := by
  replace h := onCall_inv h; obtain ⟨f, xs, kw, pos, rfl, h⟩ := h
  replace h := onAttr_inv h; obtain ⟨x, a, apos, rfl, h⟩ := h
  replace h := one_inv h; obtain ⟨y, rfl, h⟩ := h
  obtain ⟨h1, h⟩ := and_of h
  obtain ⟨h2, h⟩ := and_of h
  obtain ⟨h3, h⟩ := and_of h
  obtain ⟨h4, h⟩ := and_of h
  obtain ⟨h5, h⟩ := and_of h
  rw [nil_of h1, eq_of_beq h2]
  exact ⟨x, y, apos, pos, rfl, h3, h4, h5, h⟩
noncomputable def vecOk (f : Fn) (hv : Bool) : Bool := match f with | .vec => hv | _ => true

mutual
noncomputable def chkE (ck : Ck) : E → Expr → Bool
  | .bad, zz => true
  | .v i, zz => onName zz fun id => ck.var i id
  | .cls, zz => onName zz fun id => ck.glob id (.ref ck.C)
  | .none, zz => onConst zz fun c => decide (c = .none)
  | .bool b, zz => onConst zz fun c => decide (c = .bool b)
  | .int i, zz => onConst zz fun c => decide (c = .int i)
  | .str s, zz => onConst zz fun c => decide (c = .str (Str.ofString s))
  | .bin op a b, zz => onBin zz fun l op' r => op == op' && chkE ck a l && chkE ck b r
  | .neg a, zz => onUn zz fun op x => decide (op = .USub) && chkE ck a x
  | .cmp op a b, zz => onCmp zz fun l ops rs => one ops fun op' => one rs fun r => op == op' && notSet r && chkE ck a l && chkE ck b r
  | .or2 a b, zz => onBool zz fun op xs => decide (op = .Or) && two xs fun x y => chkE ck a x && chkE ck b y
  | .ite t a b, zz => onIfE zz fun x y z => chkT ck t x && chkE ck a y && chkE ck b z
  | .lst es, zz => onLst zz fun xs => chkEs ck es xs
  | .tup es, zz => onTup zz fun xs => chkEs ck es xs
  | .dct0 _, zz => onDict zz fun kx vx => kx.isEmpty && vx.isEmpty
  | .dct ks vs, zz => onDict zz fun kx vx => keyNames kx == some (ks.map Str.ofString) && decide ((ks.map Str.ofString).Nodup) && decide (ks.length ≤ 15) && !ks.isEmpty && decide (kx.length = vx.length) && chkEs ck vs vx
  | .att a i, zz => onAttr zz fun x attr _ => fldName i == attr && decide (i < 3) && chkE ck a x && notCall x
  | .idx a i, zz => onSub zz fun x y => notSlice y && chkE ck a x && chkE ck i y
  | .sidx s i, zz => onSub zz fun x y => onConst x fun c => decide (c = .str (Str.ofString s)) && (notSlice y && chkE ck i y)
  | .slc a hi, zz => onSub zz fun x y => onSlice y fun lo h st => lo.isNone && (st.isNone && some1 h fun y => chkE ck a x && chkE ck hi y)
  | .call f args, zz => onCall zz fun fx xs kw _ => onName fx fun id => kw.isEmpty && (vecOk f ck.hv && (ck.glob id (f.val ck.C) && (!xs.isEmpty && chkEs ck args xs)))
  | .app o e, zz => meth1 zz (Str.ofString "append") isNm fun x y => chkE ck o x && chkE ck e y
  | .pop o e, zz => meth1 zz (Str.ofString "pop") isNm fun x y => chkE ck o x && chkE ck e y
  | .ndx o e, zz => meth1 zz (Str.ofString "index") isNm fun x y => chkE ck o x && chkE ck e y
  | .get1 o e, zz => meth1 zz (Str.ofString "get") notCall fun x y => chkE ck o x && chkE ck e y
  | .get2 o e d, zz => onCall zz fun f xs kw pos => onAttr f fun x nm apos => two xs fun y z => kw.isEmpty && nm == Str.ofString "get" && apos.endLine == pos.line && notCall x && notStar y && notStar z && chkE ck o x && chkE ck e y && chkE ck d z
  | .comp _ x src elt, zz => onComp zz fun ex gens scope => one gens fun q => onName q.target fun xid => q.ifs.isEmpty && decide (q.is_async = 0) && notSet q.iter && ck.blk scope x xid && chkE ck src q.iter && chkE (ck.inner scope x xid) elt ex
noncomputable def chkT (ck : Ck) : T → Expr → Bool
  | .nt t, zz => onUn zz fun op x => decide (op = .Not) && chkT ck t x
  | .and ts, zz => onBool zz fun op xs => decide (op = .And) && chkTs ck ts xs
  | .or ts, zz => onBool zz fun op xs => decide (op = .Or) && chkTs ck ts xs
  | .cmp op a b, zz => onCmp zz fun l ops rs => one ops fun op' => one rs fun r => op == op' && notSet r && chkE ck a l && chkE ck b r
  | .e a, zz => (isC 23 zz || isC 16 zz) && chkE ck a zz
  | .bad, zz => true
noncomputable def chkEs (ck : Ck) : Es → List Expr → Bool
  | .nil, zz => zz.isEmpty
  | .cons e r, zz => cns zz fun x xs => notStar x && chkE ck e x && chkEs ck r xs
noncomputable def chkTs (ck : Ck) : Ts → List Expr → Bool
  | .nil, zz => zz.isEmpty
  | .cons t r, zz => cns zz fun x xs => chkT ck t x && chkTs ck r xs
end
mutual
noncomputable def chkS (ck : Ck) : S → Stmt → Bool
  | .set i e, zz => onAssign zz fun ts x => one ts fun t => onName t fun id => ck.sto i id && chkE ck e x
  | .setn is e, zz => onAssign zz fun ts x => one ts fun t => onTup t fun es => (some1 (tgtNames es) fun ids => decide (ids.length = is.length) && (is.zip ids).all (fun p => ck.sto p.1 p.2) && decide (ids.length ≤ 10)) && notComp x && notTuple x && chkE ck e x
  | .satt o f e, zz => onAssign zz fun ts x => one ts fun t => onAttr t fun y attr _ => fldName f == attr && decide (f < 5) && notComp x && chkE ck o y && chkE ck e x
  | .sidx o i e, zz => onAssign zz fun ts x => one ts fun t => onSub t fun y z => notSlice z && notComp x && chkE ck o y && chkE ck i z && chkE ck e x
  | .aug i e, zz => onAug zz fun t op x => onName t fun id => decide (op = .Add) && (ck.var i id && ck.sto i id && chkE ck e x)
  | .ite t a b, zz => onIf zz fun x y z => chkT ck t x && chkSs ck a y && chkSs ck b z
  | .for_ _ i src body, zz => onFor zz fun t x y els => onName t fun id => els.isEmpty && (notSet x && ck.sto i id && chkE ck src x && chkSs ck body y)
  | .while_ t body, zz => onWhile zz fun x y els => els.isEmpty && (chkT ck t x && chkSs ck body y)
  | .ret e, zz => onRet zz fun v => some1 v fun x => chkE ck e x
  | .ex e, zz => onEx zz fun x => notComp x && chkE ck e x
  | .cont, zz => onCont zz fun _ => true
  | .bad, zz => true
noncomputable def chkSs (ck : Ck) : Ss → List Stmt → Bool
  | .nil, zz => zz.isEmpty
  | .cons s r, zz => cns zz fun x xs => chkS ck s x && chkSs ck r xs
end
end Mine

namespace Mine

noncomputable def vecR (vs : List Value) (D : DM) (k : Value → DM → Prop) : Prop :=
  (∃ kd it, vs = [kd, it] ∧ handedIn kd = true ∧ handedIn it = true ∧ newVec D kd it .none k) ∨
  (∃ kd it at_, vs = [kd, it, at_] ∧ handedIn kd = true ∧ handedIn it = true ∧ handedIn at_ = true ∧ newVec D kd it at_ k)

structure Facts (G : Gl) (tbl : List (Str × Value)) (hv : Bool) : Prop where
  tbl : ∀ x v, tbl.lookup x = some v → (nsIn G.K mainGlobals x = some (some v) ∧ keepIn G.K v = true) ∨
    (nsIn G.K mainGlobals x = some none ∧ bootBuiltins x = some v ∧ x ≠ "__name__" ∧ ((∃ i, v = .builtin i) ∨ ∃ T, v = .type T))
  vecK : VecK G
  isin : isIn G.K (.ref G.C) G.C = true
  vec : hv = true → ∀ (c : Cx) (σ : List Str) (V : Vs) (D : DM) (vs : List Value) (k : Value → Vs → DM → Prop), c.Ok G 30 → vecR vs D (fun v D' => k v V D') → W G c σ V D (call (.ref G.C) vs) k

/-- room: a block that makes objects asks more -/
noncomputable def off (hv : Bool) : Nat := if hv then 30 else 2

structure Good (G : Gl) (n : Nat) (ck : Ck) (c : Cx) : Prop where
  f : Facts G ck.tbl ck.hv
  ok : c.Ok G (n + off ck.hv)
  names : c.env.scope.names = ck.names
  own : ck.own = c.own
  cells : ∀ id, ck.names.lookup id = some .cell → (c.env.cells.lookup id).isSome = true
  C : ck.C = G.C

section
variable {G : Gl} {c : Cx} {n : Nat} {ck : Ck} {σ : List Str} {V : Vs} {D : DM}

theorem Good.kind (X : Good G n ck c) (id : Str) : c.env.kindOf id = ck.names.lookup id := by
  show c.env.scope.names.lookup id = _
  rw [X.names]

theorem Good.guard (X : Good G n ck c) (a : Addr) (o : Obj) : Good G n ck (c.guard a o) := ⟨X.f, X.ok.guard a o, X.names, X.own, X.cells, X.C⟩

theorem W.var (X : Good G n ck c) {i : Nat} {id : Str} {pos : Pos} {v : Value} {k : Value → Vs → DM → Prop} (h : ck.var i id = true) (hV : V.getD i none = some v) (hk : k v V D) : W G c ck.σ V D (eval (.Name id pos) c.env) k := by
  unfold Ck.var at h
  simp only [Bool.and_eq_true, Bool.or_eq_true, beq_iff_eq, Bool.not_eq_true'] at h
  obtain ⟨⟨h1, h2⟩, h3⟩ := h
  refine W.name X.ok h1 ?_ ?_ h3 hk
  · have : V.getD i none = some v := hV
    rw [List.getD_eq_getElem?_getD] at this
    cases e : V[i]? with
    | none => rw [e] at this; cases this
    | some u => rw [e] at this; simp at this; rw [this]
  · rw [X.kind]; exact h2

theorem W.glob (X : Good G n ck c) {id : Str} {v : Value} {pos : Pos} {k : Value → Vs → DM → Prop} (h : ck.glob id v = true) (hk : k v V D) : W G c ck.σ V D (eval (.Name id pos) c.env) k := by
  unfold Ck.glob at h
  simp only [Bool.and_eq_true, beq_iff_eq, Bool.not_eq_true'] at h
  obtain ⟨⟨h1, h2⟩, h3⟩ := h
  rcases X.f.tbl id v h3 with ⟨e, _⟩ | ⟨e, e2, e3, _⟩
  · exact W.global X.ok e ((X.kind id).trans h1) h2 hk
  · exact W.builtin X.ok e e2 e3 ((X.kind id).trans h1) h2 hk

theorem W.sto (X : Good G n ck c) {i : Nat} {id : Str} {v : Value} {k : Unit → Vs → DM → Prop} (h : ck.sto i id = true) (hk : k () (V.set i (some v)) D) : W G c ck.σ V D (storeName c.env id v) k := by
  unfold Ck.sto at h
  simp only [Bool.and_eq_true, Bool.or_eq_true, beq_iff_eq, List.all_eq_true, bne_iff_ne, List.mem_range] at h
  obtain ⟨⟨h1, h2⟩, h3⟩ := h
  refine W.store X.ok h1 (fun j hj => ?_) ?_ hk
  · rcases h2 j (List.getElem?_eq_some_iff.mp hj).1 with q | q
    · exact absurd hj q
    · exact q
  · rcases h3 with h3 | ⟨h3, h4⟩
    · exact .inl ((X.kind id).trans h3)
    · exact .inr ⟨X.own ▸ h3, (X.kind id).trans h4, X.cells id h4⟩
theorem stoU {i : Nat} {id : Str} (h : ck.sto i id = true) : ck.σ[i]? = some id ∧ ∀ j, ck.σ[j]? = some id → j = i := by
  unfold Ck.sto at h
  simp only [Bool.and_eq_true, Bool.or_eq_true, beq_iff_eq, List.all_eq_true, bne_iff_ne, List.mem_range] at h
  obtain ⟨⟨h1, h2⟩, h3⟩ := h
  refine ⟨h1, fun j hj => ?_⟩
  rcases h2 j (List.getElem?_eq_some_iff.mp hj).1 with q | q
  · exact absurd hj q
  · exact q
theorem stoK (X : Good G n ck c) {i : Nat} {id : Str} (h : ck.sto i id = true) : c.env.kindOf id = some .local ∨ (c.own = true ∧ c.env.kindOf id = some .cell ∧ (c.env.cells.lookup id).isSome = true) := by
  unfold Ck.sto at h
  simp only [Bool.and_eq_true, Bool.or_eq_true, beq_iff_eq, List.all_eq_true, bne_iff_ne, List.mem_range] at h
  obtain ⟨⟨h1, h2⟩, h3⟩ := h
  rcases h3 with h3 | ⟨h3, h4⟩
  · exact .inl ((X.kind id).trans h3)
  · exact .inr ⟨X.own ▸ h3, (X.kind id).trans h4, X.cells id h4⟩

theorem starEach_cons {e : Expr} {r : List Expr} {env : Env} (h : notStar e = true) : starEach (e :: r) env = (false, eval e env) :: starEach r env := by
  cases e <;> first | rfl | cases h

theorem backTo_cons {pos : Pos} {t : Sem Value} {r : List (Bool × Sem Value)} : backTo pos ((false, t) :: r) = (false, t) :: backTo pos r := rfl

theorem W.spliced_cons {t : Sem Value} {r : List (Bool × Sem Value)} {k : List Value → Vs → DM → Prop}
    (h : W G c σ V D t fun v V1 D1 => W G c σ V1 D1 (spliced r) fun vs V2 D2 => k (v :: vs) V2 D2) : W G c σ V D (spliced ((false, t) :: r)) k := by
  show W G c σ V D (t >>= fun v => _) k
  refine W.bind (h.mono fun v V1 D1 h1 => ?_)
  show W G c σ V1 D1 (do let here ← (Pure.pure [v] : Sem (List Value)); return here ++ (← PySem.holding here (spliced r))) k
  exact W.bind (W.pure (W.bind (W.holding (h1.mono fun vs V2 D2 hk => W.pure hk))))

theorem W.callWith {f : Value} {pos : Pos} {t : Sem Value} {r : List (Bool × Sem Value)} {k : Value → Vs → DM → Prop} (hK : c.Ok G n) (hf : keepIn G.K f = true ∨ (∃ i, f = .builtin i) ∨ ∃ T, f = .type T) (hp : r.any (·.1) = false)
    (h : W G c σ V D (spliced ((false, t) :: r)) fun vs V' D' => W G c σ V' D' (call f vs) k) : W G c σ V D (PySem.callWith pos f [] ((false, t) :: r) []) k := fun s Q E R q => by
  refine callWith_of (P := G.K.In) (by simp [hp]) (fun hh hP => ?_) (evalArgs_plain (h s _ E R fun vs V' D' h' tk' R' hk => ⟨R'.K hK, ?_⟩))
  · rcases hf with hf | ⟨i, rfl⟩ | ⟨T, rfl⟩
    · exact keeps_K hf hh hP
    · exact ⟨.machine, .inr (.inl rfl), Looks.of_pure rfl⟩
    · exact ⟨.machine, .inr (.inl rfl), Looks.of_pure rfl⟩
  · exact hk _ Q E R' q

theorem plainTrees (pos : Pos) (env : Env) : ∀ xs : List Expr, xs.all notStar = true → (backTo pos (starEach xs env)).any (·.1) = false
  | [], _ => rfl
  | x :: xs, h => by
    rw [List.all_cons, Bool.and_eq_true] at h
    rw [starEach_cons h.1, backTo_cons, List.any_cons, plainTrees pos env xs h.2]; rfl

theorem W.callR' (X : Good G n ck c) {f : Fn} {vs : List Value} {k : Value → Vs → DM → Prop} (hv : f = .vec → ck.hv = true) (h : callR G n f vs D fun v D' => k v V D') : W G c σ V D (call (f.val G.C) vs) k := by
  have hK := X.ok
  cases f with
  | own a => exact W.ofCalls (hK.le (Nat.le_add_right _ _)) h
  | vec => 
    refine X.f.vec (hv rfl) c σ V D vs k (hK.le (by rw [hv rfl]; exact Nat.le_add_left _ _)) ?_
    exact vecC_inv h
  | len => replace h := l1_inv h; obtain ⟨a, rfl, h⟩ := h; replace h := onRef_inv h; obtain ⟨l, rfl, h⟩ := h; exact W.len h
  | range =>
    replace h : rngC vs D (fun v D' => k v V D') := h
    rcases rngC_inv h with ⟨hi, t, rfl, h⟩ | ⟨lo, t, hi, u, rfl, h⟩
    · exact W.range1 hK h.1 h.2.1 h.2.2
    · exact W.range2 hK h.1 h.2.1 h.2.2.1 h.2.2.2.1 h.2.2.2.2
  | list => replace h := l1_inv h; obtain ⟨a, rfl, h⟩ := h; replace h := onRef_inv h; obtain ⟨l, rfl, h⟩ := h; exact W.list hK h
  | str => replace h := l1_inv h; obtain ⟨a, rfl, h⟩ := h; replace h := onInt_inv h; obtain ⟨i, t, rfl, h⟩ := h; exact W.strInt h.1 h.2
  | isinst => replace h := l2_inv h; obtain ⟨a, b, rfl, h⟩ := h; replace h := onRef_inv h; obtain ⟨x, rfl, h⟩ := h; replace h := onRef_inv h; obtain ⟨y, rfl, rfl, ⟨d, hd⟩, hk⟩ := h; exact W.isinst hK X.f.isin hd hk
  | abs => replace h := l1_inv h; obtain ⟨a, rfl, h⟩ := h; replace h := onInt_inv h; obtain ⟨i, t, rfl, h⟩ := h; exact W.absInt h
  | max => replace h := l2_inv h; obtain ⟨a, b, rfl, h⟩ := h; replace h := ints2_inv h; obtain ⟨x, t, y, u, rfl, rfl, h⟩ := h; exact W.maxInt hK h
  | min => replace h := l2_inv h; obtain ⟨a, b, rfl, h⟩ := h; replace h := ints2_inv h; obtain ⟨x, t, y, u, rfl, rfl, h⟩ := h; exact W.minInt hK h
end
end Mine

namespace Mine
section
variable {G : Gl} {c : Cx} {n : Nat} {ck : Ck} {σ : List Str} {V : Vs} {D : DM}

/-- a value's walk, the names as they were -/
noncomputable abbrev WV (G : Gl) (c : Cx) (ck : Ck) (V : Vs) (D : DM) (t : Sem Value) (k : Value → DM → Prop) : Prop := W G c ck.σ V D t fun v V' D' => V' = V ∧ k v D'

theorem W.sub {value slice : Expr} {o i : Value} {k : Value → Vs → DM → Prop} (hK : c.Ok G n) (hs : notSlice slice = true) (h : itmR D o i fun v => k v V D) : W G c σ V D (subscriptTail value slice o i) k := fun s Q E R q => by
  have hs' : subscripted slice false o i = PySem.operate [o, i] (PySem.getItem o i) := by cases slice <;> first | rfl | cases hs
  have hg := W.getItem (k := k) hK h s Q E R q
  replace h := onRef_inv h; obtain ⟨l, rfl, h⟩ := h
  · rcases h with ⟨vs, j, t, v, hl, rfl, h0, h1, hv, hk⟩ | ⟨vs, j, t, v, hl, rfl, h0, h1, hv, hk⟩ | ⟨kvs, x, t, v, hl, rfl, hv, hk⟩ | ⟨kvs, x, t, v, hl, rfl, hv, hk⟩
    · exact tail_any (hl.isList R).typeIs slot_list_getitem.lookup hg hs'
    · exact tail_any (IsTup.typeIs (R.dy _ _ hl).2.2.2.2) slot_tuple_getitem.lookup hg hs'
    · exact tail_any (mapOf_of (hl.dictOf R).2).typeIs slot_dict_getitem.lookup hg hs'
    · exact tail_any (mapOf_of (R.dy _ _ hl).2.2.2.2).typeIs slot_dict_getitem.lookup hg hs'

theorem W.strItem {value slice : Expr} {x : Str} {t : Tok} {j : Int} {u : Tok} {ch : Nat} {k : Value → Vs → DM → Prop} (hs : notSlice slice = true) (h0 : 0 ≤ j) (h1 : j < 1000) (hc : x.cps[j.toNat]? = some ch)
    (hk : ∀ t', k (.str ⟨#[ch]⟩ t') V D) : W G c σ V D (subscriptTail value slice (.str x t) (.int j u)) k := W.same fun s Q E R q => by
  have hs' : subscripted slice false (.str x t) (.int j u) = PySem.operate [.str x t, .int j u] (PySem.getItem (.str x t) (.int j u)) := by cases slice <;> first | rfl | cases hs
  refine tail_any (T := "str") rfl F.slot_str_getitem.lookup (P.getItem_str ?_ ?_ (q _ _ (hk _))) hs'
  · simp only [Bool.or_eq_false_iff, decide_eq_false_iff_not]; omega
  · have hlt : j.toNat < x.length := (Array.getElem?_eq_some_iff.mp hc).1
    unfold seqIndex?
    have a1 : ¬ j < 0 := by omega
    have a2 : j < (x.length : Int) := by omega
    simp only [a1, if_false]
    simp [h0, a2, hc]

theorem W.slice {value hi : Expr} {p : Pos} {l : Addr} {vs : List Value} {j : Int} {t : Tok} {k : Value → Vs → DM → Prop} (hK : c.Ok G n) (hl : LsAt D l vs) (hb : vs.length ≤ big) (h0 : 0 ≤ j)
    (hk : ∀ a, D a = none → k (.ref a) V (D.put a (.lst (vs.take j.toNat)))) {lo : Option Expr} :
    ∀ (s : Shared) (Q : Value → Shared → Prop) (E : Value → Shared → Prop), Rp G c σ V D s.heap → (∀ a V' D' h' tk', Rp G c σ V' D' h' → k a V' D' → Q a { s with heap := h', toks := tk' }) →
      wpAny (model G.prog G.w) c.A (newFields "slice" [.none, .int j t, .none]) (fun i s => wpAny (model G.prog G.w) c.A (subscriptTail value (.Slice lo (some hi) none p) (.ref l) i) Q E s) E s := fun s Q E R q => by
  have hl1 := hl.isList R
  refine wpAny_newObj_type ?_
  have R1 := R.keeps (h' := s.heap.push { cls := .type "slice", data := .fields ([.none, .int j t, .none] : List Value).toArray }) fun b o e => Heap.get?_push_of_some _ e
  have hsl : (s.heap.push { cls := .type "slice", data := .fields ([.none, .int j t, .none] : List Value).toArray }).IsSliceOf s.heap.objs.size .none (.int j t) .none := ⟨_, Heap.get?_push_size _ rfl, rfl, rfl⟩
  have hl2 := hl.isList R1
  refine tail_any (T := "list") hl2.typeIs slot_list_getitem.lookup (wpAny_getItem_list_slice hl2 hsl .none (.int j t) .none (by simp) ?_ (by simpa using Nat.le_trans hb big_le)) (ops := [.ref s.heap.objs.size, .ref l]) rfl
  have e : slicePick vs.toArray none (some j) none = (vs.take j.toNat).toArray := by
    have : (j.toNat : Int) = j := by omega
    have h2 := slicePick_upto' vs.toArray j.toNat
    rw [this] at h2
    rw [h2]
  rw [e]
  exact q _ _ _ _ s.toks (R1.alloc hK (a := .lst (vs.take j.toNat)) ⟨0, Heap.get?_push_size _ rfl⟩) (hk _ R1.fresh)

theorem W.ctx {α : Type} {t : Sem α} {k k' : α → Vs → DM → Prop} (h : W G c σ V D t k) (hk : ∀ a V' D', k a V' D' → k' a V' D') : W G c σ V D t k' := h.mono hk

/-- a list's method called with one argument: the object first -/
theorem listMeth {nm : Str} {id : String} (slot : Slot "list" nm id) (hty : typeOf (.builtin id) = pure (.type "method_descriptor")) {o y : Expr} {apos pos : Pos} (hn : ∃ x p, o = .Name x p) (hl : (apos.endLine == pos.line) = true) (hy : notStar y = true)
    {k : Value → Vs → DM → Prop} (ho : W G c σ V D (eval o c.env) fun x V1 D1 => ∃ l vs, x = .ref l ∧ D1 l = some (.lst vs) ∧ W G c σ V1 D1 (PySem.callWith pos (.builtin id) [x] [(false, eval y c.env)] []) k) :
    W G c σ V D (eval (.Call (.Attribute o nm apos) [y] [] pos) c.env) k := fun s Q E R q => by
  obtain ⟨x, p, rfl⟩ := hn
  have ht : backTo pos (starEach [y] c.env) = [(false, eval y c.env)] := by rw [starEach_cons hy]; rfl
  refine wpAny_Call_method (T := "list") rfl (by rw [ht]; rfl) hl F.plainAttrs_list slot hty (ho s _ E R fun v V1 D1 h1 t1 R1 hk => ?_)
  obtain ⟨l, vs, rfl, hl1, hk⟩ := hk
  obtain ⟨m, hp⟩ := (R1.dy l _ hl1).2.2.2.2
  refine ⟨⟨_, hp, rfl⟩, fun a e => by cases e; exact ⟨_, hp, rfl⟩, ?_⟩
  rw [ht]
  exact hk _ Q E R1 q

theorem callWithBuiltin {id : String} {pos : Pos} {first : List Value} {t : Sem Value} {k : Value → Vs → DM → Prop} (h : W G c σ V D t fun v V1 D1 => W G c σ V1 D1 (call (.builtin id) (first ++ [v])) k) : W G c σ V D (PySem.callWith pos (.builtin id) first [(false, t)] []) k := fun s Q E R q =>
  callWith_builtin rfl (evalArgs_plain (spliced_cons (h s _ E R fun v V1 D1 h1 t1 R1 hk => spliced_nil (hk _ Q E R1 q))))

theorem lmAppend {o y : Expr} {apos pos : Pos} (hn : ∃ x p, o = .Name x p) (hl : (apos.endLine == pos.line) = true) (hy : notStar y = true) {k : Value → Vs → DM → Prop}
    (ho : W G c σ V D (eval o c.env) fun x V1 D1 => ∃ l vs, x = .ref l ∧ D1 l = some (.lst vs) ∧ W G c σ V1 D1 (eval y c.env) fun v V2 D2 => ∃ vs, D2 l = some (.lst vs) ∧ vs.length ≤ big ∧ k .none V2 (D2.put l (.lst (vs ++ [v])))) :
    W G c σ V D (eval (.Call (.Attribute o (Str.ofString "append") apos) [y] [] pos) c.env) k :=
  listMeth F.slot_list_append F.type_list_append hn hl hy (ho.mono fun x V1 D1 h => by
    obtain ⟨l, vs, rfl, hl1, h⟩ := h
    refine ⟨l, vs, rfl, hl1, callWithBuiltin (h.mono fun v V2 D2 h2 => ?_)⟩
    obtain ⟨vs, hl2, hb, hk⟩ := h2
    intro s Q E R q
    obtain ⟨m, hp⟩ := (R.dy l _ hl2).2.2.2.2
    refine wpAny_list_append_plain (items := vs.toArray) ⟨m, hp⟩ (fun h' hp' hs => ?_) (by simpa using Nat.le_trans hb big_le)
    exact q _ _ _ h' s.toks (R.change hl2 rfl hs (o' := .lst (vs ++ [v])) (by obtain ⟨m', hp'⟩ := hp'; exact ⟨m', by simpa using hp'⟩)) hk)

theorem lmPop {o y : Expr} {apos pos : Pos} (hn : ∃ x p, o = .Name x p) (hl : (apos.endLine == pos.line) = true) (hy : notStar y = true) {k : Value → Vs → DM → Prop}
    (ho : W G c σ V D (eval o c.env) fun x V1 D1 => ∃ l vs, x = .ref l ∧ D1 l = some (.lst vs) ∧ W G c σ V1 D1 (eval y c.env) fun v V2 D2 => ∃ vs j t u, D2 l = some (.lst vs) ∧ vs.length ≤ big ∧ v = .int j t ∧ 0 ≤ j ∧ vs[j.toNat]? = some u ∧ k u V2 (D2.put l (.lst (vs.eraseIdx j.toNat)))) :
    W G c σ V D (eval (.Call (.Attribute o (Str.ofString "pop") apos) [y] [] pos) c.env) k :=
  listMeth F.slot_list_pop F.type_list_pop hn hl hy (ho.mono fun x V1 D1 h => by
    obtain ⟨l, vs, rfl, hl1, h⟩ := h
    refine ⟨l, vs, rfl, hl1, fun s Q E R q => P.pop_at_list (h s _ E R fun v V2 D2 h2 t2 R2 hk => ?_)⟩
    obtain ⟨vs, j, t, u, hl2, hb, rfl, h0, hv, hk⟩ := hk
    obtain ⟨m, hp⟩ := (R2.dy l _ hl2).2.2.2.2
    have hlt : j.toNat < vs.length := (List.getElem?_eq_some_iff.mp hv).1
    have hbb : big = 2 ^ 20 := rfl
    refine ⟨vs.toArray, m, j, t, j.toNat, u, by simpa using Nat.le_trans hb big_le, rfl, hp, ?_, ?_, by simpa using hv, ?_⟩
    · unfold Builtin.List.listFitsIndex
      simp
      omega
    · have hs : vs.toArray.size = vs.length := by simp
      rw [hs]
      unfold seqIndex?
      have a1 : ¬ j < 0 := by omega
      have a2 : j < (vs.length : Int) := by omega
      simp [a1, h0, a2]
    · refine q _ _ _ _ _ (R2.change hl2 rfl (Heap.SameBut.update ..) (o' := .lst (vs.eraseIdx j.toNat)) ?_) hk
      have hup := IsL.update (x := hp) (fun xs => xs.eraseIdxIfInBounds j.toNat)
      have e : (vs.toArray.eraseIdxIfInBounds j.toNat) = (vs.eraseIdx j.toNat).toArray := by simp
      rw [e] at hup
      exact ⟨_, hup⟩)

theorem lmIndex {o y : Expr} {apos pos : Pos} (hn : ∃ x p, o = .Name x p) (hl : (apos.endLine == pos.line) = true) (hy : notStar y = true) {k : Value → Vs → DM → Prop}
    (ho : W G c σ V D (eval o c.env) fun x V1 D1 => ∃ l vs, x = .ref l ∧ D1 l = some (.lst vs) ∧ W G c σ V1 D1 (eval y c.env) fun v V2 D2 => ∃ vs j, LsAt D2 l vs ∧ vs.length ≤ big ∧ j < vs.length ∧ (∀ i u, vs[i]? = some u → aeq u v = some (decide (i = j)) ∨ (j < i ∧ (aeq u v).isSome = true)) ∧ ∀ t, k (.int (j : Nat) t) V2 D2) :
    W G c σ V D (eval (.Call (.Attribute o (Str.ofString "index") apos) [y] [] pos) c.env) k :=
  listMeth F.slot_list_index F.type_list_index hn hl hy (ho.mono fun x V1 D1 h => by
    obtain ⟨l, vs, rfl, hl1, h⟩ := h
    refine ⟨l, vs, rfl, hl1, fun s Q E R q => ?_⟩
    have hbb : big = 2 ^ 20 := rfl
    refine seqMethod1_meets F.slot_list_index F.entry_list_index (h s _ E R fun v V2 D2 h2 t2 R2 hk => ?_)
    obtain ⟨vs, j, hl2, hb, hj, ha, hk⟩ := hk
    obtain ⟨⟨cls, dd, data, sl⟩, hp, hcl, m, hd⟩ := hl2.isList R2
    simp only at hcl hd
    subst hcl hd
    have all : ∀ y, y ∈ vs.toArray → aeq y v = some ((aeq y v).getD false) := fun y hy => by
      obtain ⟨i, hi, rfl⟩ := List.getElem_of_mem (by simpa using hy : y ∈ vs)
      rcases ha i vs[i] (by simp [hi]) with e | ⟨_, e⟩
      · rw [e]; rfl
      · obtain ⟨z, hz⟩ := Option.isSome_iff_exists.mp e; rw [hz]; rfl
    refine ⟨⟨_, hp, rfl⟩, F.args_list_index_2 _ _, _, SeqAt.list_indexAt l vs.toArray m dd sl v (fun y => (aeq y v).getD false) j (by simpa using hj) (by omega) ?_ ?_, hp, fun y hy => eqAt_of_aeq (all y hy), q _ _ _ _ _ R2 (hk _)⟩
    · rcases ha j vs[j] (by simp [hj]) with e | ⟨e, _⟩
      · simp [e]
      · omega
    · intro i hi hlt
      have hi' : i < vs.length := by simpa using hi
      rcases ha i vs[i] (by simp [hi']) with e | ⟨e, _⟩
      · have : i ≠ j := by omega
        simp [e, this]
      · omega)

theorem dictMeth {o : Expr} {args : List Expr} {apos pos : Pos} (hb : attributeBase o (Str.ofString "get") c.env (eval o c.env) = eval o c.env) (hl : (apos.endLine == pos.line) = true) (hy : args.all notStar = true) (hlen : args.length ≤ 4)
    {k : Value → Vs → DM → Prop} (ho : W G c σ V D (eval o c.env) fun x V1 D1 => ∃ l kvs, x = .ref l ∧ SdAt D1 l kvs ∧ W G c σ V1 D1 (PySem.callWith pos (.builtin "dict.get") [x] (backTo pos (starEach args c.env)) []) k) :
    W G c σ V D (eval (.Call (.Attribute o (Str.ofString "get") apos) args [] pos) c.env) k := fun s Q E R q => by
  have hp := plainTrees pos c.env args hy
  refine wpAny_Call_method (T := "dict") hb ?_ hl F.plainAttrs_dict F.slot_dict_get F.type_dict_get (ho s _ E R fun v V1 D1 h1 t1 R1 hk => ?_)
  · rw [List.any_eq_false] at hp
    simp only [Bool.and_eq_true, List.all_eq_true, decide_eq_true_eq, Bool.not_eq_true']
    refine ⟨⟨fun x hx => ?_, fun x hx => by cases hx⟩, ?_⟩
    · have := hp x hx
      simpa using this
    · show args.length + 0 + 0 < 30
      omega
  · obtain ⟨l, kvs, rfl, hl1, hk⟩ := hk
    have hd := (hl1.dictOf R1).2
    exact ⟨(mapOf_of hd).typeIs, (mapOf_of hd).noDict, hk _ Q E R1 q⟩
end
end Mine

namespace Mine
section
variable {G : Gl} {c : Cx} {n : Nat} {ck : Ck} {σ : List Str} {V : Vs} {D : DM}

theorem srcStart (hK : c.Ok G n) {s : Shared} (R : Rp G c σ V D s.heap) {kd : Nat} {sv : Value} {P : (m : Nat) → (item : Nat → Value → Prop) → (still : DM → Prop) → (start : DM → DM → Prop) → (back : DM → DM) → Prop} (h : srcR D kd sv P)
    {Q : Value → Shared → Prop} {E : Value → Shared → Prop}
    (q : ∀ it m item still start back D2 h' cond Pp o₀, Rp G c σ V D2 h' → start D D2 → (kd < 2 → D2 = D) → P m item still start back → (∀ (c' : Cx) σ' V' D' h, Rp G c' σ' V' D' h → still D' → Rp G c' σ' V' (back D') h) → Iter G c.A cond it m item Pp → h'.get? it = some o₀ → Pp 0 o₀ → Off G c it → D2 it = none →
      (∀ (c' : Cx) σ' V' D' h, Rp G c' σ' V' D' h → still D' → cond h) → m ≤ big → Q (.ref it) { s with heap := h' }) : wpAny (model G.prog G.w) c.A (pyIter sv) Q E s := by
  have free := R.free hK _ (Nat.le_refl _)
  unfold srcR at h
  split at h
  · obtain ⟨l, vs, rfl, hl, hb, hP⟩ := h
    refine wpAny_pyIter_list (hl.isList R) ?_
    exact q _ _ _ _ _ _ D _ _ _ _ (R.keeps fun b o e => Heap.get?_push_of_some _ e) rfl (fun _ => rfl) hP (fun _ _ _ _ _ R _ => R) (iterList hK.handled s.heap.objs.size l vs) (Heap.get?_push_size _ rfl) ⟨rfl, rfl⟩ free.off free.dy (fun c' σ' V' D' h R' hs => hs.isList R') hb
  · obtain ⟨l, lo, hi, rfl, hl, hb, hP⟩ := h
    obtain ⟨⟨t, u, v, hr⟩, hs⟩ := (R.dy l _ hl).2.2.2.2
    refine wpAny_pyIter_range hr hs ?_
    refine q _ _ _ _ _ _ D _ _ _ _ (R.keeps fun b o e => Heap.get?_push_of_some _ e) rfl (fun _ => rfl) hP (fun _ _ _ _ _ R _ => R) (iterRange hK.handled s.heap.objs.size lo (hi - lo).toNat) (Heap.get?_push_size _ rfl) ?_ free.off free.dy (fun c' σ' V' D' h R' hs => trivial) hb
    rw [rangeSize_one]
    simp
  · rename_i g0 g1
    obtain ⟨l, kvs, rfl, hl, hb, hP⟩ := h
    have hd : s.heap.DictOf (strKind G.prog G.w) l kvs := (R.dy l _ hl).2.2.2.2
    have hsys := ((R.dy l _ hl).2.2.1 rfl).2.1
    obtain ⟨ep, ha⟩ := hd.dictAt
    have h1 := hl
    have hw : (Cel.ds kvs).rw = true := rfl
    have R1 := R.change (o' := .dse kvs ep) h1 hw (Heap.SameBut.refl ..) ha
    have hne : l ≠ s.heap.objs.size := fun e => by rw [e, free.dy] at h1; cases h1
    refine wpAny_pyIter_dict hsys ha ?_
    refine q _ _ _ _ _ _ (D.put l (.dse kvs ep)) _ _ _ _ (R1.keeps fun b o e => Heap.get?_push_of_some _ e) rfl (fun q => absurd (show kd = 0 ∨ kd = 1 by omega) fun z => z.elim g0 g1) (hP ep) (fun c' σ' V' D' h R' hs => R'.change hs rfl (Heap.SameBut.refl ..) (Heap.DictAt.dictOf (R'.dy _ _ hs).2.2.2.2)) (iterDict hK.handled s.heap.objs.size l kvs ep) (Heap.get?_push_size _ rfl) ⟨rfl, rfl⟩ free.off ?_ (fun c' σ' V' D' h R' hs => (R'.dy _ _ hs).2.2.2.2) hb
    rw [DM.put_ne _ _ (Ne.symm hne)]; exact free.dy

theorem blk_of (X : Good G n ck c) {scope : Scope} {x : Nat} {xid : Str} (h : ck.blk scope x xid = true) : Blk c ck.σ scope x xid := by
  unfold Ck.blk at h
  simp only [Bool.and_eq_true, beq_iff_eq, List.all_eq_true, decide_eq_true_eq, Bool.not_eq_true', Bool.or_eq_true] at h
  obtain ⟨⟨⟨⟨⟨⟨h1, h2⟩, h3⟩, h4⟩, h5⟩, h6⟩, h7⟩ := h
  have ne : ∀ {a b : Str}, (a == b) = false → a ≠ b := fun e q => by rw [q] at e; simp at e
  refine ⟨h1, X.ok.kind, fun y hy q => ?_, fun y hy q => ?_, fun y hy q => ?_, h3, h4, fun s hs => ne (h5 s hs), ne h6, h7⟩
  · have := h2 y hy; rw [q] at this; cases this
  · have := h2 y hy
    rw [q] at this
    have e : ck.names.lookup y.1 = some .cell := by simpa using this
    exact ⟨X.cells _ e, (X.kind _).trans e⟩
  · have := h2 y hy
    rw [q] at this
    simpa using this

theorem good_inner (X : Good G n ck c) {scope : Scope} {x : Nat} {xid : Str} (h : ck.blk scope x xid = true) {c' : Cx} {C : Addr} (hK : c'.Ok G (n + off ck.hv)) (he : c'.env = compEnvC scope (closeL c.env.cells scope.names []) C c.env) (ho : c'.own = false) :
    Good G n (ck.inner scope x xid) c' := by
  have B := blk_of X h
  have en : (relabel scope c.env).names = (ck.inner scope x xid).names := by
    show scope.names.map _ = scope.names.map _
    refine List.map_congr_left fun y hy => ?_
    obtain ⟨nm, kd⟩ := y
    simp only [X.ok.kind, X.kind nm, beq_self_eq_true, Bool.and_true]
  refine ⟨X.f, hK, by rw [he]; exact en, by rw [ho]; rfl, fun id hid => ?_, X.C⟩
  rw [he]
  show ((closeL c.env.cells scope.names []).lookup id).isSome = true
  rw [← en] at hid
  have hid' : (scope.names.map fun (n, k) => if (k == NameKind.free && c.env.scope.kind == .function && c.env.kindOf n == some .cell) = true then (n, NameKind.cell) else (n, k)).lookup id = some .cell := hid
  rw [lookup_relabel] at hid'
  obtain ⟨kd, hkd, hk⟩ := Option.map_eq_some_iff.mp hid'
  have hmem : (id, kd) ∈ scope.names := by
    have : ∀ (l : List (Str × NameKind)), l.lookup id = some kd → (id, kd) ∈ l := by
      intro l
      induction l with
      | nil => intro e; cases e
      | cons z r ih =>
        intro e
        obtain ⟨a, b⟩ := z
        rw [List.lookup_cons] at e
        split at e
        · rename_i q; cases e; rw [eq_of_beq q]; exact .head _
        · exact .tail _ (ih e)
    exact this _ hkd
  have hfree : kd = .free := by
    by_cases z : (kd == NameKind.free && c.env.scope.kind == .function && c.env.kindOf id == some .cell) = true
    · simp only [Bool.and_eq_true, beq_iff_eq] at z; exact z.1.1
    · rw [if_neg z] at hk; subst hk; exact absurd rfl (B.nocell _ hmem)
  subst hfree
  obtain ⟨c1, _, c3⟩ := closeL_mem (cells := c.env.cells) (names := scope.names) (acc := []) (fun y hy hf => (B.free y hy hf).1) (fun _ hp => nomatch hp)
  obtain ⟨p, hp, hpid⟩ := c3 _ hmem rfl
  obtain ⟨ca, hca⟩ := Option.isSome_iff_exists.mp (B.free _ hmem rfl).1
  rw [lookup_of_all (b := ca) (fun p' hp' hq => ?_) ⟨p, hp, hpid⟩]
  · rfl
  · have := c1 p' hp'
    rw [hq] at this
    simp only at hca
    rw [hca] at this
    exact (Option.some.inj this).symm

/-- what a comprehension's walk asks -/
noncomputable def compR (G : Gl) (n : Nat) (D1 : DM) (V : Vs) (kd : Nat) (x : Nat) (sv : Value) (elt : E) (k : Value → DM → Prop) : Prop :=
  srcR D1 kd sv fun m item still start back => kd < 2 ∧ ∃ I : Nat → List Value → DM → Prop, I 0 [] D1 ∧ (∀ i out D2, I i out D2 → still D2) ∧
      (∀ i out D2 v, i < m → item i v → out.length = i → I i out D2 → wpE G n elt (V.set x (some v)) D2 fun y D3 => I (i + 1) (out ++ [y]) D3) ∧
      ∀ out D2 a, I m out D2 → out.length = m → D2 a = Option.none → k (.ref a) (D2.put a (.lst out))

theorem compWalk (X : Good G n ck c) {xid : Str} {px pos : Pos} {it ex : Expr} {scope : Scope} {kd x : Nat} {elt : E} (hset : notSet it = true) (hblk : ck.blk scope x xid = true)
    (ihElt : ∀ (c' : Cx), Good G n (ck.inner scope x xid) c' → ∀ V D k, wpE G n elt V D k → WV G c' (ck.inner scope x xid) V D (eval ex c'.env) k)
    {use : Option (Value → Sem Unit)} {s : Shared} (R : Rp G c ck.σ V D s.heap) {k : Value → DM → Prop} {Q : Value → Shared → Prop} {E : Value → Shared → Prop}
    (hsrc : WV G c ck V D (eval it c.env) fun sv D1 => compR G n D1 V kd x sv elt k)
    (hR : ∀ a D1 C oC h' tk', (∃ mm, ∀ h : Heap, h.get? C = some oC → h.Ns C mm) → k (.ref a) D1 → Rp G (c.guard C oC) ck.σ V D1 h' → Off G c C → D1 C = none → compPost (model G.prog G.w) c.A E use Q (.ref a) C (.ok .next) { s with heap := h', toks := tk' }) :
    wpAny (model G.prog G.w) c.A (comprehension (.ListComp ex [⟨.Name xid px, it, [], 0⟩] scope pos) scope c.env (firstIterPos [⟨.Name xid px, it, [], 0⟩] pos) (newList []) false (eval it c.env) use) Q E s := by
  have B := blk_of X hblk
  have hK := X.ok
  refine wpAny_comprehension_free rfl (fun x => by cases it <;> first | rfl | cases hset) (closure_eq fun y hy hf => (B.free y hy hf).1) B.kind (fun y hy hl => (B.loc y hy hl).2) ?_
  refine hsrc s _ E R fun sv V1 D1 h1 t1 R1 hh => ?_
  obtain ⟨rfl, hc⟩ := hh
  refine srcStart hK R1 (s := { s with heap := h1, toks := t1 }) hc fun itA m item still start back D2 h2 cond Pp o₀ R2 hst h2D hP hbk IT ho hp0 hOff hd0 hcond hmb => ?_
  obtain ⟨hkd, I, hI0, hIs, hIt, hIe⟩ := hP
  have hD2 : D2 = D1 := h2D hkd
  subst hD2
  refine compIter hK R2 (s := { s with heap := h2, toks := t1 }) IT ho hp0 hOff hd0 B (Nat.le_trans hmb big_le) I hI0 (fun c' σ' V' i out D' h R' hI => hcond c' σ' V' D' h R' (hIs i out D' hI)) (fun c' C hK' he ho' i v out D' hv hi hl hI => ?_) fun out D' acc C oC h' tk' hN hI hl hacc R' hC => ?_
  · have hg := good_inner X hblk hK' he ho'
    exact ihElt c' hg _ _ _ (hIt i out D' v hi hv hl hI)
  · refine hR acc _ C oC h' tk' hN (hIe out D' acc hI hl hacc) R' hC (R'.guard_dy hC.old)
end
end Mine

namespace Mine

noncomputable abbrev WB (G : Gl) (c : Cx) (ck : Ck) (V : Vs) (D : DM) (t : Sem Bool) (k : Bool → DM → Prop) : Prop := W G c ck.σ V D t fun v V' D' => V' = V ∧ k v D'
noncomputable abbrev WL (G : Gl) (c : Cx) (ck : Ck) (V : Vs) (D : DM) (t : Sem (List Value)) (k : List Value → DM → Prop) : Prop := W G c ck.σ V D t fun v V' D' => V' = V ∧ k v D'

noncomputable def SE (e : E) : Prop := ∀ {G : Gl} {n : Nat} {ck : Ck} {c : Cx} (X : Good G n ck c) (V : Vs) (D : DM) (k : Value → DM → Prop) (x : Expr), chkE ck e x = true → wpE G n e V D k → WV G c ck V D (eval x c.env) k
noncomputable def ST (t : T) : Prop := ∀ {G : Gl} {n : Nat} {ck : Ck} {c : Cx} (X : Good G n ck c) (V : Vs) (D : DM) (k : Bool → DM → Prop) (x : Expr), chkT ck t x = true → wpT G n t V D k → WB G c ck V D (isTrue x c.env (eval x c.env)) k
noncomputable def SEs (es : Es) : Prop := ∀ {G : Gl} {n : Nat} {ck : Ck} {c : Cx} (X : Good G n ck c) (V : Vs) (D : DM) (k : List Value → DM → Prop) (xs : List Expr) (pos : Pos), chkEs ck es xs = true → wpEs G n es V D k → WL G c ck V D (spliced (backTo pos (starEach xs c.env))) k
noncomputable def STa (ts : Ts) : Prop := ∀ {G : Gl} {n : Nat} {ck : Ck} {c : Cx} (X : Good G n ck c) (V : Vs) (D : DM) (k : Bool → DM → Prop) (xs : List Expr), chkTs ck ts xs = true → wpAnd G n ts V D k → WB G c ck V D (allTrue .And xs c.env) k
noncomputable def STo (ts : Ts) : Prop := ∀ {G : Gl} {n : Nat} {ck : Ck} {c : Cx} (X : Good G n ck c) (V : Vs) (D : DM) (k : Bool → DM → Prop) (xs : List Expr), chkTs ck ts xs = true → wpOr G n ts V D k → WB G c ck V D (allTrue .Or xs c.env) k

section
variable {α : Type} {G : Gl} {n : Nat} {ck : Ck} {c : Cx} {σ : List Str} {V : Vs} {D : DM}
theorem W.go {t : Sem α} {k : α → DM → Prop} (h : W G c σ V D t fun v V' D' => V' = V ∧ k v D') {s : Shared} {Q : α → Shared → Prop} {E : Value → Shared → Prop} (R : Rp G c σ V D s.heap)
    (q : ∀ v D' h' tk', Rp G c σ V D' h' → k v D' → Q v { s with heap := h', toks := tk' }) : wpAny (model G.prog G.w) c.A t Q E s :=
  h s Q E R fun v V' D' h' tk' R' hk => by obtain ⟨rfl, hk⟩ := hk; exact q v D' h' tk' R' hk
theorem W.done {t : Sem α} {k : α → DM → Prop} (h : W G c σ V D t fun v V' D' => V' = V ∧ k v D') {s : Shared} {Q : α → Shared → Prop} {E : Value → Shared → Prop} (R : Rp G c σ V D s.heap)
    (q : ∀ v V' D' h' tk', Rp G c σ V' D' h' → (V' = V ∧ k v D') → Q v { s with heap := h', toks := tk' }) : wpAny (model G.prog G.w) c.A t Q E s :=
  h s Q E R q
end

theorem sV {i : Nat} : SE (.v i) := fun X V D k x h hw => by
  replace h := onName_inv h; obtain ⟨id, np, rfl, h⟩ := h
  simp only [wpE] at hw
  cases e : V.getD i Option.none with
  | none => rw [e] at hw; exact hw.elim
  | some v => rw [e] at hw; exact W.var X h e ⟨rfl, hw⟩

theorem sCls : SE .cls := fun X V D k x h hw => by
  replace h := onName_inv h; obtain ⟨id, np, rfl, h⟩ := h
  simp only [wpE] at hw
  rw [X.C] at h
  exact W.glob X h ⟨rfl, hw⟩

theorem sNone : SE .none := fun X V D k x h hw => by
  replace h := onConst_inv h; obtain ⟨cc, kk, pp, rfl, h⟩ := h
  obtain rfl := of_decide_eq_true h
  simp only [wpE] at hw
  exact W.same fun s Q E R q => wpAny_Constant_none (q _ s.toks ⟨rfl, hw⟩)

theorem sBool {b : Bool} : SE (.bool b) := fun X V D k x h hw => by
  replace h := onConst_inv h; obtain ⟨cc, kk, pp, rfl, h⟩ := h
  obtain rfl := of_decide_eq_true h
  simp only [wpE] at hw
  exact W.same fun s Q E R q => wpAny_Constant_bool (q _ s.toks ⟨rfl, hw⟩)

theorem sInt {i : Int} : SE (.int i) := fun X V D k x h hw => by
  replace h := onConst_inv h; obtain ⟨cc, kk, pp, rfl, h⟩ := h
  obtain rfl := of_decide_eq_true h
  simp only [wpE] at hw
  exact W.same fun s Q E R q => wpAny_Constant_int (q _ _ ⟨rfl, hw _⟩)

theorem sStr {i : String} : SE (.str i) := fun X V D k x h hw => by
  replace h := onConst_inv h; obtain ⟨cc, kk, pp, rfl, h⟩ := h
  obtain rfl := of_decide_eq_true h
  simp only [wpE] at hw
  exact W.same fun s Q E R q => wpAny_Constant_str (q _ _ ⟨rfl, hw _⟩)

theorem sBin {op : Operator} {a b : E} (ha : SE a) (hb : SE b) : SE (.bin op a b) := fun X V D k x h hw => by
  replace h := onBin_inv h; obtain ⟨l, op1, r, pp, rfl, h⟩ := h
  simp only [Bool.and_eq_true, beq_iff_eq] at h
  obtain ⟨⟨rfl, h1⟩, h2⟩ := h
  simp only [wpE] at hw
  refine fun s Q E R q => wpAny_BinOp ((ha X V D _ _ h1 hw).go R fun v D1 g1 t1 R1 k1 => (hb X V D1 _ _ h2 k1).go R1 fun u D2 g2 t2 R2 k2 => ?_)
  exact W.bin X.ok (k := fun v V' D' => V' = V ∧ k v D') (binR_mono k2 fun v D' z => ⟨rfl, z⟩) _ Q E R2 q
theorem sNeg {a : E} (ha : SE a) : SE (.neg a) := fun X V D k x h hw => by
  replace h := onUn_inv h; obtain ⟨uop, x0, pp, rfl, h⟩ := h
  replace h := and_of h; obtain ⟨h0, h⟩ := h; obtain rfl := of_decide_eq_true h0
  simp only [wpE] at hw
  refine fun s Q E R q => wpAny_UnaryOp ((ha X V D _ _ h hw).go R fun v D1 g1 t1 R1 k1 => ?_)
  cases v <;> first | exact False.elim k1 | skip
  · exact W.neg (k := fun v V' D' => V' = V ∧ k v D') (fun t => ⟨rfl, k1 t⟩) _ Q E R1 q

theorem marks_of {op : CmpOp} {r : Expr} (h : notSet r = true) : behindInMarks op r = false := by cases r <;> first | rfl | cases h
theorem sCmp {op : CmpOp} {a b : E} (ha : SE a) (hb : SE b) : SE (.cmp op a b) := fun X V D k x h hw => by
  replace h := onCmp_inv h; obtain ⟨l, ops, rs, pp, rfl, h⟩ := h
  replace h := one_inv h; obtain ⟨op1, rfl, h⟩ := h
  replace h := one_inv h; obtain ⟨r, rfl, h⟩ := h
  simp only [Bool.and_eq_true, beq_iff_eq] at h
  obtain ⟨⟨⟨rfl, h0⟩, h1⟩, h2⟩ := h
  simp only [wpE] at hw
  refine fun s Q E R q => wpAny_Compare1 ((ha X V D _ _ h1 hw).go R fun v D1 g1 t1 R1 k1 => (hb X V D1 _ _ h2 k1).go R1 fun u D2 g2 t2 R2 k2 => ?_) (marks_of h0)
  obtain ⟨r, hr, hk⟩ := k2
  exact W.cmp X.ok hr (k := fun v V' D' => V' = V ∧ k v D') ⟨rfl, hk⟩ _ Q E R2 q

theorem sOr2 {a b : E} (ha : SE a) (hb : SE b) : SE (.or2 a b) := fun X V D k x h hw => by
  replace h := onBool_inv h; obtain ⟨bop, xs, pp, rfl, h⟩ := h
  replace h := and_of h; obtain ⟨h0, h⟩ := h; obtain rfl := of_decide_eq_true h0
  replace h := two_inv h; obtain ⟨x0, y0, rfl, h⟩ := h
  simp only [Bool.and_eq_true] at h
  simp only [wpE] at hw
  refine fun s Q E R q => wpAny_Or2 ((ha X V D _ _ h.1 hw).go R fun v D1 g1 t1 R1 k1 => ?_)
  obtain ⟨r, hr, k2, k3⟩ := k1
  refine W.go (W.truthy hr (k := fun r' V' D' => V' = V ∧ (r' = r ∧ D' = D1)) ⟨rfl, rfl, rfl⟩) R1 fun r' D2 g2 t2 R2 e => ?_
  obtain ⟨rfl, rfl⟩ := e
  cases r' with
  | true => exact q _ _ _ _ _ R2 ⟨rfl, k2 rfl⟩
  | false => exact (hb X V D2 _ _ h.2 (k3 rfl)).done R2 q

theorem sIte {t : T} {a b : E} (ht : ST t) (ha : SE a) (hb : SE b) : SE (.ite t a b) := fun X V D k x h hw => by
  replace h := onIfE_inv h; obtain ⟨x0, y0, z0, pp, rfl, h⟩ := h
  simp only [Bool.and_eq_true] at h
  obtain ⟨⟨h0, h1⟩, h2⟩ := h
  simp only [wpE] at hw
  refine fun s Q E R q => wpAny_IfExp ((ht X V D _ _ h0 hw).go R fun v D1 g1 t1 R1 k1 => ?_)
  cases v with
  | true => exact (ha X V D1 _ _ h1 (k1.1 rfl)).done R1 q
  | false => exact (hb X V D1 _ _ h2 (k1.2 rfl)).done R1 q

theorem sLst {es : Es} (he : SEs es) : SE (.lst es) := fun X V D k x h hw => by
  replace h := onLst_inv h; obtain ⟨xs, pp, rfl, h⟩ := h
  simp only [wpE] at hw
  rw [arm_eval_List]
  refine W.bind (W.standAt (W.bind ((he X V D _ _ _ h hw).mono fun vs V' D' hk => ?_)))
  obtain ⟨rfl, hl, hk⟩ := hk
  exact W.newList X.ok (Nat.le_trans hl (by decide)) fun a ha => ⟨rfl, hk a ha⟩

theorem sTup {es : Es} (he : SEs es) : SE (.tup es) := fun X V D k x h hw => by
  replace h := onTup_inv h; obtain ⟨xs, kk, pp, rfl, h⟩ := h
  simp only [wpE] at hw
  rw [arm_eval_Tuple]
  refine W.bind (W.standAt (W.bind ((he X V D _ _ _ h hw).mono fun vs V' D' hk => ?_)))
  obtain ⟨rfl, hl, hk⟩ := hk
  exact W.newTuple X.ok (Nat.le_trans hl (by decide)) fun a ha => ⟨rfl, hk a ha⟩


theorem sDct0 {b : Bool} : SE (.dct0 b) := fun X V D k x h hw => by
  replace h := onDict_inv h; obtain ⟨kx, vx, pp, rfl, h⟩ := h
  obtain ⟨h0, h1⟩ := and_of h; obtain rfl := nil_of h0; obtain rfl := nil_of h1
  simp only [wpE] at hw
  intro s Q E R q
  refine wpAny_Dict_empty ?_
  cases b with
  | true => exact q _ _ _ _ s.toks (R.alloc X.ok (a := .ds []) (Heap.DictOf.new _)) ⟨rfl, hw _ R.fresh⟩
  | false => exact q _ _ _ _ s.toks (R.alloc X.ok (a := .di []) (Heap.DictOf.new _)) ⟨rfl, hw _ R.fresh⟩


theorem sBad : SE .bad := fun X V D k x h hw => by simp only [wpE] at hw
theorem attBase {x : Expr} {attr : Str} {env : Env} (h : notCall x = true) : ∀ t, attributeBase x attr env t = t := by
  intro t; cases x <;> first | rfl | cases h
theorem sAtt {a : E} {i : Nat} (ha : SE a) : SE (.att a i) := fun X V D k x h hw => by
  replace h := onAttr_inv h; obtain ⟨x0, attr, pos, rfl, h⟩ := h
  rw [Bool.and_eq_true, Bool.and_eq_true, Bool.and_eq_true] at h
  obtain ⟨⟨⟨h1, h2⟩, h3⟩, h4⟩ := h
  have h1 := eq_of_beq h1
  subst h1
  simp only [decide_eq_true_eq] at h2
  simp only [wpE] at hw
  refine fun s Q E R q => Attribute_any_ ((ha X V D _ _ h3 hw).go R fun v D1 g1 t1 R1 k1 => ?_) (by rw [arm_eval_Attribute, attBase h4])
  obtain ⟨l, d, fs, u, rfl, e1, e2, e3, hk⟩ := k1
  exact W.getAttr (k := fun v V' D' => V' = V ∧ k v D') X.f.vecK X.ok e1 e2 h2 e3 ⟨rfl, hk⟩ _ Q E R1 q


theorem itm_mono {D : DM} {o i : Value} {k k' : Value → Prop} (h : itmR D o i k) (hk : ∀ v, k v → k' v) : itmR D o i k' := by
  replace h := onRef_inv h; obtain ⟨l, rfl, h⟩ := h
  · rcases h with ⟨vs, j, t, v, hl, e, h0, h1, hv, hk'⟩ | ⟨vs, j, t, v, hl, e, h0, h1, hv, hk'⟩ | ⟨kvs, x, t, v, hl, e, hv, hk'⟩ | ⟨kvs, x, t, v, hl, e, hv, hk'⟩
    · exact .inl ⟨vs, j, t, v, hl, e, h0, h1, hv, hk _ hk'⟩
    · exact .inr (.inl ⟨vs, j, t, v, hl, e, h0, h1, hv, hk _ hk'⟩)
    · exact .inr (.inr (.inl ⟨kvs, x, t, v, hl, e, hv, hk _ hk'⟩))
    · exact .inr (.inr (.inr ⟨kvs, x, t, v, hl, e, hv, hk _ hk'⟩))

theorem sIdx {a i : E} (ha : SE a) (hi : SE i) : SE (.idx a i) := fun X V D k x h hw => by
  replace h := onSub_inv h; obtain ⟨x0, y0, pp, rfl, h⟩ := h
  simp only [Bool.and_eq_true] at h
  obtain ⟨⟨h0, h1⟩, h2⟩ := h
  simp only [wpE] at hw
  refine fun s Q E R q => Subscript_ ((ha X V D _ _ h1 hw).go R fun v D1 g1 t1 R1 k1 => (hi X V D1 _ _ h2 k1).go R1 fun u D2 g2 t2 R2 k2 => ?_)
  exact W.sub (k := fun v V' D' => V' = V ∧ k v D') X.ok h0 (itm_mono k2 fun v hv => ⟨rfl, hv⟩) _ Q E R2 q

theorem sSidx {st : String} {i : E} (hi : SE i) : SE (.sidx st i) := fun X V D k x h hw => by
  replace h := onSub_inv h; obtain ⟨x0, y0, pp, rfl, h⟩ := h
  replace h := onConst_inv h; obtain ⟨cc, kk, pc, rfl, h⟩ := h
  replace h := and_of h; obtain ⟨h0, h⟩ := h; obtain rfl := of_decide_eq_true h0
  obtain ⟨h1, h2⟩ := and_of h
  simp only [wpE] at hw
  refine fun s Q E R q => Subscript_ (wpAny_Constant_str ((hi X V D _ _ h2 hw).go (s := { s with toks := s.toks + 1 }) R fun u D2 g2 t2 R2 k2 => ?_))
  obtain ⟨j, t, ch, rfl, e0, e1, e2, hk⟩ := k2
  exact W.strItem (k := fun v V' D' => V' = V ∧ k v D') h1 e0 e1 e2 (fun t' => ⟨rfl, hk t'⟩) _ Q E R2 q

theorem sSlc {a b : E} (ha : SE a) (hb : SE b) : SE (.slc a b) := fun X V D k x h hw => by
  replace h := onSub_inv h; obtain ⟨x0, y0, pos, rfl, h⟩ := h
  replace h := onSlice_inv h; obtain ⟨lo, hi, st, p, rfl, h⟩ := h
  replace h := and_of h; obtain ⟨h0, h⟩ := h; obtain rfl := Option.isNone_iff_eq_none.mp h0
  replace h := and_of h; obtain ⟨h0, h⟩ := h; obtain rfl := Option.isNone_iff_eq_none.mp h0
  replace h := some1_inv h; obtain ⟨y, rfl, h⟩ := h
  simp only [Bool.and_eq_true] at h
  simp only [wpE] at hw
  refine fun s Q E R q => Subscript_ ((ha X V D _ _ h.1 hw).go R fun v D1 g1 t1 R1 k1 => ?_)
  rw [arm_eval_Slice]
  refine wpAny_bind (wpAny_pure (wpAny_bind (wpAny_holding ((hb X V D1 _ _ h.2 k1).go R1 fun u D2 g2 t2 R2 k2 => wpAny_bind (wpAny_holding (wpAny_pure ?_))))))
  obtain ⟨l, vs, j, t, rfl, e1, e2, rfl, e3, hk⟩ := k2
  exact W.slice (value := x0) (hi := y) (p := p) (t := t) (k := fun v V' D' => V' = V ∧ k v D') (lo := none) X.ok e1 e2 e3 (fun a ha => ⟨rfl, hk a ha⟩) { s with heap := g2, toks := t2 } Q E R2 q


theorem callR_mono {G : Gl} {n : Nat} {f : Fn} {vs : List Value} {D : DM} {k k' : Value → DM → Prop} (h : callR G n f vs D k) (hk : ∀ v D', k v D' → k' v D') : callR G n f vs D k' := by
  cases f with
  | own a => exact Calls.mono h hk
  | vec =>
    replace h : vecC vs D k := h
    show vecC vs D k'
    rcases vecC_inv h with ⟨kd, it, rfl, h⟩ | ⟨kd, it, at_, rfl, h⟩
    · exact ⟨h.1, h.2.1, fun x d e1 e2 e3 => hk _ _ (h.2.2 x d e1 e2 e3)⟩
    · exact ⟨h.1, h.2.1, h.2.2.1, fun x d e1 e2 e3 => hk _ _ (h.2.2.2 x d e1 e2 e3)⟩
  | len =>
    replace h := l1_inv h; obtain ⟨a, rfl, h⟩ := h
    replace h := onRef_inv h; obtain ⟨l, rfl, h⟩ := h
    rcases h with ⟨vs, a, b, z⟩ | ⟨vs, a, b, z⟩ | ⟨vs, a, b, z⟩
    · exact .inl ⟨vs, a, b, fun t => hk _ _ (z t)⟩
    · exact .inr (.inl ⟨vs, a, b, fun t => hk _ _ (z t)⟩)
    · exact .inr (.inr ⟨vs, a, b, fun t => hk _ _ (z t)⟩)
  | range =>
    replace h : rngC vs D k := h
    show rngC vs D k'
    rcases rngC_inv h with ⟨hi, t, rfl, h⟩ | ⟨lo, t, hi, u, rfl, h⟩
    · exact ⟨h.1, h.2.1, fun a e => hk _ _ (h.2.2 a e)⟩
    · exact ⟨h.1, h.2.1, h.2.2.1, h.2.2.2.1, fun a e => hk _ _ (h.2.2.2.2 a e)⟩
  | list =>
    replace h := l1_inv h; obtain ⟨a, rfl, h⟩ := h
    replace h := onRef_inv h; obtain ⟨l, rfl, h⟩ := h
    rcases h with ⟨vs, a, b, z⟩ | ⟨lo, hi, a, b, z⟩
    · exact .inl ⟨vs, a, b, fun t e => hk _ _ (z t e)⟩
    · exact .inr ⟨lo, hi, a, b, fun t vs e1 e2 e3 => hk _ _ (z t vs e1 e2 e3)⟩
  | str =>
    replace h := l1_inv h; obtain ⟨a, rfl, h⟩ := h
    replace h := onInt_inv h; obtain ⟨i, t, rfl, h⟩ := h
    exact ⟨h.1, fun t => hk _ _ (h.2 t)⟩
  | isinst =>
    replace h := l2_inv h; obtain ⟨a, b, rfl, h⟩ := h
    replace h := onRef_inv h; obtain ⟨x, rfl, h⟩ := h
    replace h := onRef_inv h; obtain ⟨y, rfl, h⟩ := h
    exact ⟨h.1, h.2.1, hk _ _ h.2.2⟩
  | abs =>
    replace h := l1_inv h; obtain ⟨a, rfl, h⟩ := h
    replace h := onInt_inv h; obtain ⟨i, t, rfl, h⟩ := h
    exact fun t => hk _ _ (h t)
  | max =>
    replace h := l2_inv h; obtain ⟨a, b, rfl, h⟩ := h
    replace h := ints2_inv h; obtain ⟨x, t, y, u, rfl, rfl, h⟩ := h
    exact fun t => hk _ _ (h t)
  | min =>
    replace h := l2_inv h; obtain ⟨a, b, rfl, h⟩ := h
    replace h := ints2_inv h; obtain ⟨x, t, y, u, rfl, rfl, h⟩ := h
    exact fun t => hk _ _ (h t)

theorem sCall {f : Fn} {args : Es} (hs : SEs args) : SE (.call f args) := fun {G n ck c} X V D k x h hw => by
  replace h := onCall_inv h; obtain ⟨fx, xs, kw, pos, rfl, h⟩ := h
  replace h := onName_inv h; obtain ⟨id, np, rfl, h⟩ := h
  replace h := and_of h; obtain ⟨h0, h⟩ := h; obtain rfl := nil_of h0
  replace h := and_of h; obtain ⟨h1, h⟩ := h
  replace h := and_of h; obtain ⟨h2, h⟩ := h
  obtain ⟨h3, h4⟩ := and_of h
  simp only [wpE] at hw
  have hvec : f = .vec → ck.hv = true := fun e => by subst e; exact h1
  rw [X.C] at h2
  refine fun s Q E R q => wpAny_Call_ofName (W.glob (D := D) (V := V) (k := fun v V' D' => V' = V ∧ (v = f.val G.C ∧ D' = D)) X h2 ⟨rfl, rfl, rfl⟩ |>.go R fun v D1 g1 t1 R1 e => ?_)
  obtain ⟨rfl, rfl⟩ := e
  have hargs := hs X V D1 _ xs pos h4 hw
  cases xs with
  | nil => cases h3
  | cons y ys =>
    have hy : notStar y = true := by
      cases args with
      | nil => cases h4
      | cons e r => obtain ⟨_, _, q, h5⟩ := cns_inv h4; cases q; exact (and_of (and_of h5).1).1
    have hstar : ∀ (es : Es) (zs : List Expr), chkEs ck es zs = true → zs.all notStar = true := by
      intro es
      induction es using Es.rec (motive_1 := fun _ => True) (motive_2 := fun _ => True) (motive_4 := fun _ => True) with
      | nil => intro zs hz; rw [nil_of hz]; rfl
      | cons e r _ ih => 
        intro zs hz
        cases zs with
        | nil => rfl
        | cons z zs =>
          obtain ⟨_, _, q, h5⟩ := cns_inv hz
          cases q
          simp only [List.all_cons, Bool.and_eq_true]
          exact ⟨(and_of (and_of h5).1).1, ih _ (and_of h5).2⟩
      | _ => trivial
    have hys := hstar _ _ h4
    rw [List.all_cons, Bool.and_eq_true] at hys
    have e0 : backTo pos (starEach (y :: ys) c.env) = (false, eval y c.env) :: backTo pos (starEach ys c.env) := by rw [starEach_cons hy]; rfl
    rw [e0] at hargs ⊢
    have hf : keepIn G.K (f.val G.C) = true ∨ (∃ i, f.val G.C = .builtin i) ∨ ∃ T, f.val G.C = .type T := by
      unfold Ck.glob at h2
      simp only [Bool.and_eq_true, beq_iff_eq, Bool.not_eq_true'] at h2
      rcases X.f.tbl _ _ h2.2 with ⟨_, e⟩ | ⟨_, _, _, e⟩
      · exact .inl e
      · exact .inr e
    refine W.callWith X.ok hf (plainTrees pos c.env ys hys.2) (hargs.mono fun vs V' D' hk => ?_) { s with heap := g1, toks := t1 } Q E R1 q
    obtain ⟨rfl, hk⟩ := hk
    exact W.callR' (k := fun v V'' D' => V'' = V' ∧ k v D') X hvec (callR_mono hk fun v D' z => ⟨rfl, z⟩)


theorem isName {x : Expr} (h : isNm x = true) : ∃ y p, x = .Name y p := Expr.Name.elim (motive_1 := fun x => ∃ y p, x = .Name y p) x (Nat.eq_of_beq_eq_true h) fun y p => ⟨y, p, rfl⟩
theorem sApp {o e : E} (ho : SE o) (he : SE e) : SE (.app o e) := fun X V D k x h hw => by
  replace h := meth1_inv h; obtain ⟨x0, y, apos, pos, rfl, h2, h3, h4, h⟩ := h
  obtain ⟨h5, h6⟩ := and_of h
  simp only [wpE] at hw
  refine lmAppend (isName h3) h2 h4 ((ho X V D _ _ h5 hw).mono fun x V1 D1 hk => ?_)
  obtain ⟨rfl, l, vs, rfl, e1, hk⟩ := hk
  refine ⟨l, vs, rfl, e1, (he X V1 D1 _ _ h6 hk).mono fun v V2 D2 hk => ?_⟩
  obtain ⟨rfl, vs, e2, e3, hk⟩ := hk
  exact ⟨vs, e2, e3, rfl, hk⟩

theorem sPop {o e : E} (ho : SE o) (he : SE e) : SE (.pop o e) := fun X V D k x h hw => by
  replace h := meth1_inv h; obtain ⟨x0, y, apos, pos, rfl, h2, h3, h4, h⟩ := h
  obtain ⟨h5, h6⟩ := and_of h
  simp only [wpE] at hw
  refine lmPop (isName h3) h2 h4 ((ho X V D _ _ h5 hw).mono fun x V1 D1 hk => ?_)
  obtain ⟨rfl, l, vs, rfl, e1, hk⟩ := hk
  refine ⟨l, vs, rfl, e1, (he X V1 D1 _ _ h6 hk).mono fun v V2 D2 hk => ?_⟩
  obtain ⟨rfl, vs, j, t, u, e2, e3, e4, e5, e6, hk⟩ := hk
  exact ⟨vs, j, t, u, e2, e3, e4, e5, e6, rfl, hk⟩

theorem sNdx {o e : E} (ho : SE o) (he : SE e) : SE (.ndx o e) := fun X V D k x h hw => by
  replace h := meth1_inv h; obtain ⟨x0, y, apos, pos, rfl, h2, h3, h4, h⟩ := h
  obtain ⟨h5, h6⟩ := and_of h
  simp only [wpE] at hw
  refine lmIndex (isName h3) h2 h4 ((ho X V D _ _ h5 hw).mono fun x V1 D1 hk => ?_)
  obtain ⟨rfl, l, vs, rfl, e1, hk⟩ := hk
  refine ⟨l, vs, rfl, e1, (he X V1 D1 _ _ h6 hk).mono fun v V2 D2 hk => ?_⟩
  obtain ⟨rfl, vs, j, e2, e3, e4, e5, hk⟩ := hk
  exact ⟨vs, j, e2, e3, e4, e5, fun t => ⟨rfl, hk t⟩⟩


theorem getBase {x : Expr} {env : Env} (h : notCall x = true) : attributeBase x (Str.ofString "get") env (eval x env) = eval x env := attBase h _
theorem sGet1 {o e : E} (ho : SE o) (he : SE e) : SE (.get1 o e) := fun {G n ck c} X V D k x h hw => by
  replace h := meth1_inv h; obtain ⟨x0, y, apos, pos, rfl, h2, h3, h4, h⟩ := h
  obtain ⟨h5, h6⟩ := and_of h
  simp only [wpE] at hw
  refine dictMeth (getBase h3) h2 (by simp [h4]) (by simp) ((ho X V D _ _ h5 hw).mono fun x V1 D1 hk => ?_)
  obtain ⟨rfl, l, kvs, rfl, e1, hk⟩ := hk
  refine ⟨l, kvs, rfl, e1, fun s Q E R q => ?_⟩
  have e0 : backTo pos (starEach [y] c.env) = [(false, eval y c.env)] := by rw [starEach_cons h4]; rfl
  rw [e0]
  refine wpAny_dict_get1 (knd := strKind G.prog G.w) (e1.dictOf R).1 ((he X V1 D1 _ _ h6 hk).go R fun v D2 g2 t2 R2 hk => ?_)
  obtain ⟨kvs', z, t, e2, rfl, hk⟩ := hk
  exact ⟨z, valueAt kvs', by simp [PySem.strKind, Value.isStrOf], mapOf_of (e2.dictOf R2).2, q _ _ _ _ _ R2 ⟨rfl, hk⟩⟩

theorem sGet2 {o e d : E} (ho : SE o) (he : SE e) (hd : SE d) : SE (.get2 o e d) := fun {G n ck c} X V D k x h hw => by
  replace h := onCall_inv h; obtain ⟨fx, xs, kw, pos, rfl, h⟩ := h
  replace h := onAttr_inv h; obtain ⟨x0, nm, apos, rfl, h⟩ := h
  replace h := two_inv h; obtain ⟨y, z, rfl, h⟩ := h
  simp only [Bool.and_eq_true] at h
  obtain ⟨⟨⟨⟨⟨⟨⟨⟨h0, h1⟩, h2⟩, h3⟩, h4⟩, h4'⟩, h5⟩, h6⟩, h7⟩ := h
  obtain rfl := nil_of h0
  have h1 := eq_of_beq h1
  subst h1
  simp only [wpE] at hw
  refine dictMeth (getBase h3) h2 (by simp [h4, h4']) (by simp) ((ho X V D _ _ h5 hw).mono fun x V1 D1 hk => ?_)
  obtain ⟨rfl, l, kvs, rfl, e1, hk⟩ := hk
  refine ⟨l, kvs, rfl, e1, fun s Q E R q => ?_⟩
  have e0 : backTo pos (starEach [y, z] c.env) = [(false, eval y c.env), (false, eval z c.env)] := by rw [starEach_cons h4, starEach_cons h4']; rfl
  rw [e0]
  refine wpAny_dict_get2 (knd := strKind G.prog G.w) (e1.dictOf R).1 ((he X V1 D1 _ _ h6 hk).go R fun v D2 g2 t2 R2 hk2 => (hd X V1 D2 _ _ h7 hk2).go R2 fun u D3 g3 t3 R3 hk3 => ?_)
  obtain ⟨kvs', z, t, e2, e3, hk4⟩ := hk3
  subst e3
  exact ⟨z, valueAt kvs', by simp [PySem.strKind, Value.isStrOf], mapOf_of (e2.dictOf R3).2, q _ _ _ _ _ R3 ⟨rfl, hk4⟩⟩


theorem sComp {kd x : Nat} {src elt : E} (hs : SE src) (he : SE elt) : SE (.comp kd x src elt) := fun {G n ck c} X V D k xx h hw => by
  replace h := onComp_inv h; obtain ⟨ex, gens, scope, pos, rfl, h⟩ := h
  replace h := one_inv h; obtain ⟨gg, rfl, h⟩ := h
  obtain ⟨tg, it, ifs, asy⟩ := gg
  replace h := onName_inv h; obtain ⟨xid, px, q0, h⟩ := h
  obtain rfl : tg = .Name xid px := q0
  simp only [Bool.and_eq_true, decide_eq_true_eq] at h
  obtain ⟨⟨⟨⟨⟨h01, h02⟩, h1⟩, h2⟩, h3⟩, h4⟩ := h
  obtain rfl := nil_of h01; subst h02
  simp only [wpE] at hw
  intro s Q E R q
  rw [arm_eval_ListComp]
  refine compWalk X h1 h2 (fun c' X' V' D' k' hk => he X' V' D' k' ex h4 hk) R (k := k) (hs X V D _ _ h3 hw) fun a D1 C oC h' tk' hN hk R1 hC hdC => ?_
  obtain ⟨mm, hN⟩ := hN
  refine ⟨mm, hN _ R1.guarded, fun h'' hsb => q _ _ _ _ _ (R1.unguard hC hdC fun b ob hb e => (hsb.2 b hb).trans e) ⟨rfl, hk⟩⟩


theorem sEsNil : SEs .nil := fun X V D k xs pos h hw => by
  obtain rfl := nil_of h
  simp only [wpEs] at hw
  exact W.pure ⟨rfl, hw⟩

theorem sEsCons {e : E} {r : Es} (he : SE e) (hr : SEs r) : SEs (.cons e r) := fun X V D k xs pos h hw => by
  replace h := cns_inv h; obtain ⟨x0, xs0, rfl, h⟩ := h
  simp only [Bool.and_eq_true] at h
  obtain ⟨⟨h1, h2⟩, h3⟩ := h
  simp only [wpEs] at hw
  rw [starEach_cons h1, backTo_cons]
  refine W.spliced_cons ((he X V D _ _ h2 hw).mono fun v V1 D1 hk => ?_)
  obtain ⟨rfl, hk⟩ := hk
  exact hr X V1 D1 _ _ pos h3 hk

theorem sTaNil : STa .nil := fun X V D k xs h hw => by
  obtain rfl := nil_of h
  simp only [wpAnd] at hw
  exact W.same fun s Q E R q => wpAny_allTrue_And_nil (q _ s.toks ⟨rfl, hw⟩)

theorem sToNil : STo .nil := fun X V D k xs h hw => by
  obtain rfl := nil_of h
  simp only [wpOr] at hw
  exact W.same fun s Q E R q => wpAny_allTrue_Or_nil (q _ s.toks ⟨rfl, hw⟩)

theorem sTaCons {t : T} {r : Ts} (ht : ST t) (hr : STa r) : STa (.cons t r) := fun X V D k xs h hw => by
  replace h := cns_inv h; obtain ⟨x0, xs0, rfl, h⟩ := h
  simp only [Bool.and_eq_true] at h
  simp only [wpAnd] at hw
  refine fun s Q E R q => wpAny_allTrue_And_cons ((ht X V D _ _ h.1 hw).go R fun b D1 g1 t1 R1 k1 => ?_)
  cases b with
  | true => exact (hr X V D1 _ _ h.2 (k1.1 rfl)).done R1 q
  | false => exact q _ _ _ _ _ R1 ⟨rfl, k1.2 rfl⟩

theorem sToCons {t : T} {r : Ts} (ht : ST t) (hr : STo r) : STo (.cons t r) := fun X V D k xs h hw => by
  replace h := cns_inv h; obtain ⟨x0, xs0, rfl, h⟩ := h
  simp only [Bool.and_eq_true] at h
  simp only [wpOr] at hw
  refine fun s Q E R q => wpAny_allTrue_Or_cons ((ht X V D _ _ h.1 hw).go R fun b D1 g1 t1 R1 k1 => ?_)
  cases b with
  | false => exact (hr X V D1 _ _ h.2 (k1.2 rfl)).done R1 q
  | true => exact q _ _ _ _ _ R1 ⟨rfl, k1.1 rfl⟩

theorem sTNt {t : T} (ht : ST t) : ST (.nt t) := fun X V D k x h hw => by
  replace h := onUn_inv h; obtain ⟨uop, x0, pp, rfl, h⟩ := h
  replace h := and_of h; obtain ⟨h0, h⟩ := h; obtain rfl := of_decide_eq_true h0
  simp only [wpT] at hw
  exact fun s Q E R q => wpAny_isTrue_Not ((ht X V D _ _ h hw).go R fun b D1 g1 t1 R1 k1 => q _ _ _ _ _ R1 ⟨rfl, k1⟩)

theorem sTAnd {ts : Ts} (ht : STa ts) : ST (.and ts) := fun X V D k x h hw => by
  replace h := onBool_inv h; obtain ⟨bop, xs, pp, rfl, h⟩ := h
  replace h := and_of h; obtain ⟨h0, h⟩ := h; obtain rfl := of_decide_eq_true h0
  simp only [wpT] at hw
  exact fun s Q E R q => wpAny_isTrue_BoolOp ((ht X V D _ _ h hw).done R q)

theorem sTOr {ts : Ts} (ht : STo ts) : ST (.or ts) := fun X V D k x h hw => by
  replace h := onBool_inv h; obtain ⟨bop, xs, pp, rfl, h⟩ := h
  replace h := and_of h; obtain ⟨h0, h⟩ := h; obtain rfl := of_decide_eq_true h0
  simp only [wpT] at hw
  exact fun s Q E R q => wpAny_isTrue_BoolOp ((ht X V D _ _ h hw).done R q)

theorem sTCmp {op : CmpOp} {a b : E} (ha : SE a) (hb : SE b) : ST (.cmp op a b) := fun X V D k x h hw => by
  replace h := onCmp_inv h; obtain ⟨l, ops, rs, pp, rfl, h⟩ := h
  replace h := one_inv h; obtain ⟨op1, rfl, h⟩ := h
  replace h := one_inv h; obtain ⟨r, rfl, h⟩ := h
  simp only [Bool.and_eq_true, beq_iff_eq] at h
  obtain ⟨⟨⟨rfl, h0⟩, h1⟩, h2⟩ := h
  simp only [wpT] at hw
  refine fun s Q E R q => wpAny_isTrue_Compare1 ((ha X V D _ _ h1 hw).go R fun v D1 g1 t1 R1 k1 => (hb X V D1 _ _ h2 k1).go R1 fun u D2 g2 t2 R2 k2 => ?_) (marks_of h0)
  obtain ⟨r, hr, hk⟩ := k2
  refine W.cmp X.ok hr (k := fun v V' D' => V' = V ∧ (v = .bool r ∧ D' = D2)) ⟨rfl, rfl, rfl⟩ |>.go R2 fun v D3 g3 t3 R3 e => ?_
  obtain ⟨rfl, rfl⟩ := e
  exact wpAny_truthy_bool (q _ _ _ _ _ R3 ⟨rfl, hk⟩)

theorem sTE {a : E} (ha : SE a) : ST (.e a) := fun {G n ck c} X V D k x h hw => by
  replace h := and_of h; obtain ⟨h0, h⟩ := h
  simp only [wpT] at hw
  have fin : ∀ (s : Shared) (Q : Bool → Shared → Prop) (E : Value → Shared → Prop), Rp G c ck.σ V D s.heap → (∀ v V' D' h' tk', Rp G c ck.σ V' D' h' → (V' = V ∧ k v D') → Q v { s with heap := h', toks := tk' }) →
      wpAny (model G.prog G.w) c.A (eval x c.env) (fun v s' => wpAny (model G.prog G.w) c.A (PySem.truthy v) Q E s') E s := fun s Q E R q => (ha X V D _ _ h hw).go R fun v D1 g1 t1 R1 k1 => by
    obtain ⟨r, hr, hk⟩ := k1
    exact W.truthy (k := fun v V' D' => V' = V ∧ k v D') hr ⟨rfl, hk⟩ _ Q E R1 q
  intro s Q E R q
  rcases Bool.or_eq_true _ _ ▸ h0 with h1 | h1
  · obtain ⟨id, p, rfl⟩ : ∃ id p, x = .Name id p := isName h1
    exact wpAny_isTrue_value (fin s Q E R q) rfl
  · obtain ⟨f, xs, kw, p, rfl⟩ : ∃ f xs kw p, x = .Call f xs kw p := Expr.Call.elim (motive_1 := fun x => ∃ f xs kw p, x = .Call f xs kw p) x (Nat.eq_of_beq_eq_true h1) fun f xs kw p => ⟨f, xs, kw, p, rfl⟩
    exact wpAny_isTrue_value (fin s Q E R q) rfl
theorem sTBad : ST .bad := fun X V D k x h hw => by simp only [wpT] at hw

theorem keyNames_cons {y : Option Expr} {kx : List (Option Expr)} {ks : List Str} (h : keyNames (y :: kx) = some ks) : ∃ s k p ks', y = some (.Constant (.str s) k p) ∧ keyNames kx = some ks' ∧ ks = s :: ks' := by
  cases y with
  | none => cases h
  | some e =>
    by_cases hc : e.ctorIdx = 19
    · obtain ⟨c, k, p, rfl⟩ : ∃ c k p, e = .Constant c k p := Expr.Constant.elim (motive_1 := fun e => ∃ c k p, e = .Constant c k p) e hc fun c k p => ⟨c, k, p, rfl⟩
      replace h : ((strOf c).bind fun s => (keyNames kx).map (s :: ·)) = some ks := h
      cases c <;> first | (cases h; done) | skip
      rename_i s
      obtain ⟨ks', h1, h2⟩ := Option.map_eq_some_iff.mp h
      exact ⟨s, k, p, ks', rfl, h1, h2.symm⟩
    · have : keyNames (some e :: kx) = none := dif_neg hc
      rw [this] at h; cases h

noncomputable def SEp (es : Es) : Prop := ∀ {G : Gl} {n : Nat} {ck : Ck} {c : Cx} (X : Good G n ck c) (V : Vs) (D : DM) (k : List Value → DM → Prop) (ks : List Str) (kx : List (Option Expr)) (xs : List Expr) (pos : Pos),
  keyNames kx = some ks → kx.length = xs.length → chkEs ck es xs = true → wpEs G n es V D k →
    W G c ck.σ V D (evalPairs (pairTrees kx xs c.env pos)) fun ps V' D' => V' = V ∧ ∃ us, us.length = ks.length ∧ Carries (strKind G.prog G.w) ps (ks.zip us) ∧ k us D'

theorem sEpNil : SEp .nil := fun X V D k ks kx xs pos hk hl h hw => by
  obtain rfl := nil_of h
  cases kx with
  | nil =>
    cases hk
    simp only [wpEs] at hw
    exact W.pure ⟨rfl, [], rfl, trivial, hw⟩
  | cons => cases hl

theorem sEpCons {e : E} {r : Es} (he : SE e) (hr : SEp r) : SEp (.cons e r) := fun X V D k ks kx xs pos hk hl h hw => by
  replace h := cns_inv h; obtain ⟨x0, xs0, rfl, h⟩ := h
  simp only [Bool.and_eq_true] at h
  obtain ⟨⟨h1, h2⟩, h3⟩ := h
  simp only [wpEs] at hw
  cases kx with
  | nil => cases hl
  | cons y kx =>
    obtain ⟨st, p1, p2, ks', rfl, hk', rfl⟩ := keyNames_cons hk
    refine fun s Q E R q => pairTrees_cons_walk (wpAny_Constant_str ((he X V D _ _ h2 hw).go (s := { s with toks := s.toks + 1 }) R fun v D1 g1 t1 R1 k1 => (hr X V D1 _ ks' kx _ pos hk' (by simpa using hl) h3 k1).go R1 fun ps D2 g2 t2 R2 k2 => ?_))
    obtain ⟨us, e1, e2, k3⟩ := k2
    exact q _ _ _ _ _ R2 ⟨rfl, v :: us, by simp [e1], ⟨by simp [PySem.strKind, Value.isStrOf], rfl, e2⟩, k3⟩

theorem keyNames_some : ∀ {kx : List (Option Expr)} {ks : List Str}, keyNames kx = some ks → kx.all (·.isSome) = true ∧ kx.length = ks.length := by
  intro kx
  induction kx with
  | nil => intro ks h; cases h; exact ⟨rfl, rfl⟩
  | cons y kx ih =>
    intro ks h
    obtain ⟨st, p1, p2, ks', rfl, hk', rfl⟩ := keyNames_cons h
    obtain ⟨i1, i2⟩ := ih hk'
    exact ⟨by simpa using i1, by simp [i2]⟩

theorem sDct {ks : List String} {vs : Es} (hp : SEp vs) : SE (.dct ks vs) := fun {G n ck c} X V D k x h hw => by
  replace h := onDict_inv h; obtain ⟨kx, vx, pos, rfl, h⟩ := h
  simp only [Bool.and_eq_true, beq_iff_eq, decide_eq_true_eq, Bool.not_eq_true'] at h
  obtain ⟨⟨⟨⟨⟨h1, h2⟩, h3⟩, h4⟩, h5⟩, h6⟩ := h
  simp only [wpE] at hw
  intro s Q E R q
  obtain ⟨ha, hl⟩ := keyNames_some h1
  rw [List.length_map] at hl
  have fA := R.free X.ok _ (Nat.le_refl _)
  have hg : (s.heap.push { cls := .type "dict", data := .dict #[] }).get? s.heap.objs.size = some { cls := .type "dict", data := .dict #[] } := Heap.get?_push_size _ rfl
  have R0 := R.keeps (h' := s.heap.push { cls := .type "dict", data := .dict #[] }) fun b o e => Heap.get?_push_of_some _ e
  have R1 := R0.guard fA.off fA.dy hg
  refine wpAny_Dict_walk (knd := strKind G.prog G.w) ha h5 (fun e => ?_) (by omega) ?_
  · rw [e] at hl
    cases ks with
    | nil => cases h4
    | cons => cases hl
  refine W.go (hp (X.guard s.heap.objs.size _) V D _ _ kx vx pos h1 h5 h6 hw) (s := { s with heap := s.heap.push { cls := .type "dict", data := .dict #[] } }) R1 fun ps D1 g1 t1 R2 hk => ?_
  obtain ⟨us, e1, e2, hlen, hk⟩ := hk
  have hg2 := R2.guarded
  refine ⟨_, e2, ⟨_, #[], 0, hg2, ⟨rfl, rfl, rfl⟩, rfl, (fun e he => by simp at he), Pairs.nil, List.nodup_nil⟩, fun h' hd hs => ?_⟩
  rw [merged_nil_of_nodup _ (by rw [List.map_fst_zip (by omega)]; exact h2)] at hd
  have dA := R2.guard_dy fA.old
  have R3 := R2.unguard (h' := h') fA.off dA fun b ob hb e => (hs.2 b hb).trans e
  exact q _ _ _ h' _ (R3.add ⟨fA.loc, fA.cel, fA.old, fA.sys, fA.prt, dA⟩ (o := .ds _) hd) ⟨rfl, hk _ dA⟩


mutual
theorem soundE : ∀ e : E, SE e
  | .v _ => sV
  | .cls => sCls
  | .none => sNone
  | .bool _ => sBool
  | .int _ => sInt
  | .str _ => sStr
  | .bin _ a b => sBin (soundE a) (soundE b)
  | .neg a => sNeg (soundE a)
  | .cmp _ a b => sCmp (soundE a) (soundE b)
  | .or2 a b => sOr2 (soundE a) (soundE b)
  | .ite t a b => sIte (soundT t) (soundE a) (soundE b)
  | .lst es => sLst (soundEs es).1
  | .tup es => sTup (soundEs es).1
  | .dct0 _ => sDct0
  | .dct _ vs => sDct (soundEs vs).2
  | .att a _ => sAtt (soundE a)
  | .idx a i => sIdx (soundE a) (soundE i)
  | .sidx _ i => sSidx (soundE i)
  | .slc a b => sSlc (soundE a) (soundE b)
  | .call _ args => sCall (soundEs args).1
  | .app o e => sApp (soundE o) (soundE e)
  | .pop o e => sPop (soundE o) (soundE e)
  | .ndx o e => sNdx (soundE o) (soundE e)
  | .get1 o e => sGet1 (soundE o) (soundE e)
  | .get2 o e d => sGet2 (soundE o) (soundE e) (soundE d)
  | .comp _ _ src elt => sComp (soundE src) (soundE elt)
  | .bad => sBad
theorem soundT : ∀ t : T, ST t
  | .nt t => sTNt (soundT t)
  | .and ts => sTAnd (soundTs ts).1
  | .or ts => sTOr (soundTs ts).2
  | .cmp _ a b => sTCmp (soundE a) (soundE b)
  | .e a => sTE (soundE a)
  | .bad => sTBad
theorem soundEs : ∀ es : Es, SEs es ∧ SEp es
  | .nil => ⟨sEsNil, sEpNil⟩
  | .cons e r => ⟨sEsCons (soundE e) (soundEs r).1, sEpCons (soundE e) (soundEs r).2⟩
theorem soundTs : ∀ ts : Ts, STa ts ∧ STo ts
  | .nil => ⟨sTaNil, sToNil⟩
  | .cons t r => ⟨sTaCons (soundT t) (soundTs r).1, sToCons (soundT t) (soundTs r).2⟩
end
end Mine

namespace Mine

noncomputable def SS (s : S) : Prop := ∀ {G : Gl} {n : Nat} {ck : Ck} {c : Cx} (X : Good G n ck c) (V : Vs) (D : DM) (k : Flow → Vs → DM → Prop) (x : Stmt), chkS ck s x = true → wpS G n s V D k → W G c ck.σ V D (exec x c.env) k
noncomputable def SSs (s : Ss) : Prop := ∀ {G : Gl} {n : Nat} {ck : Ck} {c : Cx} (X : Good G n ck c) (V : Vs) (D : DM) (k : Flow → Vs → DM → Prop) (xs : List Stmt), chkSs ck s xs = true → wpSs G n s V D k → W G c ck.σ V D (execs xs c.env) k

section
variable {prog : Program} {w : World} {A : Around} {E : Value → Shared → Prop}
theorem draw_list {it l : Addr} {items : Array Value} (hne : l ≠ it) : ∀ (n i : Nat) (s : Shared) (Q : List Value → Shared → Prop), s.heap.IsListIter it l i → s.heap.IsList l items → i + n ≤ items.size →
    (∀ h', h'.IsListIter it l (i + n) → Heap.SameBut it s.heap h' → Q ((items.toList.drop i).take n) { s with heap := h' }) → wpAny (model prog w) A (draw (.ref it) n) Q E s
  | 0, i, s, Q, hit, _, _, hQ => by
    show wpAny _ _ (pure []) Q E s
    exact wpAny_pure (by simpa using hQ s.heap hit (Heap.SameBut.refl ..))
  | n + 1, i, s, Q, hit, ht, hle, hQ => by
    have hlt : i < items.size := by omega
    show wpAny _ _ (pyNext (.ref it) >>= _) Q E s
    refine wpAny_bind (wpAny_pyNext_list_item hit ht (x := items[i]) (by simp [hlt]) fun h₁ hit₁ hs₁ => ?_)
    have ht' : h₁.IsList l items := by obtain ⟨o, ho, r⟩ := ht; exact ⟨o, (hs₁.2 l hne).trans ho, r⟩
    refine wpAny_bind (wpAny_holding (draw_list hne n (i + 1) _ _ hit₁ ht' (by omega) fun h₂ hit₂ hs₂ => wpAny_pure ?_))
    have hd : items.toList.drop i = items[i] :: items.toList.drop (i + 1) := by simp [List.drop_eq_getElem_cons, hlt]
    have := hQ h₂ (by rw [show i + (n + 1) = i + 1 + n by omega]; exact hit₂) (hs₁.trans hs₂)
    rw [hd, List.take_succ_cons] at this
    exact this

theorem unpackItems_list {l : Addr} {s : Shared} {items : Array Value} {Q : List Value → Shared → Prop} (hh : A.handled = none) (ht : s.heap.IsList l items)
    (hQ : ∀ h', Heap.ExtBut s.heap.objs.size s.heap h' → Q items.toList { s with heap := h' }) : wpAny (model prog w) A (unpackItems (.ref l) items.size none) Q E s := by
  have hlt : l ≠ s.heap.objs.size := by obtain ⟨o, ho, _⟩ := ht; exact Nat.ne_of_lt (Heap.lt_size ho)
  have hp : ∀ o, (s.heap.push o).IsList l items := fun o => by obtain ⟨o', ho, r⟩ := ht; exact ⟨o', Heap.get?_push_of_some _ ho, r⟩
  unfold unpackItems
  refine wpAny_bind ?_
  unfold notIterableAtAll
  refine wpAny_bind (wpAny_specialOf ht.typeIs F.slot_list_iter.lookup ?_)
  refine wpAny_pure ?_
  simp only [Bool.false_eq_true, if_false]
  refine wpAny_bind (wpAny_holding (wpAny_pyIter_list ht ?_))
  refine wpAny_bind (wpAny_holding (draw_list hlt items.size 0 _ _ ⟨_, Heap.get?_push_size _ rfl, rfl, rfl⟩ (hp _) (by omega) fun h₁ hit₁ hs₁ => ?_))
  have hall : List.take items.size (List.drop 0 items.toList) = items.toList := by
    rw [List.drop_zero]; exact List.take_of_length_le (by simp)
  rw [hall]
  rw [if_neg (by simp)]
  have ht₁ : h₁.IsList l items := by obtain ⟨o, ho, r⟩ := hp { cls := .type "list_iterator", data := .fields #[.ref l, .int 0 0] }; exact ⟨o, (hs₁.2 l hlt).trans ho, r⟩
  refine wpAny_bind (wpAny_holding (wpAny_pyNext_list_end hh hit₁ ht₁ (by simp) fun h₂ he₂ => ?_))
  simp only [Option.isSome_none, Bool.false_eq_true, if_false]
  exact wpAny_pure (hQ h₂ fun b o hb e => he₂ b o hb (hs₁.extBut b o hb (Heap.get?_push_of_some _ e)))
end

section
variable {G : Gl} {n : Nat} {ck : Ck} {c : Cx} {V : Vs} {D : DM}

theorem Heap.ExtBut.all {h h' : Heap} (x : Heap.ExtBut h.objs.size h h') : ∀ b o, h.get? b = some o → h'.get? b = some o := fun b o e => x b o (Nat.ne_of_lt (Heap.lt_size e)) e

theorem W.inOrder (X : Good G n ck c) : ∀ (is : List Nat) (ids : List Str) (vs : List Value) (V : Vs) (D : DM) (ps : List Pos) (k : Unit → Vs → DM → Prop), ids.length = is.length → vs.length = is.length → ps.length = is.length →
    (∀ p ∈ is.zip ids, ck.sto p.1 p.2 = true) → k () (setAll V is vs) D →
    W G c ck.σ V D (assignInOrder ((ids.zip ps).map fun p => assign (.Name p.1 p.2) c.env) vs) k
  | [], [], [], V, D, [], k, _, _, _, _, hk => W.pure hk
  | i :: is, id :: ids, v :: vs, V, D, p :: ps, k, h1, h2, h3, hs, hk => by
    show W G c ck.σ V D (do PySem.holding vs (assign (.Name id p) c.env v); assignInOrder ((ids.zip ps).map fun p => assign (.Name p.1 p.2) c.env) vs) k
    refine W.bind (W.holding ?_)
    show W G c ck.σ V D (do PySem.standAt p; PySem.bindName c.env id v) _
    refine W.bind (W.standAt ?_)
    unfold PySem.bindName
    refine W.bind (W.holding (W.point (W.bind (W.sto X (hs (i, id) (by simp)) (W.point ?_)))))
    exact W.inOrder X is ids vs _ D ps k (by simpa using h1) (by simpa using h2) (by simpa using h3) (fun q hq => hs q (by simp [hq])) hk

theorem tgt_zip : ∀ {ts : List Expr} {ids : List Str}, tgtNames ts = some ids → ∀ env : Env, ∃ ps : List Pos, ps.length = ids.length ∧ assignEach ts env = (ids.zip ps).map fun p => (false, assign (.Name p.1 p.2) env) := by
  intro ts
  induction ts with
  | nil => intro ids h env; cases h; exact ⟨[], rfl, rfl⟩
  | cons t r ih =>
    intro ids h env
    by_cases hc : t.ctorIdx = 23
    · obtain ⟨id, p, rfl⟩ : ∃ id p, t = .Name id p := Expr.Name.elim (motive_1 := fun e => ∃ id p, e = .Name id p) t hc fun id p => ⟨id, p, rfl⟩
      replace h : (tgtNames r).map (id :: ·) = some ids := h
      obtain ⟨ids', h', rfl⟩ := Option.map_eq_some_iff.mp h
      obtain ⟨ps, e1, e2⟩ := ih h' env
      refine ⟨p :: ps, by simp [e1], ?_⟩
      show (false, assign (.Name id p) env) :: assignEach r env = _
      rw [e2]; rfl
    · have : tgtNames (t :: r) = none := dif_neg hc
      rw [this] at h; cases h
end

theorem swaps_of {x : Expr} (h : notComp x = true) (t : Option Expr) (l : Nat) (env : Env) : swapsWith x t l env = pure false := by cases x <;> first | rfl | cases h

theorem sSetn {is : List Nat} {e : E} : SS (.setn is e) := fun {G n ck c} X V D k x h hw => by
  replace h := onAssign_inv h; obtain ⟨ts1, x0, pos, rfl, h⟩ := h
  replace h := one_inv h; obtain ⟨t0, rfl, h⟩ := h
  replace h := onTup_inv h; obtain ⟨ts, k0, p0, rfl, h⟩ := h
  rw [Bool.and_eq_true, Bool.and_eq_true, Bool.and_eq_true] at h
  obtain ⟨⟨⟨h1, h2⟩, h3⟩, h4⟩ := h
  replace h1 := some1_inv h1; obtain ⟨ids, hids, h1⟩ := h1
  · skip
    simp only [Bool.and_eq_true, decide_eq_true_eq, List.all_eq_true] at h1
    obtain ⟨⟨a1, a2⟩, a3⟩ := h1
    simp only [wpS] at hw
    refine fun s Q E R q => Assign_Tuple ((soundE e X V D _ _ h4 hw).go R fun v D1 g1 t1 R1 k1 => ?_) ?_ ?_
    · obtain ⟨l, vs, rfl, hl, hlen, hk⟩ := k1
      obtain ⟨ps, e1, e2⟩ := tgt_zip hids c.env
      rw [arm_assign_Tuple]
      refine wpAny_bind (wpAny_standAt ?_)
      unfold unpack
      have e3 : (assignEach ts c.env).length = vs.toArray.size := by rw [e2]; simp [e1, a1, hlen]
      have e4 : (assignEach ts c.env).findIdx? (·.1) = none := by rw [e2]; simp
      have e5 : (assignEach ts c.env).map (·.2) = (ids.zip ps).map fun p => assign (.Name p.1 p.2) c.env := by rw [e2]; simp
      rw [e3, e4, e5]
      refine wpAny_bind (wpAny_holding (unpackItems_list X.ok.handled (hl.isList R1) fun h' hx => ?_))
      exact W.inOrder X is ids vs V D1 ps (fun _ V' D' => k .next V' D') a1 hlen (e1.trans a1) (fun p hp => a2 p hp) hk { s with heap := h', toks := t1 } (fun _ => Q .next) E (R1.keeps (Heap.ExtBut.all hx)) fun _ V' D' h'' tk'' R'' hk' => q _ _ _ _ _ R'' hk'
    · unfold swapsWithSole
      exact swaps_of h2 _ _ _
    · unfold swappedStores
      cases x0 <;> first | rfl | cases h3


theorem sSatt {o e : E} {f : Nat} : SS (.satt o f e) := fun X V D k x h hw => by
  replace h := onAssign_inv h; obtain ⟨ts1, x0, pos, rfl, h⟩ := h
  replace h := one_inv h; obtain ⟨t0, rfl, h⟩ := h
  replace h := onAttr_inv h; obtain ⟨y0, attr, p0, rfl, h⟩ := h
  rw [Bool.and_eq_true, Bool.and_eq_true, Bool.and_eq_true, Bool.and_eq_true] at h
  obtain ⟨⟨⟨⟨h1, h2⟩, h3⟩, h4⟩, h5⟩ := h
  have h1 := eq_of_beq h1
  subst h1
  simp only [decide_eq_true_eq] at h2
  simp only [wpS] at hw
  refine fun s Q E R q => plainObj_wpAny_Assign_Attribute ((soundE e X V D _ _ h5 hw).go R fun v D1 g1 t1 R1 k1 => (soundE o X V D1 _ _ h4 k1).go R1 fun u D2 g2 t2 R2 k2 => ?_) (swaps_of h3 _ _ _)
  obtain ⟨l, d, fs, rfl, e1, e2, e3, e4, hk⟩ := k2
  exact W.setAttr X.f.vecK X.ok (k := fun _ V' D' => k .next V' D') e1 e2 h2 e3 e4 hk _ _ E R2 fun _ V' D' h' tk' R' hk' => q _ _ _ _ _ R' hk'


theorem W.setItem {G : Gl} {c : Cx} {n : Nat} {σ : List Str} {V : Vs} {D : DM} (hK : c.Ok G n) {o i v : Value} {k : Unit → Vs → DM → Prop} (h : stoR D o i v fun D' => k () V D') : W G c σ V D (PySem.setItem o i v) k := fun s Q E R q => by
  have hb : big < 2 ^ 62 := by decide
  replace h := onRef_inv h; obtain ⟨l, rfl, h⟩ := h
  · rcases h with ⟨vs, j, t, hl, rfl, h0, h1, h2, hk⟩ | ⟨kvs, x, t, hl, rfl, h1, hk⟩ | ⟨kvs, x, t, hl, rfl, h1, hk⟩
    · have hl' : ∀ l0, (D l0 = some (.lst vs) ∨ D l0 = some (.mls vs)) → ∃ cl, D l0 = some cl ∧ cl.ls = some vs ∧ cl.rw = true := by
        intro l0 hl
        rcases hl with hl | hl
        · exact ⟨_, hl, rfl, rfl⟩
        · exact ⟨_, hl, rfl, rfl⟩
      obtain ⟨cl, e1, e2, e3⟩ := hl' _ hl
      refine wpAny_setItem_list (CelAt.isList (R.dy _ _ e1).2.2.2.2 e2) h0 (by omega) (by simpa using h1) fun h' hi hs => ?_
      refine q _ _ _ h' s.toks (R.change e1 e3 hs (o' := .mls _) ?_) hk
      have : ∀ v, (vs.toArray.setIfInBounds j.toNat v) = (vs.set j.toNat v).toArray := fun v => by simp
      rw [this] at hi
      exact hi
    · refine wpAny_setItem_pairs (knd := strKind G.prog G.w) (k := x) (by simp [PySem.strKind, Value.isStrOf]) (R.dy _ _ hl).2.2.2.2 (fun h' hd hs => ?_) (Nat.le_trans h1 big_le)
      exact q _ _ _ h' _ (R.change hl rfl hs (o' := .ds _) hd) hk
    · refine wpAny_setItem_pairs (knd := intKind G.prog G.w) (k := x) (by simp [intKind, Value.isInt]) (R.dy _ _ hl).2.2.2.2 (fun h' hd hs => ?_) (Nat.le_trans h1 big_le)
      exact q _ _ _ h' _ (R.change hl rfl hs (o' := .di _) hd) hk

theorem sSidxS {o i e : E} : SS (.sidx o i e) := fun X V D k x h hw => by
  replace h := onAssign_inv h; obtain ⟨ts1, x0, pos, rfl, h⟩ := h
  replace h := one_inv h; obtain ⟨t0, rfl, h⟩ := h
  replace h := onSub_inv h; obtain ⟨y0, z0, p0, rfl, h⟩ := h
  simp only [Bool.and_eq_true] at h
  obtain ⟨⟨⟨⟨h1, h2⟩, h3⟩, h4⟩, h5⟩ := h
  simp only [wpS] at hw
  refine fun s Q E R q => wpAny_Assign_Subscript ((soundE e X V D _ _ h5 hw).go R fun v D1 g1 t1 R1 k1 => (soundE o X V D1 _ _ h3 k1).go R1 fun u D2 g2 t2 R2 k2 => (soundE i X V D2 _ _ h4 k2).go R2 fun z D3 g3 t3 R3 k3 => ?_) (swaps_of h2 _ _ _)
  exact W.setItem X.ok (k := fun _ V' D' => k .next V' D') k3 _ _ E R3 fun _ V' D' h' tk' R' hk' => q _ _ _ _ _ R' hk'


theorem W.loadVar {G : Gl} {n : Nat} {ck : Ck} {c : Cx} {V : Vs} {D : DM} (X : Good G n ck c) {i : Nat} {id : Str} {v : Value} {k : Value → Vs → DM → Prop} (h : ck.var i id = true) (hV : V.getD i none = some v) (hk : k v V D) : W G c ck.σ V D (loadName c.env id) k := fun s Q E R q => by
  unfold Ck.var at h
  simp only [Bool.and_eq_true, Bool.or_eq_true, beq_iff_eq, Bool.not_eq_true'] at h
  obtain ⟨⟨h1, h2⟩, h3⟩ := h
  have hV' : V[i]? = some (some v) := by
    rw [List.getD_eq_getElem?_getD] at hV
    cases e : V[i]? with
    | none => rw [e] at hV; cases hV
    | some u => rw [e] at hV; simp at hV; rw [hV]
  obtain ⟨m, F, hv⟩ := R.vr
  have hh := hv i id v h1 hV'
  unfold Holds at hh
  rw [← X.kind] at h2
  rcases h2 with e | e
  · rw [e] at hh
    exact wpAny_loadName_local X.ok.kind e F.ns hh (q v V D s.heap s.toks R hk)
  · rw [e] at hh
    obtain ⟨ca, hl, hc⟩ := hh
    exact wpAny_loadName_cell X.ok.kind e hl hc (q v V D s.heap s.toks R hk)

theorem sAug {i : Nat} {e : E} : SS (.aug i e) := fun X V D k x h hw => by
  replace h := onAug_inv h; obtain ⟨t0, aop, x0, pos, rfl, h⟩ := h
  replace h := onName_inv h; obtain ⟨id, p0, rfl, h⟩ := h
  replace h := and_of h; obtain ⟨h0, h⟩ := h; obtain rfl := of_decide_eq_true h0
  simp only [Bool.and_eq_true] at h
  obtain ⟨⟨h1, h2⟩, h3⟩ := h
  simp only [wpS] at hw
  cases hV : V.getD i Option.none with
  | none => rw [hV] at hw; exact hw.elim
  | some v0 =>
  rw [hV] at hw
  cases v0 <;> first | exact False.elim hw | skip
  · rename_i a ta
    refine fun s Q E R q => wpAny_AugAssign_Name ((W.loadVar X h1 hV (k := fun v V' D' => V' = V ∧ (v = .int a ta ∧ D' = D)) ⟨rfl, rfl, rfl⟩).go R fun v D1 g1 t1 R1 e1 => ?_)
    obtain ⟨rfl, rfl⟩ := e1
    refine (soundE e X V D1 _ _ h3 hw).go R1 fun u D2 g2 t2 R2 k2 => ?_
    cases u <;> first | exact False.elim k2 | skip
    · refine PyProof.Rows.iadd_int ?_
      exact W.sto X h2 (k := fun _ V' D' => k .next V' D') (k2 _) { s with heap := g2, toks := t2 + 1 } _ E R2 fun _ V' D' h' tk' R' hk' => q _ _ _ _ _ R' hk'


theorem sIteS {t : T} {a b : Ss} (ha : SSs a) (hb : SSs b) : SS (.ite t a b) := fun X V D k x h hw => by
  replace h := onIf_inv h; obtain ⟨x0, y0, z0, pos, rfl, h⟩ := h
  simp only [Bool.and_eq_true] at h
  obtain ⟨⟨h1, h2⟩, h3⟩ := h
  simp only [wpS] at hw
  refine fun s Q E R q => wpAny_If ((soundT t X V D _ _ h1 hw).go R fun v D1 g1 t1 R1 k1 => ?_)
  cases v with
  | true => exact ha X V D1 _ _ h2 (k1.1 rfl) _ Q E R1 q
  | false => exact hb X V D1 _ _ h3 (k1.2 rfl) _ Q E R1 q

theorem sRet {e : E} : SS (.ret e) := fun X V D k x h hw => by
  replace h := onRet_inv h; obtain ⟨ov, pos, rfl, h⟩ := h
  replace h := some1_inv h; obtain ⟨x0, rfl, h⟩ := h
  simp only [wpS] at hw
  exact fun s Q E R q => wpAny_Return_some ((soundE e X V D _ _ h hw).go R fun v D1 g1 t1 R1 k1 => q _ _ _ _ _ R1 k1)

theorem sEx {e : E} : SS (.ex e) := fun {G n ck c} X V D k x h hw => by
  replace h := onEx_inv h; obtain ⟨x0, pos, rfl, h⟩ := h
  simp only [Bool.and_eq_true] at h
  simp only [wpS] at hw
  have hi : interactive c.env = false := by unfold interactive; rw [X.ok.kind]; rfl
  exact fun s Q E R q => wpAny_Expr_any ((soundE e X V D _ _ h.2 hw).go R fun v D1 g1 t1 R1 k1 => q _ _ _ _ _ R1 k1) hi (swaps_of h.1 _ _ _)

theorem sCont : SS .cont := fun X V D k x h hw => by
  replace h := onCont_inv h; obtain ⟨pos, rfl, h⟩ := h
  simp only [wpS] at hw
  exact W.same fun s Q E R q => wpAny_Continue (q _ s.toks hw)

theorem sBadS : SS .bad := fun X V D k x h hw => by simp only [wpS] at hw

theorem sSsNil : SSs .nil := fun X V D k xs h hw => by
  obtain rfl := nil_of h
  simp only [wpSs] at hw
  exact W.same fun s Q E R q => wpAny_execs_nil (q _ s.toks hw)

theorem sSsCons {a : S} {r : Ss} (ha : SS a) (hr : SSs r) : SSs (.cons a r) := fun X V D k xs h hw => by
  replace h := cns_inv h; obtain ⟨x0, xs0, rfl, h⟩ := h
  simp only [Bool.and_eq_true] at h
  simp only [wpSs] at hw
  refine fun s Q E R q => wpAny_execs_cons (ha X V D _ _ h.1 hw _ _ E R fun f V' D' h' tk' R' hk => ?_)
  cases f with
  | next => exact hr X V' D' _ _ h.2 hk { s with heap := h', toks := tk' } Q E R' q
  | _ => exact q _ _ _ _ _ R' hk


theorem sSet {i : Nat} {e : E} : SS (.set i e) := fun {G n ck c} X V D k x h hw => by
  replace h := onAssign_inv h; obtain ⟨ts1, x0, pos, rfl, h⟩ := h
  replace h := one_inv h; obtain ⟨t0, rfl, h⟩ := h
  replace h := onName_inv h; obtain ⟨id, p0, rfl, h⟩ := h
  simp only [Bool.and_eq_true] at h
  obtain ⟨h1, h2⟩ := h
  simp only [wpS] at hw
  have plain : swapsWith x0 (some (.Name id p0)) pos.line c.env = pure false → W G c ck.σ V D (exec (.Assign [.Name id p0] x0 pos) c.env) k := fun hs s Q E R q =>
    wpAny_Assign_Name ((soundE e X V D _ _ h2 hw).go R fun v D1 g1 t1 R1 k1 => W.sto X h1 (k := fun _ V' D' => k .next V' D') k1 { s with heap := g1, toks := t1 } _ E R1 fun _ V' D' h' tk' R' hk' => q _ _ _ _ _ R' hk') hs
  by_cases hc : notComp x0 = true
  · exact plain (swaps_of hc _ _ _)
  · cases x0 <;> first | exact absurd rfl hc | skip
    · rename_i ex gens scope pos'
      have hb : ∃ b, swapsWith (.ListComp ex gens scope pos') (some (.Name id p0)) pos.line c.env = pure b := ⟨_, rfl⟩
      obtain ⟨b, hb⟩ := hb
      cases b with
      | false => exact plain hb
      | true =>
        cases e <;> first | exact (Bool.false_ne_true h2).elim | exact False.elim hw | skip
        · rename_i kd xx src elt
          replace h2 := onComp_inv h2; obtain ⟨_, gens0, _, _, q1, h2⟩ := h2
          cases q1
          replace h2 := one_inv h2; obtain ⟨gg, rfl, h2⟩ := h2
          obtain ⟨tg, it, ifs, asy⟩ := gg
          replace h2 := onName_inv h2; obtain ⟨xid, px, q0, h2⟩ := h2
          obtain rfl : tg = .Name xid px := q0
          simp only [Bool.and_eq_true, decide_eq_true_eq] at h2
          obtain ⟨⟨⟨⟨⟨h01, h02⟩, a1⟩, a2⟩, a3⟩, a4⟩ := h2
          obtain rfl := nil_of h01; subst h02
          simp only [wpE] at hw
          intro s Q E R q
          rw [exec_Assign_Name_used _ _ _ _ hb]
          refine wpAny_bind (wpAny_standAt (wpAny_bind ?_))
          show wpAny _ c.A (do let _ ← comprehension (.ListComp ex [⟨.Name xid px, it, [], 0⟩] scope pos') scope c.env (firstIterPos [⟨.Name xid px, it, [], 0⟩] pos') (newList []) false (eval it c.env) (some (assign (.Name id p0) c.env))) _ _ s
          refine wpAny_bind (compWalk X a1 a2 (fun c' X' V' D' k' hk => soundE elt X' V' D' k' ex a4 hk) R (k := fun v D' => k .next (V.set i (some v)) D') (Q := fun _ s' => wpAny (model G.prog G.w) c.A (pure ()) (fun _ s'' => wpAny (model G.prog G.w) c.A (pure Flow.next) Q E s'') E s')
            (soundE src X V D _ _ a3 hw) fun a D1 C oC h' tk' hN hk R1 hC hdC => ?_)
          obtain ⟨mm, hN⟩ := hN
          refine wpAny_assign_Name (W.sto (X.guard C oC) h1 (c := c.guard C oC) (k := fun _ V' D' => k .next V' D') hk { s with heap := h', toks := tk' } _ E R1 fun _ V' D' h2 tk2 R2 hk' => ?_)
          exact ⟨mm, hN _ R2.guarded, fun h3 hs3 => wpAny_pure (wpAny_pure (q _ _ _ _ _ (R2.unguard hC (R2.guard_dy hC.old) fun b ob hb e => (hs3.2 b hb).trans e) hk'))⟩
    all_goals (cases e <;> first | exact (Bool.false_ne_true h2).elim | exact False.elim hw)


theorem flow_same {k k' : Flow → Vs → DM → Prop} {nx : Vs → DM → Prop} (h : ∀ v V D, k (.ret v) V D → k' (.ret v) V D) : ∀ f V D, flowK k nx f V D → flowK k' nx f V D
  | .next, _, _, z => z
  | .cont, _, _, z => z
  | .brk, _, _, z => z
  | .ret _, _, _, z => h _ _ _ z

theorem sFor {kd x : Nat} {src : E} {body : Ss} (hb : SSs body) : SS (.for_ kd x src body) := fun {G n ck c} X V D k st h hw => by
  replace h := onFor_inv h; obtain ⟨t0, it, y, els, pos, rfl, h⟩ := h
  replace h := onName_inv h; obtain ⟨id, p0, rfl, h⟩ := h
  replace h := and_of h; obtain ⟨h0, h⟩ := h; obtain rfl := nil_of h0
  simp only [Bool.and_eq_true] at h
  obtain ⟨⟨⟨h1, h2⟩, h3⟩, h4⟩ := h
  simp only [wpS] at hw
  intro s Q E R q
  refine wpAny_For ((soundE src X V D _ _ h3 hw).go R fun sv D1 g1 t1 R1 k1 => ?_) (fun x => by cases it <;> first | rfl | cases h1)
  refine srcStart X.ok (s := { s with heap := g1, toks := t1 }) R1 k1 fun itA m item still start back D2 h2' cond Pp o₀ R2 hst h2D hP hbk IT ho hp0 hOff hd0 hcond hmb => ?_
  obtain ⟨I, hI0, hIs, hIt, hIe⟩ := hP
  have hu := stoU h2
  refine forIter X.ok (s := { s with heap := h2', toks := t1 }) R2 IT ho hp0 hOff hd0 hu.1 hu.2 (stoK X h2) (k := fun f V' D' => match f with | .next => I m V' D' | f => k f V' D') I (hI0 _ hst)
    (fun i V1 D1 h R' hI => hcond _ _ _ _ h R' (hIs i V1 D1 hI)) (fun o i v V1 D1 hv hi hI => ?_) (fun V1 D1 hI => hI) fun f V' D' h' tk' R' hk => ?_
  · exact (hb (X.guard itA o) _ _ _ _ h4 (hIt i V1 D1 v hi hv hI)).mono fun f V' D' z => flow_same (fun _ _ _ z => z) f V' D' z
  · cases f with
    | next => exact q _ _ _ _ _ (hbk _ _ _ _ _ R' (hIs m V' D' hk)) (hIe V' D' hk)
    | _ => exact q _ _ _ _ _ R' hk


theorem sWhile {t : T} {body : Ss} (hb : SSs body) : SS (.while_ t body) := fun {G n ck c} X V D k st h hw => by
  replace h := onWhile_inv h; obtain ⟨x0, y, els, pos, rfl, h⟩ := h
  replace h := and_of h; obtain ⟨h0, h⟩ := h; obtain rfl := nil_of h0
  simp only [Bool.and_eq_true] at h
  obtain ⟨h1, h2⟩ := h
  simp only [wpS] at hw
  obtain ⟨I, ⟨m₀, hI0⟩, hI⟩ := hw
  intro s Q E R q
  refine wpAny_While (codeAny_whileLoop (fun m s' => ∃ V' D' h' tk', s' = { s with heap := h', toks := tk' } ∧ Rp G c ck.σ V' D' h' ∧ I m V' D') ?_ m₀ ⟨V, D, s.heap, s.toks, rfl, R, hI0⟩)
  rintro m _ ⟨V', D', h', tk', rfl, R', hI'⟩
  refine (soundT t X V' D' _ _ h1 (hI m V' D' hI')).go (s := { s with heap := h', toks := tk' }) R' fun b D1 g1 t1 R1 k1 => ?_
  cases b with
  | true =>
    refine hb X V' D1 _ _ h2 (k1.1 rfl) { s with heap := g1, toks := t1 } _ _ R1 fun f V2 D2 h2' tk2 R2 hk => ?_
    cases f with
    | next => obtain ⟨m', hm', hI''⟩ := hk; exact ⟨m', hm', V2, D2, h2', tk2, rfl, R2, hI''⟩
    | cont => obtain ⟨m', hm', hI''⟩ := hk; exact ⟨m', hm', V2, D2, h2', tk2, rfl, R2, hI''⟩
    | brk => exact hk.elim
    | ret v => exact q _ _ _ _ _ R2 hk
  | false => exact wpAny_execs_nil (q _ _ _ _ _ R1 (k1.2 rfl))


mutual
theorem soundS : ∀ s : S, SS s
  | .set _ _ => sSet
  | .setn _ _ => sSetn
  | .satt _ _ _ => sSatt
  | .sidx _ _ _ => sSidxS
  | .aug _ _ => sAug
  | .ite _ a b => sIteS (soundSs a) (soundSs b)
  | .for_ _ _ _ body => sFor (soundSs body)
  | .while_ _ body => sWhile (soundSs body)
  | .ret _ => sRet
  | .ex _ => sEx
  | .cont => sCont
  | .bad => sBadS
theorem soundSs : ∀ s : Ss, SSs s
  | .nil => sSsNil
  | .cons a r => sSsCons (soundS a) (soundSs r)
end
end Mine

namespace Mine

/-- what is known of a def -/
structure FnOk (G : Gl) (ck : Ck) (f : Addr) (body : List Stmt) (fd : FuncData) : Prop where
  at_ : ∃ o, G.K.lookup f = some o ∧ o.data = .func fd
  co : fd.scope.isCoroutine = false
  gen : fd.scope.isGenerator = false
  kind : fd.scope.kind = .function
  body : fd.body = .stmts body
  glob : fd.globals = mainGlobals
  bi : fd.builtins = builtinsNs
  clo : fd.closure = []
  code : codeIn G.K fd.code fd.qualname = true
  names : fd.scope.names = ck.names
  cells : ((cellsFrom 0 fd.scope.names []).map (·.1)).Nodup
  own : ck.own = true
  C : ck.C = G.C

noncomputable def V₀ (ck : Ck) (vs : List Value) : Vs := vs.map some ++ List.replicate (ck.σ.length - vs.length) none

/-- the names of the arguments are the first, each once, local or a cell -/
noncomputable def Ck.pars (ck : Ck) (k : Nat) : Bool := decide ((ck.σ.take k).Nodup) && decide (k ≤ ck.σ.length) && (ck.σ.take k).all (fun x => ck.names.lookup x == some .local || ck.names.lookup x == some .cell)

theorem bindL_miss {kindOf : Str → Option NameKind} {id : Str} : ∀ (bs : List (Str × Value)) (m : Str → Option Value), id ∉ bs.map (·.1) → bindL kindOf bs m id = m id
  | [], m, _ => rfl
  | (n, v) :: r, m, h => by
    simp only [List.map_cons, List.mem_cons, not_or] at h
    unfold bindL
    rw [bindL_miss r _ h.2]
    split
    · simp [h.1]
    · rfl
theorem bindC_miss {kindOf : Str → Option NameKind} {id : Str} : ∀ (bs : List (Str × Value)) (m : Str → Option Value), id ∉ bs.map (·.1) → bindC kindOf bs m id = m id
  | [], m, _ => rfl
  | (n, v) :: r, m, h => by
    simp only [List.map_cons, List.mem_cons, not_or] at h
    unfold bindC
    rw [bindC_miss r _ h.2]
    split
    · rfl
    · simp [h.1]
theorem bindL_hit {kindOf : Str → Option NameKind} {id : Str} {v : Value} (hk : kindOf id = some .local) : ∀ (bs : List (Str × Value)) (m : Str → Option Value), (bs.map (·.1)).Nodup → (id, v) ∈ bs → bindL kindOf bs m id = some v
  | [], m, _, h => nomatch h
  | (n, u) :: r, m, hn, h => by
    simp only [List.map_cons, List.nodup_cons] at hn
    unfold bindL
    rcases List.mem_cons.mp h with e | h
    · cases e
      rw [bindL_miss r _ hn.1]
      simp [hk]
    · exact bindL_hit hk r _ hn.2 h
theorem bindC_hit {kindOf : Str → Option NameKind} {id : Str} {v : Value} (hk : kindOf id = some .cell) : ∀ (bs : List (Str × Value)) (m : Str → Option Value), (bs.map (·.1)).Nodup → (id, v) ∈ bs → bindC kindOf bs m id = some v
  | [], m, _, h => nomatch h
  | (n, u) :: r, m, hn, h => by
    simp only [List.map_cons, List.nodup_cons] at hn
    unfold bindC
    rcases List.mem_cons.mp h with e | h
    · cases e
      rw [bindC_miss r _ hn.1]
      simp [hk]
    · exact bindC_hit hk r _ hn.2 h

noncomputable def flowV : Flow → Value
  | .ret v => v
  | _ => .none

noncomputable def Cx.callee (c : Cx) (env2 : Env) (h₁ : Heap) : Cx :=
  { A := c.A.deeper env2, env := env2, own := true, prot := fun b => if (b == c.env.locals || c.env.cells.any fun x => x.2 == b) = true then h₁.get? b else c.prot b }

section
variable {G : Gl} {c : Cx} {n : Nat} {σ : List Str} {V : Vs} {D : DM} {h h' : Heap}

/-- back in the caller -/
theorem Rp.back {V2 : Vs} {σ2 : List Str} {D' : DM} {env2 : Env} (R₀ : Rp G c σ V D h) (R : Rp G (c.callee env2 h) σ2 V2 D' h') : Rp G c σ V D' h' := by
  obtain ⟨m, F, hv⟩ := R₀.vr
  obtain ⟨m2, F2, _⟩ := R.vr
  have prot : ∀ b o, h.get? b = some o → (b = c.env.locals ∨ ∃ x ∈ c.env.cells, x.2 = b) → h'.get? b = some o := fun b o e q => by
    refine (R.pr b o ?_).1
    show (if (b == c.env.locals || c.env.cells.any fun x => x.2 == b) = true then h.get? b else c.prot b) = some o
    rw [if_pos, e]
    simp only [Bool.or_eq_true, beq_iff_eq, List.any_eq_true]
    rcases q with q | ⟨x, hx, q⟩
    · exact .inl q
    · exact .inr ⟨x, hx, q⟩
  refine ⟨⟨m, ⟨?_, F2.keep, F.above⟩, fun i id v h1 h2 => (hv i id v h1 h2).keep fun y hy ob eo => prot _ _ eo (.inr ⟨y, hy, rfl⟩)⟩, fun y hy => ?_, fun b o e => ?_, fun b o e => ?_⟩
  · obtain ⟨ol, es, ep, hl, r⟩ := F.ns
    exact ⟨ol, es, ep, prot _ _ hl (.inl rfl), r⟩
  · obtain ⟨⟨v, ob, ho, hd'⟩, h2, h3⟩ := R₀.cl y hy
    exact ⟨⟨v, ob, prot _ _ ho (.inr ⟨y, hy, rfl⟩), hd'⟩, h2, h3⟩
  · obtain ⟨h1, h2, h3, h3', h4⟩ := R.dy b o e
    cases hw : o.rw with
    | true =>
      have hp : (if (b == c.env.locals || c.env.cells.any fun x => x.2 == b) = true then h.get? b else c.prot b) = none := (h3 hw).2.2
      have hn : ¬ (b == c.env.locals || c.env.cells.any fun x => x.2 == b) = true := fun q => by
        rw [if_pos q] at hp
        simp only [Bool.or_eq_true, beq_iff_eq, List.any_eq_true] at q
        rcases q with q | ⟨x, hx, q⟩
        · obtain ⟨ol, es, ep, hl, r⟩ := F.ns
          rw [q, hl] at hp; cases hp
        · obtain ⟨⟨v, ob, ho, _⟩, _⟩ := R₀.cl x hx
          rw [← q, ho] at hp; cases hp
      rw [if_neg hn] at hp
      simp only [Bool.or_eq_true, beq_iff_eq, List.any_eq_true, not_or, not_exists, not_and] at hn
      exact ⟨hn.1, fun y hy q => hn.2 y hy q.symm, fun _ => ⟨(h3 hw).1, (h3 hw).2.1, hp⟩, fun q => (by cases q), h4⟩
    | false =>
      have ho := h3' hw
      obtain ⟨o', ho'⟩ := Option.isSome_iff_exists.mp ho
      refine ⟨fun q => ?_, fun y hy q => ?_, fun q => (by cases q), fun _ => ho, h4⟩
      · rw [q] at ho'
        exact absurd (Nat.lt_of_lt_of_le (Heap.lt_size ho') F.above) (Nat.lt_irrefl _)
      · obtain ⟨⟨v, ob, hob, hd'⟩, _⟩ := R₀.cl y hy
        have := prot _ _ hob (.inr ⟨y, hy, rfl⟩)
        cases o <;> first | cases hw | skip
        obtain ⟨ol, hol, _, _, hds⟩ := h4
        rw [q, this] at hol
        cases hol
        rw [hd'] at hds
        cases hds
  · obtain ⟨h1, h2⟩ := R₀.pr b o e
    refine ⟨?_, h2⟩
    by_cases q : (b == c.env.locals || c.env.cells.any fun x => x.2 == b) = true
    · simp only [Bool.or_eq_true, beq_iff_eq, List.any_eq_true] at q
      exact prot b o h1 q
    · refine (R.pr b o ?_).1
      show (if (b == c.env.locals || c.env.cells.any fun x => x.2 == b) = true then h.get? b else c.prot b) = some o
      rw [if_neg q, e]
end

theorem enter {G : Gl} {n : Nat} {f : Addr} {ck : Ck} {body : List Stmt} {fd : FuncData} {vs args : List Value} {D : DM} {k : Value → DM → Prop} (X : Facts G ck.tbl ck.hv) (F : FnOk G ck f body fd) {sm : Ss} (hchk : chkSs ck sm body = true)
    (hpar : ck.pars vs.length = true) (hb : ∀ s : Shared, G.K.In s.heap → BindsTo s fd ⟨args, []⟩ ((ck.σ.take vs.length).zip vs))
    (h : wpSs G n sm (V₀ ck vs) D fun fl V' D' => k (flowV fl) D') : Calls G (n + off ck.hv + 1) f args D k := by
  intro c σ V s R hK Rr hR
  obtain ⟨o, ho, hd⟩ := F.at_
  have KI := Rr.K hK
  obtain ⟨mF, FF⟩ := Rr.fr
  refine codeAny_call_function (by have := hK.depth; omega) (KI _ _ ho) hd F.co F.gen F.body (codeRec_of KI F.code) (hb s KI _ _ _ _ ?_)
  unfold Ck.pars at hpar
  simp only [Bool.and_eq_true, decide_eq_true_eq, List.all_eq_true, Bool.or_eq_true, beq_iff_eq] at hpar
  obtain ⟨⟨p1, p2⟩, p3⟩ := hpar
  have hzip : ((ck.σ.take vs.length).zip vs).map (·.1) = ck.σ.take vs.length := List.map_fst_zip (by simp; omega)
  have hcs : ∀ id k, fd.scope.names.lookup id = some .cell → ((cellsFrom k fd.scope.names []).lookup id).isSome = true := fun id k e => cellsFrom_some _ _ _ (.inl e)
  rw [F.clo, F.glob]
  refine wpAny_newFunctionEnv_cells F.kind (fun x hx => ?_) fun env' he s' x => ?_
  · have hm : x.1 ∈ ck.σ.take vs.length := by rw [← hzip]; exact List.mem_map_of_mem hx
    rw [F.names]
    rcases p3 _ hm with q | q
    · exact .inl q
    · exact .inr ⟨q, F.names ▸ hcs x.1 _ (by rw [F.names]; exact q)⟩
  · subst he
    refine ⟨((hK.g.T.nolimit).keeps FF.keep).keeps x.toInCall.keep, codeAny_func ?_⟩
    obtain ⟨h₁, tk, rfl, _⟩ := x.done
    have hk₁ := x.toInCall.keep
    generalize hL : s.heap.objs.size = L at *
    generalize hE : newEnv fd.scope L mainGlobals (cellsFrom (L + 1) fd.scope.names []) (fd.qualname ++ ".<locals>.") (some f) fd.code none fd.builtins = env' at *
    have eL : env'.locals = L := by rw [← hE]; rfl
    have ecells : env'.cells = cellsFrom (L + 1) fd.scope.names [] := by rw [← hE]; rfl
    have escope : env'.scope = fd.scope := by rw [← hE]; rfl
    have eglob : env'.globals = mainGlobals := by rw [← hE]; rfl
    have ebi : env'.builtins = builtinsNs := by rw [← hE]; exact F.bi
    have ekind : ∀ id, env'.kindOf id = ck.names.lookup id := fun id => by
      show env'.scope.names.lookup id = _
      rw [escope, F.names]
    have hnd : ((cellsFrom (L + 1) fd.scope.names []).map (·.1)).Nodup := by rw [cellsFrom_names fd.scope.names (L + 1) 0 [] [] rfl]; exact F.cells
    have R1 := Rr.keeps (h' := h₁) hk₁
    have fr : ∀ a, L ≤ a → Free G c D a := fun a ha => Rr.free hK a (by rw [hL]; exact ha)
    have Rc : Rp G (c.callee env' s.heap) ck.σ (V₀ ck vs) D h₁ := by
      refine ⟨⟨_, ⟨x.toInCall.ns, fun b ob e => hk₁ b ob (FF.keep b ob e), ?_⟩, fun i id v h1 h2 => ?_⟩, fun y hy => ?_, fun b ob e => ?_, fun b ob e => ?_⟩
      · show G.h₀.objs.size ≤ env'.locals
        rw [eL, ← hL]
        exact Nat.le_trans FF.above (Nat.le_of_lt FF.ns.lt)
      · have hi : i < vs.length ∧ vs[i]? = some v := by
          unfold V₀ at h2
          rw [List.getElem?_append] at h2
          split at h2
          · rename_i hlt
            rw [List.getElem?_map] at h2
            obtain ⟨u, hu, e⟩ := Option.map_eq_some_iff.mp h2
            cases e
            exact ⟨by simpa using hlt, hu⟩
          · rw [List.getElem?_replicate] at h2
            split at h2 <;> cases h2
        have hmem : (id, v) ∈ (ck.σ.take vs.length).zip vs := by
          refine List.mem_of_getElem? (i := i) ?_
          rw [List.getElem?_zip_eq_some]
          exact ⟨by rw [List.getElem?_take, if_pos hi.1]; exact h1, hi.2⟩
        show Holds env' _ _ _ _
        unfold Holds
        rcases p3 id (by rw [← hzip]; exact List.mem_map_of_mem (f := (·.1)) hmem) with q | q
        · rw [ekind, q]
          exact bindL_hit (by rw [ekind, q]) _ _ (by rw [hzip]; exact p1) hmem
        · rw [ekind, q]
          obtain ⟨ca, hca⟩ := Option.isSome_iff_exists.mp (hcs id (L + 1) (by rw [F.names]; exact q))
          refine ⟨ca, by rw [ecells]; exact hca, ?_⟩
          have := x.cell id ca (by rw [ecells]; exact hca)
          rwa [bindC_hit (by rw [ekind, q]) _ _ (by rw [hzip]; exact p1) hmem] at this
      · have hy' : y ∈ cellsFrom (L + 1) fd.scope.names [] := by rw [← ecells]; exact hy
        have hl := lookup_of_mem_nodup (n := y.1) (c := y.2) hnd hy'
        have hab := x.above y.1 y.2 (by rw [ecells]; exact hy')
        rw [eL] at hab
        refine ⟨⟨_, x.cell y.1 y.2 (by rw [ecells]; exact hl)⟩, fun e => ?_, fun _ => ⟨(fr y.2 (Nat.le_of_lt hab)).old, ?_⟩⟩
        · have e' : y.2 = L := e.trans eL
          rw [e'] at hab
          exact Nat.lt_irrefl _ hab
        · have := fr y.2 (Nat.le_of_lt hab)
          show (if (y.2 == c.env.locals || c.env.cells.any fun x => x.2 == y.2) = true then s.heap.get? y.2 else c.prot y.2) = none
          rw [if_neg, this.prt]
          simp only [Bool.or_eq_true, beq_iff_eq, List.any_eq_true, not_or, not_exists, not_and]
          exact ⟨this.loc, fun z hz q => this.cel z hz q.symm⟩
      · obtain ⟨h1, h2, h3, h3', h4⟩ := R1.dy b ob e
        have hlt : b < L := by
          obtain ⟨_, _, _, _, h4'⟩ := Rr.dy b ob e
          obtain ⟨o', ho'⟩ := h4'.there
          rw [← hL]; exact Heap.lt_size ho'
        refine ⟨fun q => ?_, fun y hy q => ?_, fun q => ⟨(h3 q).1, (h3 q).2.1, ?_⟩, h3', h4⟩
        · have q' : b = L := q.trans eL
          exact Nat.lt_irrefl _ (q' ▸ hlt)
        · have hab := x.above y.1 y.2 hy
          rw [eL, ← q] at hab
          exact Nat.lt_irrefl _ (Nat.lt_trans hab hlt)
        · show (if (b == c.env.locals || c.env.cells.any fun x => x.2 == b) = true then s.heap.get? b else c.prot b) = none
          rw [if_neg, (h3 q).2.2]
          simp only [Bool.or_eq_true, beq_iff_eq, List.any_eq_true, not_or, not_exists, not_and]
          exact ⟨h1, fun z hz q' => h2 z hz q'.symm⟩
      · have e' : (if (b == c.env.locals || c.env.cells.any fun x => x.2 == b) = true then s.heap.get? b else c.prot b) = some ob := e
        have hg : s.heap.get? b = some ob := by
          split at e'
          · exact e'
          · exact (Rr.pr b ob e').1
        refine ⟨hk₁ b ob hg, fun q => ?_⟩
        have q' : b = L := q.trans eL
        have := Heap.lt_size hg
        rw [hL, q'] at this
        exact Nat.lt_irrefl _ this
    have ok : (c.callee env' s.heap).Ok G (n + off ck.hv) := {
      g := hK.g
      globals := eglob
      builtins := ebi
      kind := (congrArg Scope.kind escope).trans F.kind
      depth := by have := hK.depth; show c.A.depth + 1 + 2 * (n + off ck.hv) + 200 < recursionLimit; omega
      frames := by
        obtain ⟨fe, l, hf, r⟩ := hK.frames
        refine ⟨env', fe :: l, ?_, ?_, ?_, ebi, eglob⟩
        · show c.A.frames.map (env' :: ·) = _
          rw [hf]; rfl
        · rw [escope]; exact F.gen
        · rw [escope]; exact F.co
      units := by have := hK.units; show c.A.units + 3 + 16 * (n + off ck.hv) + 16 < cLine; omega
      handled := hK.handled
      cells := fun _ => by
        show (env'.cells.map (·.2)).Nodup
        rw [ecells]
        have := x.apart
        rw [ecells] at this
        unfold List.Nodup
        rw [List.pairwise_map]
        exact this }
    have gd : Good G n ck (c.callee env' s.heap) := ⟨X, ok, (congrArg Scope.names escope).trans F.names, F.own, fun id e => by
      show (env'.cells.lookup id).isSome = true
      rw [ecells]
      exact hcs id _ (by rw [F.names]; exact e), F.C⟩
    refine soundSs sm gd _ _ _ body hchk h _ _ _ Rc fun fl V' D' h' tk' R' hk => ?_
    exact hR _ D' h' tk' (Rr.back R') hk
end Mine

namespace Mine

noncomputable abbrev KK (P : Params) : Frag := Hd.KK P
noncomputable def fdAt (K : Frag) (a : Addr) : FuncData := match K.lookup a with
  | some ⟨_, _, .func fd, _⟩ => fd
  | _ => { name := Str.empty, qualname := Str.empty, params := { posonlyargs := [], args := [], vararg := none, kwonlyargs := [], kw_defaults := [], kwarg := none, defaults := [] }, body := .stmts [], scope := { kind := .function, names := [], isGenerator := false, isCoroutine := false }, globals := 0, closure := [], defaults := .none, kwdefaults := .none, pyModule := .none, code := .none }
noncomputable def bodyOf (K : Frag) (a : Addr) : List Stmt := match (fdAt K a).body with
  | .stmts b => b
  | _ => []
noncomputable def funcAt (K : Frag) (a : Addr) : Bool := match K.lookup a with
  | some ⟨_, _, .func _, _⟩ => true
  | _ => false
theorem funcAt_of {K : Frag} {a : Addr} (h : funcAt K a = true) : ∃ o, K.lookup a = some o ∧ o.data = .func (fdAt K a) := by
  unfold funcAt at h
  unfold fdAt
  split at h
  · rename_i e; exact ⟨_, e, rfl⟩
  · cases h
noncomputable def stmtsAt (K : Frag) (a : Addr) : Bool := match (fdAt K a).body with
  | .stmts _ => true
  | _ => false
theorem stmtsAt_of {K : Frag} {a : Addr} (h : stmtsAt K a = true) : (fdAt K a).body = .stmts (bodyOf K a) := by
  unfold stmtsAt at h
  unfold bodyOf
  split at h
  · rename_i e; rw [e]
  · cases h

/-- the names that the defs reach -/
noncomputable def tbl : List (Str × Value) :=
  [(Str.ofString "Vector", .ref 178),
    (Str.ofString "integer", .ref 189),
    (Str.ofString "character", .ref 196),
    (Str.ofString "is_vector", .ref 203),
    (Str.ofString "share", .ref 217),
    (Str.ofString "get_attr", .ref 224),
    (Str.ofString "label_text", .ref 231),
    (Str.ofString "label_texts", .ref 243),
    (Str.ofString "names_of", .ref 248),
    (Str.ofString "dim_of", .ref 255),
    (Str.ofString "class_attr", .ref 267),
    (Str.ofString "whole_subscripts", .ref 306),
    (Str.ofString "whole_places", .ref 318),
    (Str.ofString "positions", .ref 346),
    (Str.ofString "make_unique", .ref 353),
    (Str.ofString "is_frame", .ref 360),
    (Str.ofString "new_frame", .ref 365),
    (Str.ofString "plain_rows", .ref 372),
    (Str.ofString "frame_rows", .ref 379),
    (Str.ofString "column_names", .ref 384),
    (Str.ofString "row_names", .ref 391),
    (Str.ofString "kept_attrs", .ref 398),
    (Str.ofString "pick_items", .ref 412),
    (Str.ofString "recycled_columns", .ref 424),
    (Str.ofString "names_as_rows", .ref 431),
    (Str.ofString "make_frame", .ref 438),
    (Str.ofString "check_row_labels", .ref 445),
    (Str.ofString "picked_labels", .ref 450),
    (Str.ofString "pick_rows", .ref 455),
    (Str.ofString "is_absent", .ref 462),
    (Str.ofString "row_places", .ref 469),
    (Str.ofString "column_places", .ref 476),
    (Str.ofString "select_columns", .ref 481),
    (Str.ofString "subset_frame", .ref 488),
    (Str.ofString "head_places", .ref 495),
    (Str.ofString "head_frame", .ref 502),
    (Str.ofString "tail_frame", .ref 509),
    (Str.ofString "order_frame", .ref 516),
    (Str.ofString "_law_take", .ref 523),
    (Str.ofString "_law_column", .ref 528),
    (Str.ofString "_law_told", .ref 535),
    (Str.ofString "_law_labels", .ref 542),
    (Str.ofString "len", .builtin "len"),
    (Str.ofString "range", .type "range"),
    (Str.ofString "list", .type "list"),
    (Str.ofString "str", .type "str"),
    (Str.ofString "isinstance", .builtin "isinstance"),
    (Str.ofString "abs", .builtin "abs"),
    (Str.ofString "max", .builtin "max"),
    (Str.ofString "min", .builtin "min")]


noncomputable def sg_init : List Str := [Str.ofString "self", Str.ofString "kind", Str.ofString "items", Str.ofString "attrs"]
noncomputable def sm_init : Ss :=
  (.cons (.satt (.v 0) 0 (.v 1)) (.cons (.satt (.v 0) 1 (.v 2)) (.cons (.satt (.v 0) 2 (.v 3)) (.cons (.satt (.v 0) 3 (.bool false)) (.cons (.satt (.v 0) 4 (.bool false)) .nil)))))


noncomputable def ckAt (K : Frag) (hv : Bool) (a : Addr) (sg : List Str) : Ck := { names := (fdAt K a).scope.names, σ := sg, own := true, hv := hv, tbl := tbl, C := 178 }
/-- all that is asked of a def, as one check -/
noncomputable def fnChk (K : Frag) (hv : Bool) (a : Addr) (sg : List Str) (sm : Ss) (k : Nat) : Bool :=
  funcAt K a && stmtsAt K a && !(fdAt K a).scope.isCoroutine && !(fdAt K a).scope.isGenerator && (fdAt K a).scope.kind == .function && (fdAt K a).globals == mainGlobals && (fdAt K a).builtins == builtinsNs &&
    (fdAt K a).closure.isEmpty && codeIn K (fdAt K a).code (fdAt K a).qualname && decide (((cellsFrom 0 (fdAt K a).scope.names []).map (·.1)).Nodup) && (ckAt K hv a sg).pars k && chkSs (ckAt K hv a sg) sm (bodyOf K a)

structure Bx where
  prog : Program
  w : World
  h₀ : Heap
  p : Program
  loose : List Str
  mg : Str → Option Value
  mb : Str → Option Value
noncomputable def GG (b : Bx) : Gl := { prog := b.prog, w := b.w, K := KK b.w.params, p := b.p, loose := b.loose, mg := b.mg, mb := b.mb, C := 178, h₀ := b.h₀ }

section
variable {b : Bx}

theorem fnOk_of {hv : Bool} {a : Addr} {sg : List Str} {sm : Ss} {k : Nat} (h : fnChk (KK b.w.params) hv a sg sm k = true) :
    FnOk (GG b) (ckAt (KK b.w.params) hv a sg) a (bodyOf (KK b.w.params) a) (fdAt (KK b.w.params) a) ∧ (ckAt (KK b.w.params) hv a sg).pars k = true ∧ chkSs (ckAt (KK b.w.params) hv a sg) sm (bodyOf (KK b.w.params) a) = true := by
  unfold fnChk at h
  simp only [Bool.and_eq_true, Bool.not_eq_true', beq_iff_eq, decide_eq_true_eq, List.isEmpty_iff] at h
  obtain ⟨⟨⟨⟨⟨⟨⟨⟨⟨⟨⟨h1, h2⟩, h3⟩, h4⟩, h5⟩, h6⟩, h7⟩, h8⟩, h9⟩, h10⟩, h11⟩, h12⟩ := h
  exact ⟨⟨funcAt_of h1, h3, h4, h5, stmtsAt_of h2, h6, h7, h8, h9, rfl, h10, rfl, rfl⟩, h11, h12⟩

noncomputable def tblChk (K : Frag) : Bool := tbl.all fun p =>
  (nsIn K mainGlobals p.1 == some (some p.2) && keepIn K p.2) || (nsIn K mainGlobals p.1 == some none && bootBuiltins p.1 == some p.2 && !(p.1 == ("__name__" : Str)) && (match p.2 with | .builtin _ => true | .type _ => true | _ => false))
theorem tblChk_ok : ∀ P, tblChk (KK P) = true := by intro P; kernel_rfl
noncomputable def vecChk (K : Frag) : Bool := (List.range 3).all (fun i => plainGet K 178 (fldName i) && (match findIn K (.ref 178) (fldName i) with | some attr => noGet K attr | none => false)) && hasDictIn K 178 &&
  findIn K (.ref 178) "__setattr__" == some (some (.builtin "object.__setattr__")) && plainOver K 178 && (List.range 5).all (fun i => takerIn K 178 (fldName i) == some none) && isIn K (.ref 178) 178 &&
  makesIn K 178 && findIn K (.ref 178) "__init__" == some (some (.ref 168)) && typeIn K (.ref 168) == some (.type "function")
theorem vecChk_ok : ∀ P, vecChk (KK P) = true := by intro P; kernel_rfl

theorem lookup_mem {α : Type} {l : List (Str × α)} {x : Str} {v : α} (h : l.lookup x = some v) : (x, v) ∈ l := by
  induction l with
  | nil => cases h
  | cons q r ih =>
    obtain ⟨a, b⟩ := q
    rw [List.lookup_cons] at h
    split at h
    · rename_i e; cases h; rw [eq_of_beq e]; exact .head _
    · exact .tail _ (ih h)

theorem tbl_ok : ∀ x v, tbl.lookup x = some v → (nsIn (KK b.w.params) mainGlobals x = some (some v) ∧ keepIn (KK b.w.params) v = true) ∨
    (nsIn (KK b.w.params) mainGlobals x = some none ∧ bootBuiltins x = some v ∧ x ≠ "__name__" ∧ ((∃ i, v = .builtin i) ∨ ∃ T, v = .type T)) := fun x v h => by
  have := List.all_eq_true.mp (tblChk_ok b.w.params) _ (lookup_mem h)
  simp only [Bool.or_eq_true, Bool.and_eq_true, beq_iff_eq, Bool.not_eq_true'] at this
  rcases this with h | ⟨⟨⟨a, b⟩, c⟩, d⟩
  · exact .inl h
  · refine .inr ⟨a, b, fun e => (by rw [e] at c; simp at c), ?_⟩
    cases v <;> first | exact .inl ⟨_, rfl⟩ | exact .inr ⟨_, rfl⟩ | cases d

theorem vecK : VecK (GG b) ∧ MakeK (GG b) 168 ∧ isIn (KK b.w.params) (.ref 178) 178 = true := by
  have h := vecChk_ok b.w.params
  unfold vecChk at h
  simp only [Bool.and_eq_true, beq_iff_eq, List.all_eq_true, List.mem_range] at h
  obtain ⟨⟨⟨⟨⟨⟨⟨⟨h1, h2⟩, h3⟩, h4⟩, h5⟩, h6⟩, h7⟩, h8⟩, h9⟩ := h
  refine ⟨⟨fun i hi => ?_, h2, h3, h4, h5⟩, ⟨h7, h8, h9⟩, h6⟩
  obtain ⟨a, bb⟩ := h1 i hi
  refine ⟨a, ?_⟩
  show ∃ attr, findIn (KK b.w.params) (.ref 178) (fldName i) = some attr ∧ noGet (KK b.w.params) attr = true
  cases e : findIn (KK b.w.params) (.ref 178) (fldName i) with
  | none => rw [e] at bb; cases bb
  | some attr => rw [e] at bb; exact ⟨attr, rfl, bb⟩
end
end Mine

namespace Mine
section
variable {b : Bx}

theorem enterG {n : Nat} {hv : Bool} {a : Addr} {sg : List Str} {sm : Ss} {vs args : List Value} {V : Vs} {D : DM} {k : Value → DM → Prop} (hc : ∀ P, fnChk (KK P) hv a sg sm vs.length = true) (X : Facts (GG b) tbl hv)
    (hb : ∀ P S, peek (KK P) S (bindArgs (fdAt (KK P) a) ⟨args, []⟩) = some ((sg.take vs.length).zip vs))
    (h : wpSs (GG b) n sm V D fun fl V' D' => k (flowV fl) D') (hV : V = vs.map some ++ List.replicate (sg.length - vs.length) none := by rfl) : Calls (GG b) (n + off hv + 1) a args D k := by
  subst hV
  obtain ⟨h1, h2, h3⟩ := fnOk_of (b := b) (hc b.w.params)
  exact enter (ck := ckAt (KK b.w.params) hv a sg) X h1 h3 h2 (fun s hK => kp_binds hK (hb b.w.params)) h

theorem factsF : Facts (GG b) tbl false := ⟨tbl_ok, vecK.1, vecK.2.2, fun e => by cases e⟩

theorem ck_init : ∀ P, fnChk (KK P) false 168 sg_init sm_init 4 = true := by intro P; kernel_rfl

theorem bind_init3 {x : Addr} {kd it at_ : Value} : ∀ P S, peek (KK P) S (bindArgs (fdAt (KK P) 168) ⟨[.ref x, kd, it, at_], []⟩) = some ((sg_init.take 4).zip [.ref x, kd, it, at_]) := by intro P S; kernel_rfl
theorem bind_init2 {x : Addr} {kd it : Value} : ∀ P S, peek (KK P) S (bindArgs (fdAt (KK P) 168) ⟨[.ref x, kd, it], []⟩) = some ((sg_init.take 4).zip [.ref x, kd, it, .none]) := by intro P S; kernel_rfl

theorem wp_init {n : Nat} {x d : Addr} {kd it at_ : Value} {D : DM} {k : Flow → Vs → DM → Prop} (h0 : D x = some (.ins d)) (h1 : D d = some (.vdc [])) (hne : x ≠ d) (e1 : handedIn kd = true) (e2 : handedIn it = true) (e3 : handedIn at_ = true)
    (h : ∀ V, k .next V (D.put d (.vdc [kd, it, at_, .bool false, .bool false]))) : wpSs (GG b) n sm_init [some (.ref x), some kd, some it, some at_] D k := by
  unfold sm_init
  simp only [wpSs, wpS, wpE, List.getD_cons_zero, List.getD_cons_succ]
  refine ⟨x, d, [], rfl, h0, h1, Nat.zero_le _, e1, ?_⟩
  have a0 : ∀ fs, (D.put d (.vdc fs)) x = some (.ins d) := fun fs => by rw [DM.put_ne _ _ hne]; exact h0
  have a1 : ∀ fs, (D.put d (.vdc fs)) d = some (.vdc fs) := fun fs => DM.put_same ..
  refine ⟨x, d, _, rfl, a0 _, a1 _, Nat.le_refl _, e2, ?_⟩
  rw [DM.put_put]
  refine ⟨x, d, _, rfl, a0 _, a1 _, Nat.le_refl _, e3, ?_⟩
  rw [DM.put_put]
  refine ⟨x, d, _, rfl, a0 _, a1 _, Nat.le_refl _, rfl, ?_⟩
  rw [DM.put_put]
  refine ⟨x, d, _, rfl, a0 _, a1 _, Nat.le_refl _, rfl, ?_⟩
  rw [DM.put_put]
  exact h _

theorem vec_make {x d : Addr} {vs : List Value} {kd it at_ : Value} {D : DM} {k : Value → DM → Prop} (hb : ∀ P S, peek (KK P) S (bindArgs (fdAt (KK P) 168) ⟨.ref x :: vs, []⟩) = some ((sg_init.take 4).zip [.ref x, kd, it, at_]))
    (hd : D d = none) (hne : x ≠ d) (e1 : handedIn kd = true) (e2 : handedIn it = true) (e3 : handedIn at_ = true)
    (h : k .none ((D.put d (.vdc [kd, it, at_, .bool false, .bool false])).put x (.ins d))) : Calls (GG b) 3 168 (.ref x :: vs) ((D.put d (.vdc [])).put x (.ins d)) k := by
  refine enterG (n := 0) (vs := [.ref x, kd, it, at_]) ck_init factsF hb (wp_init (x := x) (d := d) (DM.put_same ..) (by rw [DM.put_ne _ _ (Ne.symm hne)]; exact DM.put_same ..) hne e1 e2 e3 fun V => ?_)
  have e : ((D.put d (.vdc [])).put x (.ins d)).put d (.vdc [kd, it, at_, .bool false, .bool false]) = (D.put d (.vdc [kd, it, at_, .bool false, .bool false])).put x (.ins d) := by
    funext z
    simp only [DM.put]
    by_cases h1 : z = d
    · subst h1; simp [Ne.symm hne]
    · by_cases h2 : z = x
      · subst h2; simp [hne]
      · simp [h1, h2]
  show k .none _
  rw [e]; exact h

theorem factsT : Facts (GG b) tbl true := ⟨tbl_ok, vecK.1, vecK.2.2, fun _ c σ V D vs k hK h => by
  refine W.make (n := 3) vecK.2.1 (hK.le (by decide)) fun x d hx hd hne => ?_
  rcases h with ⟨kd, it, rfl, e1, e2, hk⟩ | ⟨kd, it, at_, rfl, e1, e2, e3, hk⟩
  · exact vec_make bind_init2 hd hne e1 e2 rfl ⟨rfl, hk x d hx hd hne⟩
  · exact vec_make bind_init3 hd hne e1 e2 e3 ⟨rfl, hk x d hx hd hne⟩⟩
end
end Mine

namespace Mine

noncomputable def sg_integer : List Str := [Str.ofString "items"]
noncomputable def sm_integer : Ss :=
  (.cons (.ret (.call .vec (.cons (.str "integer") (.cons (.call .list (.cons (.v 0) .nil)) .nil)))) .nil)
theorem ck_integer : ∀ P, fnChk (KK P) true 189 sg_integer sm_integer 1 = true := by intro P; kernel_rfl
theorem bd_integer {v0 : Value} : ∀ P S, peek (KK P) S (bindArgs (fdAt (KK P) 189) ⟨[v0], []⟩) = some ((sg_integer.take 1).zip [v0]) := by intro P S; kernel_rfl

noncomputable def sg_character : List Str := [Str.ofString "items"]
noncomputable def sm_character : Ss :=
  (.cons (.ret (.call .vec (.cons (.str "character") (.cons (.call .list (.cons (.v 0) .nil)) .nil)))) .nil)
theorem ck_character : ∀ P, fnChk (KK P) true 196 sg_character sm_character 1 = true := by intro P; kernel_rfl
theorem bd_character {v0 : Value} : ∀ P S, peek (KK P) S (bindArgs (fdAt (KK P) 196) ⟨[v0], []⟩) = some ((sg_character.take 1).zip [v0]) := by intro P S; kernel_rfl

noncomputable def sg_is_vector : List Str := [Str.ofString "v"]
noncomputable def sm_is_vector : Ss :=
  (.cons (.ret (.call .isinst (.cons (.v 0) (.cons .cls .nil)))) .nil)
theorem ck_is_vector : ∀ P, fnChk (KK P) true 203 sg_is_vector sm_is_vector 1 = true := by intro P; kernel_rfl
theorem bd_is_vector {v0 : Value} : ∀ P S, peek (KK P) S (bindArgs (fdAt (KK P) 203) ⟨[v0], []⟩) = some ((sg_is_vector.take 1).zip [v0]) := by intro P S; kernel_rfl

noncomputable def sg_share : List Str := [Str.ofString "v"]
noncomputable def sm_share : Ss :=
  (.cons (.ite (.e (.call .isinst (.cons (.v 0) (.cons .cls .nil)))) (.cons (.satt (.v 0) 3 (.bool true)) .nil) .nil) (.cons (.ret (.v 0)) .nil))
theorem ck_share : ∀ P, fnChk (KK P) true 217 sg_share sm_share 1 = true := by intro P; kernel_rfl
theorem bd_share {v0 : Value} : ∀ P S, peek (KK P) S (bindArgs (fdAt (KK P) 217) ⟨[v0], []⟩) = some ((sg_share.take 1).zip [v0]) := by intro P S; kernel_rfl

noncomputable def sg_get_attr : List Str := [Str.ofString "v", Str.ofString "name"]
noncomputable def sm_get_attr : Ss :=
  (.cons (.ite (.cmp .Is (.att (.v 0) 2) .none) (.cons (.ret .none) .nil) .nil) (.cons (.ret (.get1 (.att (.v 0) 2) (.v 1))) .nil))
theorem ck_get_attr : ∀ P, fnChk (KK P) true 224 sg_get_attr sm_get_attr 2 = true := by intro P; kernel_rfl
theorem bd_get_attr {v0 v1 : Value} : ∀ P S, peek (KK P) S (bindArgs (fdAt (KK P) 224) ⟨[v0, v1], []⟩) = some ((sg_get_attr.take 2).zip [v0, v1]) := by intro P S; kernel_rfl

noncomputable def sg_label_text : List Str := [Str.ofString "kind", Str.ofString "item"]
noncomputable def sm_label_text : Ss :=
  (.cons (.ite (.or (.cons (.cmp .Is (.v 1) .none) (.cons (.cmp .Eq (.v 0) (.str "character")) .nil))) (.cons (.ret (.v 1)) .nil) .nil) (.cons (.ite (.cmp .Eq (.v 0) (.str "logical")) (.cons (.ret (.ite (.cmp .Eq (.v 1) (.int 1)) (.str "TRUE") (.str "FALSE"))) .nil) .nil) (.cons (.ite (.cmp .Eq (.v 0) (.str "integer")) (.cons (.ret (.call .str (.cons (.v 1) .nil))) .nil) .nil) (.cons (.ret .bad) .nil))))
theorem ck_label_text : ∀ P, fnChk (KK P) true 231 sg_label_text sm_label_text 2 = true := by intro P; kernel_rfl
theorem bd_label_text {v0 v1 : Value} : ∀ P S, peek (KK P) S (bindArgs (fdAt (KK P) 231) ⟨[v0, v1], []⟩) = some ((sg_label_text.take 2).zip [v0, v1]) := by intro P S; kernel_rfl

noncomputable def sg_label_texts : List Str := [Str.ofString "value", Str.ofString "levels", Str.ofString "texts", Str.ofString "item"]
noncomputable def sb_label_texts_0 : E := (.call (.own 231) (.cons (.att (.v 0) 0) (.cons (.v 3) .nil)))
noncomputable def sb_label_texts_1 : E := .bad
noncomputable def sm_label_texts : Ss :=
  (.cons (.set 1 (.call (.own 224) (.cons (.v 0) (.cons (.str "levels") .nil)))) (.cons (.ite (.and (.cons (.cmp .IsNot (.v 1) .none) (.cons (.cmp .Eq (.att (.v 0) 0) (.str "integer")) (.cons (.cmp .In (.str "factor") (.call (.own 267) (.cons (.v 0) .nil))) .nil)))) (.cons (.set 2 (.ite .bad (.call (.own 243) (.cons (.v 1) .nil)) (.lst .nil))) (.cons (.ret (.comp 0 3 (.att (.v 0) 1) sb_label_texts_1)) .nil)) .nil) (.cons (.ret (.comp 0 3 (.att (.v 0) 1) sb_label_texts_0)) .nil)))
theorem ck_label_texts : ∀ P, fnChk (KK P) true 243 sg_label_texts sm_label_texts 1 = true := by intro P; kernel_rfl
theorem bd_label_texts {v0 : Value} : ∀ P S, peek (KK P) S (bindArgs (fdAt (KK P) 243) ⟨[v0], []⟩) = some ((sg_label_texts.take 1).zip [v0]) := by intro P S; kernel_rfl

noncomputable def sg_names_of : List Str := [Str.ofString "v", Str.ofString "dims", Str.ofString "names", Str.ofString "tag", Str.ofString "rows", Str.ofString "one"]
noncomputable def sm_names_of : Ss :=
  (.cons (.ite (.cmp .Eq (.att (.v 0) 0) (.str "language")) (.cons .bad (.cons (.ret .none) .nil)) .nil) (.cons (.ite (.cmp .Eq (.att (.v 0) 0) (.str "environment")) (.cons (.ret .bad) .nil) .nil) (.cons (.set 1 (.call (.own 255) (.cons (.v 0) .nil))) (.cons (.ite (.and (.cons (.cmp .IsNot (.v 1) .none) (.cons (.cmp .Eq (.call .len (.cons (.v 1) .nil)) (.int 1)) .nil))) (.cons .bad (.cons (.ret (.ite (.cmp .Is (.v 4) .none) .none (.idx (.v 4) (.int 0)))) .nil)) .nil) (.cons (.set 2 (.call (.own 224) (.cons (.v 0) (.cons (.str "names") .nil)))) (.cons (.ite (.cmp .Is (.v 2) .none) (.cons (.ret .none) .nil) .nil) (.cons (.ret (.call .list (.cons (.att (.v 2) 1) .nil))) .nil)))))))
theorem ck_names_of : ∀ P, fnChk (KK P) true 248 sg_names_of sm_names_of 1 = true := by intro P; kernel_rfl
theorem bd_names_of {v0 : Value} : ∀ P S, peek (KK P) S (bindArgs (fdAt (KK P) 248) ⟨[v0], []⟩) = some ((sg_names_of.take 1).zip [v0]) := by intro P S; kernel_rfl

noncomputable def sg_dim_of : List Str := [Str.ofString "v", Str.ofString "dims"]
noncomputable def sm_dim_of : Ss :=
  (.cons (.set 1 (.call (.own 224) (.cons (.v 0) (.cons (.str "dim") .nil)))) (.cons (.ite (.cmp .Is (.v 1) .none) (.cons (.ret .none) .nil) .nil) (.cons (.ret (.call .list (.cons (.att (.v 1) 1) .nil))) .nil)))
theorem ck_dim_of : ∀ P, fnChk (KK P) true 255 sg_dim_of sm_dim_of 1 = true := by intro P; kernel_rfl
theorem bd_dim_of {v0 : Value} : ∀ P S, peek (KK P) S (bindArgs (fdAt (KK P) 255) ⟨[v0], []⟩) = some ((sg_dim_of.take 1).zip [v0]) := by intro P S; kernel_rfl

noncomputable def sg_class_attr : List Str := [Str.ofString "v", Str.ofString "found"]
noncomputable def sm_class_attr : Ss :=
  (.cons (.set 1 (.call (.own 224) (.cons (.v 0) (.cons (.str "class") .nil)))) (.cons (.ite (.cmp .Is (.v 1) .none) (.cons (.ret (.lst .nil)) .nil) .nil) (.cons (.ret (.call .list (.cons (.att (.v 1) 1) .nil))) .nil)))
theorem ck_class_attr : ∀ P, fnChk (KK P) true 267 sg_class_attr sm_class_attr 1 = true := by intro P; kernel_rfl
theorem bd_class_attr {v0 : Value} : ∀ P S, peek (KK P) S (bindArgs (fdAt (KK P) 267) ⟨[v0], []⟩) = some ((sg_class_attr.take 1).zip [v0]) := by intro P S; kernel_rfl

noncomputable def sg_whole_subscripts : List Str := [Str.ofString "ix", Str.ofString "found", Str.ofString "item"]
noncomputable def sl_whole_subscripts_0 : Ss := (.cons (.ite (.or (.cons (.cmp .Is (.v 2) .none) (.cons (.cmp .Eq (.idx (.v 2) (.int 1)) (.int 0)) .nil))) (.cons (.ex (.app (.v 1) .none)) .nil) (.cons .bad .nil)) .nil)
noncomputable def sm_whole_subscripts : Ss :=
  (.cons (.ite (.cmp .Eq (.att (.v 0) 0) (.str "integer")) (.cons (.ret (.att (.v 0) 1)) .nil) .nil) (.cons (.set 1 (.lst .nil)) (.cons (.for_ 0 2 (.att (.v 0) 1) sl_whole_subscripts_0) (.cons (.ret (.v 1)) .nil))))
theorem ck_whole_subscripts : ∀ P, fnChk (KK P) true 306 sg_whole_subscripts sm_whole_subscripts 1 = true := by intro P; kernel_rfl
theorem bd_whole_subscripts {v0 : Value} : ∀ P S, peek (KK P) S (bindArgs (fdAt (KK P) 306) ⟨[v0], []⟩) = some ((sg_whole_subscripts.take 1).zip [v0]) := by intro P S; kernel_rfl

noncomputable def sg_whole_places : List Str := [Str.ofString "items", Str.ofString "n", Str.ofString "places", Str.ofString "left_out", Str.ofString "lacks", Str.ofString "item", Str.ofString "i"]
noncomputable def sl_whole_places_0 : Ss := (.cons (.ite (.cmp .Is (.v 5) .none) (.cons (.set 4 (.bool true)) (.cons (.ex (.app (.v 2) .none)) .nil)) (.cons (.ite (.cmp .Gt (.v 5) (.int 0)) (.cons (.ex (.app (.v 2) (.bin .Sub (.v 5) (.int 1)))) .nil) (.cons (.ite (.cmp .Lt (.v 5) (.int 0)) (.cons (.sidx (.v 3) (.bin .Sub (.neg (.v 5)) (.int 1)) (.bool true)) .nil) .nil) .nil)) .nil)) .nil)
noncomputable def sm_whole_places : Ss :=
  (.cons (.set 2 (.lst .nil)) (.cons (.set 3 (.dct0 false)) (.cons (.set 4 (.bool false)) (.cons (.for_ 0 5 (.v 0) sl_whole_places_0) (.cons (.ite (.cmp .Eq (.call .len (.cons (.v 3) .nil)) (.int 0)) (.cons (.ret (.v 2)) .nil) .nil) (.cons (.ite (.e (.v 4)) (.cons .bad .nil) .nil) (.cons (.ite (.cmp .Gt (.call .len (.cons (.v 2) .nil)) (.int 0)) (.cons .bad .nil) .nil) (.cons (.ret .bad) .nil))))))))
theorem ck_whole_places : ∀ P, fnChk (KK P) true 318 sg_whole_places sm_whole_places 2 = true := by intro P; kernel_rfl
theorem bd_whole_places {v0 v1 : Value} : ∀ P S, peek (KK P) S (bindArgs (fdAt (KK P) 318) ⟨[v0, v1], []⟩) = some ((sg_whole_places.take 2).zip [v0, v1]) := by intro P S; kernel_rfl

noncomputable def sg_positions : List Str := [Str.ofString "ix", Str.ofString "n", Str.ofString "names", Str.ofString "extend", Str.ofString "kind"]
noncomputable def sm_positions : Ss :=
  (.cons (.set 4 (.att (.v 0) 0)) (.cons (.ite (.cmp .Eq (.v 4) (.str "missing")) (.cons (.ret (.tup (.cons (.call .list (.cons (.call .range (.cons (.v 1) .nil)) .nil)) (.cons .none .nil)))) .nil) .nil) (.cons (.ite (.cmp .Eq (.v 4) (.str "NULL")) (.cons (.ret (.tup (.cons (.lst .nil) (.cons .none .nil)))) .nil) .nil) (.cons (.ite (.cmp .Eq (.v 4) (.str "logical")) (.cons (.ret (.tup (.cons .bad (.cons .none .nil)))) .nil) .nil) (.cons (.ite (.or (.cons (.cmp .Eq (.v 4) (.str "integer")) (.cons (.cmp .Eq (.v 4) (.str "double")) .nil))) (.cons (.ret (.tup (.cons (.call (.own 318) (.cons (.call (.own 306) (.cons (.v 0) .nil)) (.cons (.v 1) .nil))) (.cons .none .nil)))) .nil) .nil) (.cons (.ite (.cmp .Eq (.v 4) (.str "character")) (.cons (.ite (.e (.v 3)) (.cons (.ret .bad) .nil) .nil) (.cons (.ret (.tup (.cons .bad (.cons .none .nil)))) .nil)) .nil) (.cons .bad .nil)))))))
theorem ck_positions : ∀ P, fnChk (KK P) true 346 sg_positions sm_positions 4 = true := by intro P; kernel_rfl
theorem bd_positions {v0 v1 v2 v3 : Value} : ∀ P S, peek (KK P) S (bindArgs (fdAt (KK P) 346) ⟨[v0, v1, v2, v3], []⟩) = some ((sg_positions.take 4).zip [v0, v1, v2, v3]) := by intro P S; kernel_rfl

noncomputable def sg_make_unique : List Str := [Str.ofString "names", Str.ofString "sep", Str.ofString "taken", Str.ofString "name", Str.ofString "seen", Str.ofString "counts", Str.ofString "found", Str.ofString "number", Str.ofString "fresh"]
noncomputable def st_make_unique_0 : T := (.cmp .In (.bin .Add (.bin .Add (.v 3) (.v 1)) (.call .str (.cons (.v 7) .nil))) (.v 2))
noncomputable def sl_make_unique_0 : Ss := (.cons (.aug 7 (.int 1)) .nil)
noncomputable def sl_make_unique_1 : Ss := (.cons (.ite (.cmp .NotIn (.v 3) (.v 4)) (.cons (.sidx (.v 4) (.v 3) (.bool true)) (.cons (.ex (.app (.v 6) (.v 3))) (.cons .cont .nil))) .nil) (.cons (.set 7 (.get2 (.v 5) (.v 3) (.int 1))) (.cons (.while_ st_make_unique_0 sl_make_unique_0) (.cons (.set 8 (.bin .Add (.bin .Add (.v 3) (.v 1)) (.call .str (.cons (.v 7) .nil)))) (.cons (.sidx (.v 5) (.v 3) (.bin .Add (.v 7) (.int 1))) (.cons (.sidx (.v 2) (.v 8) (.bool true)) (.cons (.sidx (.v 4) (.v 8) (.bool true)) (.cons (.ex (.app (.v 6) (.v 8))) .nil))))))))
noncomputable def sl_make_unique_2 : Ss := (.cons (.sidx (.v 2) (.v 3) (.bool true)) .nil)
noncomputable def sm_make_unique : Ss :=
  (.cons (.set 2 (.dct0 true)) (.cons (.for_ 0 3 (.v 0) sl_make_unique_2) (.cons (.set 4 (.dct0 true)) (.cons (.set 5 (.dct0 true)) (.cons (.set 6 (.lst .nil)) (.cons (.for_ 0 3 (.v 0) sl_make_unique_1) (.cons (.ret (.v 6)) .nil)))))))
theorem ck_make_unique : ∀ P, fnChk (KK P) true 353 sg_make_unique sm_make_unique 2 = true := by intro P; kernel_rfl
theorem bd_make_unique {v0 v1 : Value} : ∀ P S, peek (KK P) S (bindArgs (fdAt (KK P) 353) ⟨[v0, v1], []⟩) = some ((sg_make_unique.take 2).zip [v0, v1]) := by intro P S; kernel_rfl

noncomputable def sg_is_frame : List Str := [Str.ofString "v", Str.ofString "names", Str.ofString "column"]
noncomputable def sl_is_frame_0 : Ss := (.cons (.ite (.or (.cons (.nt (.e (.call (.own 203) (.cons (.v 2) .nil)))) (.cons (.cmp .NotEq (.call .len (.cons (.att (.v 2) 1) .nil)) (.call (.own 379) (.cons (.v 0) .nil))) .nil))) (.cons (.ret (.bool false)) .nil) .nil) .nil)
noncomputable def sm_is_frame : Ss :=
  (.cons (.ite (.or (.cons (.cmp .NotEq (.att (.v 0) 0) (.str "list")) (.cons (.cmp .NotIn (.str "data.frame") (.call (.own 267) (.cons (.v 0) .nil))) (.cons (.cmp .NotIn (.str "row.names") (.att (.v 0) 2)) .nil)))) (.cons (.ret (.bool false)) .nil) .nil) (.cons (.set 1 (.call (.own 248) (.cons (.v 0) .nil))) (.cons (.ite (.and (.cons (.cmp .Gt (.call .len (.cons (.att (.v 0) 1) .nil)) (.int 0)) (.cons (.or (.cons (.cmp .Is (.v 1) .none) (.cons (.cmp .NotEq (.call .len (.cons (.v 1) .nil)) (.call .len (.cons (.att (.v 0) 1) .nil))) .nil))) .nil))) (.cons (.ret (.bool false)) .nil) .nil) (.cons (.for_ 0 2 (.att (.v 0) 1) sl_is_frame_0) (.cons (.ret (.bool true)) .nil)))))
theorem ck_is_frame : ∀ P, fnChk (KK P) true 360 sg_is_frame sm_is_frame 1 = true := by intro P; kernel_rfl
theorem bd_is_frame {v0 : Value} : ∀ P S, peek (KK P) S (bindArgs (fdAt (KK P) 360) ⟨[v0], []⟩) = some ((sg_is_frame.take 1).zip [v0]) := by intro P S; kernel_rfl

noncomputable def sg_new_frame : List Str := [Str.ofString "columns", Str.ofString "names", Str.ofString "row_labels", Str.ofString "made", Str.ofString "column"]
noncomputable def sb_new_frame_0 : E := (.call (.own 217) (.cons (.v 4) .nil))
noncomputable def sm_new_frame : Ss :=
  (.cons (.set 3 (.call .vec (.cons (.str "list") (.cons (.comp 0 4 (.v 0) sb_new_frame_0) .nil)))) (.cons (.satt (.v 3) 2 (.dct ["names", "class", "row.names"] (.cons (.call (.own 196) (.cons (.v 1) .nil)) (.cons (.call (.own 196) (.cons (.lst (.cons (.str "data.frame") .nil)) .nil)) (.cons (.v 2) .nil))))) (.cons (.ret (.v 3)) .nil)))
theorem ck_new_frame : ∀ P, fnChk (KK P) true 365 sg_new_frame sm_new_frame 3 = true := by intro P; kernel_rfl
theorem bd_new_frame {v0 v1 v2 : Value} : ∀ P S, peek (KK P) S (bindArgs (fdAt (KK P) 365) ⟨[v0, v1, v2], []⟩) = some ((sg_new_frame.take 3).zip [v0, v1, v2]) := by intro P S; kernel_rfl

noncomputable def sg_plain_rows : List Str := [Str.ofString "count"]
noncomputable def sm_plain_rows : Ss :=
  (.cons (.ret (.call (.own 189) (.cons (.call .list (.cons (.call .range (.cons (.int 1) (.cons (.bin .Add (.v 0) (.int 1)) .nil))) .nil)) .nil))) .nil)
theorem ck_plain_rows : ∀ P, fnChk (KK P) true 372 sg_plain_rows sm_plain_rows 1 = true := by intro P; kernel_rfl
theorem bd_plain_rows {v0 : Value} : ∀ P S, peek (KK P) S (bindArgs (fdAt (KK P) 372) ⟨[v0], []⟩) = some ((sg_plain_rows.take 1).zip [v0]) := by intro P S; kernel_rfl

noncomputable def sg_frame_rows : List Str := [Str.ofString "df"]
noncomputable def sm_frame_rows : Ss :=
  (.cons (.ite (.or (.cons (.cmp .Is (.att (.v 0) 2) .none) (.cons (.cmp .NotIn (.str "row.names") (.att (.v 0) 2)) .nil))) (.cons (.ret (.int 0)) .nil) .nil) (.cons (.ret (.call .len (.cons (.att (.idx (.att (.v 0) 2) (.str "row.names")) 1) .nil))) .nil))
theorem ck_frame_rows : ∀ P, fnChk (KK P) true 379 sg_frame_rows sm_frame_rows 1 = true := by intro P; kernel_rfl
theorem bd_frame_rows {v0 : Value} : ∀ P S, peek (KK P) S (bindArgs (fdAt (KK P) 379) ⟨[v0], []⟩) = some ((sg_frame_rows.take 1).zip [v0]) := by intro P S; kernel_rfl

noncomputable def sg_column_names : List Str := [Str.ofString "df", Str.ofString "names", Str.ofString "name"]
noncomputable def sb_column_names_0 : E := (.ite (.cmp .Is (.v 2) .none) (.str "NA") (.v 2))
noncomputable def sm_column_names : Ss :=
  (.cons (.set 1 (.call (.own 248) (.cons (.v 0) .nil))) (.cons (.ret (.ite (.cmp .Is (.v 1) .none) (.lst .nil) (.comp 0 2 (.v 1) sb_column_names_0))) .nil))
theorem ck_column_names : ∀ P, fnChk (KK P) true 384 sg_column_names sm_column_names 1 = true := by intro P; kernel_rfl
theorem bd_column_names {v0 : Value} : ∀ P S, peek (KK P) S (bindArgs (fdAt (KK P) 384) ⟨[v0], []⟩) = some ((sg_column_names.take 1).zip [v0]) := by intro P S; kernel_rfl

noncomputable def sg_row_names : List Str := [Str.ofString "df"]
noncomputable def sm_row_names : Ss :=
  (.cons (.ite (.cmp .Eq (.call (.own 379) (.cons (.v 0) .nil)) (.int 0)) (.cons (.ret (.lst .nil)) .nil) .nil) (.cons (.ret (.call (.own 243) (.cons (.idx (.att (.v 0) 2) (.str "row.names")) .nil))) .nil))
theorem ck_row_names : ∀ P, fnChk (KK P) true 391 sg_row_names sm_row_names 1 = true := by intro P; kernel_rfl
theorem bd_row_names {v0 : Value} : ∀ P S, peek (KK P) S (bindArgs (fdAt (KK P) 391) ⟨[v0], []⟩) = some ((sg_row_names.take 1).zip [v0]) := by intro P S; kernel_rfl

noncomputable def sg_kept_attrs : List Str := [Str.ofString "column", Str.ofString "kept", Str.ofString "name"]
noncomputable def sl_kept_attrs_0 : Ss := (.cons (.ite (.cmp .NotIn (.v 2) (.tup (.cons (.str "names") (.cons (.str "dim") (.cons (.str "dimnames") .nil))))) (.cons (.sidx (.v 1) (.v 2) (.idx (.att (.v 0) 2) (.v 2))) .nil) .nil) .nil)
noncomputable def sm_kept_attrs : Ss :=
  (.cons (.ite (.cmp .Is (.att (.v 0) 2) .none) (.cons (.ret .none) .nil) .nil) (.cons (.set 1 (.dct0 true)) (.cons (.for_ 2 2 (.att (.v 0) 2) sl_kept_attrs_0) (.cons (.ret (.ite (.cmp .Gt (.call .len (.cons (.v 1) .nil)) (.int 0)) (.v 1) .none)) .nil))))
theorem ck_kept_attrs : ∀ P, fnChk (KK P) true 398 sg_kept_attrs sm_kept_attrs 1 = true := by intro P; kernel_rfl
theorem bd_kept_attrs {v0 : Value} : ∀ P S, peek (KK P) S (bindArgs (fdAt (KK P) 398) ⟨[v0], []⟩) = some ((sg_kept_attrs.take 1).zip [v0]) := by intro P S; kernel_rfl

noncomputable def sg_pick_items : List Str := [Str.ofString "column", Str.ofString "places", Str.ofString "items", Str.ofString "count", Str.ofString "place"]
noncomputable def sl_pick_items_0 : Ss := (.cons (.ite (.or (.cons (.cmp .Is (.v 4) .none) (.cons (.cmp .GtE (.v 4) (.v 3)) .nil))) (.cons .bad .nil) (.cons (.ex (.app (.v 2) (.idx (.att (.v 0) 1) (.v 4)))) .nil)) .nil)
noncomputable def sm_pick_items : Ss :=
  (.cons (.set 2 (.lst .nil)) (.cons (.set 3 (.call .len (.cons (.att (.v 0) 1) .nil))) (.cons (.for_ 0 4 (.v 1) sl_pick_items_0) (.cons (.ret (.call .vec (.cons (.att (.v 0) 0) (.cons (.v 2) (.cons (.call (.own 398) (.cons (.v 0) .nil)) .nil))))) .nil))))
theorem ck_pick_items : ∀ P, fnChk (KK P) true 412 sg_pick_items sm_pick_items 2 = true := by intro P; kernel_rfl
theorem bd_pick_items {v0 v1 : Value} : ∀ P S, peek (KK P) S (bindArgs (fdAt (KK P) 412) ⟨[v0, v1], []⟩) = some ((sg_pick_items.take 2).zip [v0, v1]) := by intro P S; kernel_rfl

noncomputable def sg_recycled_columns : List Str := [Str.ofString "columns", Str.ofString "rows", Str.ofString "made", Str.ofString "column", Str.ofString "count", Str.ofString "place"]
noncomputable def sb_recycled_columns_0 : E := (.bin .Mod (.v 5) (.v 4))
noncomputable def sl_recycled_columns_1 : Ss := (.cons (.set 4 (.call .len (.cons (.att (.v 3) 1) .nil))) (.cons (.ite (.cmp .Eq (.v 4) (.v 1)) (.cons (.ex (.app (.v 2) (.call .vec (.cons (.att (.v 3) 0) (.cons (.att (.v 3) 1) (.cons (.call (.own 398) (.cons (.v 3) .nil)) .nil)))))) .nil) (.cons (.ite (.or (.cons (.cmp .Eq (.v 4) (.int 0)) (.cons (.cmp .NotEq (.bin .Mod (.v 1) (.v 4)) (.int 0)) .nil))) (.cons .bad .nil) (.cons (.ex (.app (.v 2) (.call (.own 412) (.cons (.v 3) (.cons (.comp 1 5 (.call .range (.cons (.v 1) .nil)) sb_recycled_columns_0) .nil))))) .nil)) .nil)) .nil))
noncomputable def sm_recycled_columns : Ss :=
  (.cons (.set 2 (.lst .nil)) (.cons (.for_ 0 3 (.v 0) sl_recycled_columns_1) (.cons (.ret (.v 2)) .nil)))
theorem ck_recycled_columns : ∀ P, fnChk (KK P) true 424 sg_recycled_columns sm_recycled_columns 2 = true := by intro P; kernel_rfl
theorem bd_recycled_columns {v0 v1 : Value} : ∀ P S, peek (KK P) S (bindArgs (fdAt (KK P) 424) ⟨[v0, v1], []⟩) = some ((sg_recycled_columns.take 2).zip [v0, v1]) := by intro P S; kernel_rfl

noncomputable def sg_names_as_rows : List Str := [Str.ofString "columns", Str.ofString "rows", Str.ofString "column", Str.ofString "names", Str.ofString "distinct", Str.ofString "name"]
noncomputable def sl_names_as_rows_0 : Ss := (.cons (.sidx (.v 4) (.v 5) (.bool true)) .nil)
noncomputable def sl_names_as_rows_1 : Ss := (.cons (.set 3 (.call (.own 248) (.cons (.v 2) .nil))) (.cons (.ite (.and (.cons (.cmp .IsNot (.v 3) .none) (.cons (.cmp .Eq (.call .len (.cons (.v 3) .nil)) (.v 1)) (.cons (.cmp .Gt (.v 1) (.int 0)) .nil)))) (.cons (.set 4 (.dct0 true)) (.cons (.for_ 0 5 (.v 3) sl_names_as_rows_0) (.cons (.ite (.and (.cons (.cmp .Eq (.call .len (.cons (.v 4) .nil)) (.v 1)) (.cons (.cmp .NotIn (.str "") (.v 4)) (.cons (.cmp .NotIn .none (.v 4)) .nil)))) (.cons (.ret (.v 3)) .nil) .nil) .nil))) .nil) .nil))
noncomputable def sm_names_as_rows : Ss :=
  (.cons (.for_ 0 2 (.v 0) sl_names_as_rows_1) (.cons (.ret .none) .nil))
theorem ck_names_as_rows : ∀ P, fnChk (KK P) true 431 sg_names_as_rows sm_names_as_rows 2 = true := by intro P; kernel_rfl
theorem bd_names_as_rows {v0 v1 : Value} : ∀ P S, peek (KK P) S (bindArgs (fdAt (KK P) 431) ⟨[v0, v1], []⟩) = some ((sg_names_as_rows.take 2).zip [v0, v1]) := by intro P S; kernel_rfl

noncomputable def sg_make_frame : List Str := [Str.ofString "columns", Str.ofString "names", Str.ofString "row_labels", Str.ofString "rows", Str.ofString "column", Str.ofString "made", Str.ofString "found"]
noncomputable def sl_make_frame_0 : Ss := (.cons (.set 3 (.call .max (.cons (.v 3) (.cons (.call .len (.cons (.att (.v 4) 1) .nil)) .nil)))) .nil)
noncomputable def sm_make_frame : Ss :=
  (.cons (.set 3 (.int 0)) (.cons (.for_ 0 4 (.v 0) sl_make_frame_0) (.cons (.ite (.and (.cons (.cmp .IsNot (.v 2) .none) (.cons (.cmp .Eq (.call .len (.cons (.v 0) .nil)) (.int 0)) .nil))) (.cons (.set 3 (.call .len (.cons (.att (.v 2) 1) .nil))) .nil) .nil) (.cons (.set 5 (.call (.own 424) (.cons (.v 0) (.cons (.v 3) .nil)))) (.cons (.ite (.cmp .Is (.v 2) .none) (.cons (.set 6 (.call (.own 431) (.cons (.v 0) (.cons (.v 3) .nil)))) (.cons (.set 2 (.ite (.cmp .Is (.v 6) .none) (.call (.own 372) (.cons (.v 3) .nil)) (.call (.own 196) (.cons (.v 6) .nil)))) .nil)) .nil) (.cons (.ex (.call (.own 445) (.cons (.v 2) (.cons (.v 3) .nil)))) (.cons (.ret (.call (.own 365) (.cons (.v 5) (.cons (.v 1) (.cons (.v 2) .nil))))) .nil)))))))
theorem ck_make_frame : ∀ P, fnChk (KK P) true 438 sg_make_frame sm_make_frame 3 = true := by intro P; kernel_rfl
theorem bd_make_frame {v0 v1 v2 : Value} : ∀ P S, peek (KK P) S (bindArgs (fdAt (KK P) 438) ⟨[v0, v1, v2], []⟩) = some ((sg_make_frame.take 3).zip [v0, v1, v2]) := by intro P S; kernel_rfl

noncomputable def sg_check_row_labels : List Str := [Str.ofString "labels", Str.ofString "rows", Str.ofString "seen", Str.ofString "item"]
noncomputable def sl_check_row_labels_0 : Ss := (.cons (.ite (.cmp .Is (.v 3) .none) (.cons .bad .nil) .nil) (.cons (.ite (.cmp .In (.v 3) (.v 2)) (.cons .bad .nil) .nil) (.cons (.sidx (.v 2) (.v 3) (.bool true)) .nil)))
noncomputable def sm_check_row_labels : Ss :=
  (.cons (.ite (.cmp .NotEq (.call .len (.cons (.att (.v 0) 1) .nil)) (.v 1)) (.cons .bad .nil) .nil) (.cons (.set 2 (.dct0 false)) (.cons (.for_ 0 3 (.att (.v 0) 1) sl_check_row_labels_0) .nil)))
theorem ck_check_row_labels : ∀ P, fnChk (KK P) true 445 sg_check_row_labels sm_check_row_labels 2 = true := by intro P; kernel_rfl
theorem bd_check_row_labels {v0 v1 : Value} : ∀ P S, peek (KK P) S (bindArgs (fdAt (KK P) 445) ⟨[v0, v1], []⟩) = some ((sg_check_row_labels.take 2).zip [v0, v1]) := by intro P S; kernel_rfl

noncomputable def sg_picked_labels : List Str := [Str.ofString "df", Str.ofString "places", Str.ofString "labels", Str.ofString "count", Str.ofString "seen", Str.ofString "lacks", Str.ofString "place", Str.ofString "texts", Str.ofString "found"]
noncomputable def sl_picked_labels_0 : Ss := (.cons (.ex (.app (.v 8) (.ite (.or (.cons (.cmp .Is (.v 6) .none) (.cons (.cmp .GtE (.v 6) (.v 3)) .nil))) (.str "NA") (.idx (.v 7) (.v 6))))) .nil)
noncomputable def sb_picked_labels_1 : E := (.idx (.att (.v 2) 1) (.v 6))
noncomputable def sl_picked_labels_2 : Ss := (.cons (.ite (.or (.cons (.cmp .Is (.v 6) .none) (.cons (.cmp .GtE (.v 6) (.v 3)) (.cons (.cmp .In (.v 6) (.v 4)) .nil)))) (.cons (.set 5 (.bool true)) .nil) .nil) (.cons (.sidx (.v 4) (.v 6) (.bool true)) .nil))
noncomputable def sm_picked_labels : Ss :=
  (.cons (.set 2 (.idx (.att (.v 0) 2) (.str "row.names"))) (.cons (.set 3 (.call .len (.cons (.att (.v 2) 1) .nil))) (.cons (.set 4 (.dct0 false)) (.cons (.set 5 (.bool false)) (.cons (.for_ 0 6 (.v 1) sl_picked_labels_2) (.cons (.ite (.nt (.e (.v 5))) (.cons (.ret (.call .vec (.cons (.att (.v 2) 0) (.cons (.comp 0 6 (.v 1) sb_picked_labels_1) .nil)))) .nil) .nil) (.cons (.set 7 (.call (.own 391) (.cons (.v 0) .nil))) (.cons (.set 8 (.lst .nil)) (.cons (.for_ 0 6 (.v 1) sl_picked_labels_0) (.cons (.ret (.call (.own 196) (.cons (.call (.own 353) (.cons (.v 8) (.cons (.str ".") .nil))) .nil))) .nil))))))))))
theorem ck_picked_labels : ∀ P, fnChk (KK P) true 450 sg_picked_labels sm_picked_labels 2 = true := by intro P; kernel_rfl
theorem bd_picked_labels {v0 v1 : Value} : ∀ P S, peek (KK P) S (bindArgs (fdAt (KK P) 450) ⟨[v0, v1], []⟩) = some ((sg_picked_labels.take 2).zip [v0, v1]) := by intro P S; kernel_rfl

noncomputable def sg_pick_rows : List Str := [Str.ofString "df", Str.ofString "places", Str.ofString "columns", Str.ofString "column"]
noncomputable def sb_pick_rows_0 : E := (.call (.own 412) (.cons (.v 3) (.cons (.v 1) .nil)))
noncomputable def sm_pick_rows : Ss :=
  (.cons (.set 2 (.comp 0 3 (.att (.v 0) 1) sb_pick_rows_0)) (.cons (.ret (.call (.own 365) (.cons (.v 2) (.cons (.call (.own 384) (.cons (.v 0) .nil)) (.cons (.call (.own 450) (.cons (.v 0) (.cons (.v 1) .nil))) .nil))))) .nil))
theorem ck_pick_rows : ∀ P, fnChk (KK P) true 455 sg_pick_rows sm_pick_rows 2 = true := by intro P; kernel_rfl
theorem bd_pick_rows {v0 v1 : Value} : ∀ P S, peek (KK P) S (bindArgs (fdAt (KK P) 455) ⟨[v0, v1], []⟩) = some ((sg_pick_rows.take 2).zip [v0, v1]) := by intro P S; kernel_rfl

noncomputable def sg_is_absent : List Str := [Str.ofString "ix"]
noncomputable def sm_is_absent : Ss :=
  (.cons (.ret (.or2 (.cmp .Is (.v 0) .none) (.cmp .Eq (.att (.v 0) 0) (.str "missing")))) .nil)
theorem ck_is_absent : ∀ P, fnChk (KK P) true 462 sg_is_absent sm_is_absent 1 = true := by intro P; kernel_rfl
theorem bd_is_absent {v0 : Value} : ∀ P S, peek (KK P) S (bindArgs (fdAt (KK P) 462) ⟨[v0], []⟩) = some ((sg_is_absent.take 1).zip [v0]) := by intro P S; kernel_rfl

noncomputable def sg_row_places : List Str := [Str.ofString "df", Str.ofString "ix", Str.ofString "count"]
noncomputable def sm_row_places : Ss :=
  (.cons (.set 2 (.call (.own 379) (.cons (.v 0) .nil))) (.cons (.ite (.e (.call (.own 462) (.cons (.v 1) .nil))) (.cons (.ret (.call .list (.cons (.call .range (.cons (.v 2) .nil)) .nil))) .nil) .nil) (.cons (.ret (.idx (.call (.own 346) (.cons (.v 1) (.cons (.v 2) (.cons (.call (.own 391) (.cons (.v 0) .nil)) (.cons (.bool false) .nil))))) (.int 0))) .nil)))
theorem ck_row_places : ∀ P, fnChk (KK P) true 469 sg_row_places sm_row_places 2 = true := by intro P; kernel_rfl
theorem bd_row_places {v0 v1 : Value} : ∀ P S, peek (KK P) S (bindArgs (fdAt (KK P) 469) ⟨[v0, v1], []⟩) = some ((sg_row_places.take 2).zip [v0, v1]) := by intro P S; kernel_rfl

noncomputable def sg_column_places : List Str := [Str.ofString "df", Str.ofString "ix", Str.ofString "count", Str.ofString "places", Str.ofString "place"]
noncomputable def sl_column_places_0 : Ss := (.cons (.ite (.or (.cons (.cmp .Is (.v 4) .none) (.cons (.cmp .GtE (.v 4) (.v 2)) .nil))) (.cons .bad .nil) .nil) .nil)
noncomputable def sm_column_places : Ss :=
  (.cons (.set 2 (.call .len (.cons (.att (.v 0) 1) .nil))) (.cons (.ite (.e (.call (.own 462) (.cons (.v 1) .nil))) (.cons (.ret (.call .list (.cons (.call .range (.cons (.v 2) .nil)) .nil))) .nil) .nil) (.cons (.set 3 (.idx (.call (.own 346) (.cons (.v 1) (.cons (.v 2) (.cons (.call (.own 384) (.cons (.v 0) .nil)) (.cons (.bool false) .nil))))) (.int 0))) (.cons (.for_ 0 4 (.v 3) sl_column_places_0) (.cons (.ret (.v 3)) .nil)))))
theorem ck_column_places : ∀ P, fnChk (KK P) true 476 sg_column_places sm_column_places 2 = true := by intro P; kernel_rfl
theorem bd_column_places {v0 v1 : Value} : ∀ P S, peek (KK P) S (bindArgs (fdAt (KK P) 476) ⟨[v0, v1], []⟩) = some ((sg_column_places.take 2).zip [v0, v1]) := by intro P S; kernel_rfl

noncomputable def sg_select_columns : List Str := [Str.ofString "df", Str.ofString "ix", Str.ofString "places", Str.ofString "names", Str.ofString "picked", Str.ofString "place"]
noncomputable def sb_select_columns_0 : E := (.idx (.att (.v 0) 1) (.v 5))
noncomputable def sb_select_columns_1 : E := (.idx (.v 3) (.v 5))
noncomputable def sm_select_columns : Ss :=
  (.cons (.set 2 (.call (.own 476) (.cons (.v 0) (.cons (.v 1) .nil)))) (.cons (.set 3 (.call (.own 384) (.cons (.v 0) .nil))) (.cons (.set 4 (.call (.own 353) (.cons (.comp 0 5 (.v 2) sb_select_columns_1) (.cons (.str ".") .nil)))) (.cons (.ret (.call (.own 365) (.cons (.comp 0 5 (.v 2) sb_select_columns_0) (.cons (.v 4) (.cons (.idx (.att (.v 0) 2) (.str "row.names")) .nil))))) .nil))))
theorem ck_select_columns : ∀ P, fnChk (KK P) true 481 sg_select_columns sm_select_columns 2 = true := by intro P; kernel_rfl
theorem bd_select_columns {v0 v1 : Value} : ∀ P S, peek (KK P) S (bindArgs (fdAt (KK P) 481) ⟨[v0, v1], []⟩) = some ((sg_select_columns.take 2).zip [v0, v1]) := by intro P S; kernel_rfl

noncomputable def sg_subset_frame : List Str := [Str.ofString "df", Str.ofString "i", Str.ofString "j", Str.ofString "drop", Str.ofString "chosen", Str.ofString "places", Str.ofString "made"]
noncomputable def sm_subset_frame : Ss :=
  (.cons (.set 4 (.call (.own 481) (.cons (.v 0) (.cons (.v 2) .nil)))) (.cons (.ite (.nt (.e (.call (.own 462) (.cons (.v 1) .nil)))) (.cons (.set 5 (.call (.own 469) (.cons (.v 0) (.cons (.v 1) .nil)))) (.cons (.ite (.and (.cons (.cmp .Eq (.call .len (.cons (.att (.v 4) 1) .nil)) (.int 1)) (.cons (.or (.cons (.cmp .Is (.v 3) .none) (.cons (.e (.v 3)) .nil))) .nil))) (.cons (.ret (.call (.own 412) (.cons (.idx (.att (.v 4) 1) (.int 0)) (.cons (.v 5) .nil)))) .nil) .nil) (.cons (.set 4 (.call (.own 455) (.cons (.v 4) (.cons (.v 5) .nil)))) .nil))) .nil) (.cons (.ite (.and (.cons (.cmp .Eq (.call .len (.cons (.att (.v 4) 1) .nil)) (.int 1)) (.cons (.or (.cons (.e (.v 3)) (.cons (.and (.cons (.cmp .Is (.v 3) .none) (.cons (.nt (.e (.call (.own 462) (.cons (.v 2) .nil)))) .nil))) .nil))) .nil))) (.cons (.ret (.idx (.att (.v 4) 1) (.int 0))) .nil) .nil) (.cons (.ite (.and (.cons (.e (.v 3)) (.cons (.cmp .Eq (.call (.own 379) (.cons (.v 4) .nil)) (.int 1)) .nil))) (.cons (.set 6 (.call .vec (.cons (.str "list") (.cons (.call .list (.cons (.att (.v 4) 1) .nil)) .nil)))) (.cons (.satt (.v 6) 2 (.dct ["names"] (.cons (.call (.own 196) (.cons (.call (.own 384) (.cons (.v 4) .nil)) .nil)) .nil))) (.cons (.ret (.v 6)) .nil))) .nil) (.cons (.ret (.v 4)) .nil)))))
theorem ck_subset_frame : ∀ P, fnChk (KK P) true 488 sg_subset_frame sm_subset_frame 4 = true := by intro P; kernel_rfl
theorem bd_subset_frame {v0 v1 v2 v3 : Value} : ∀ P S, peek (KK P) S (bindArgs (fdAt (KK P) 488) ⟨[v0, v1, v2, v3], []⟩) = some ((sg_subset_frame.take 4).zip [v0, v1, v2, v3]) := by intro P S; kernel_rfl

noncomputable def sg_head_places : List Str := [Str.ofString "count", Str.ofString "wanted"]
noncomputable def sm_head_places : Ss :=
  (.cons (.ite (.cmp .Lt (.v 1) (.int 0)) (.cons (.ret (.call .list (.cons (.call .range (.cons (.call .max (.cons (.bin .Add (.v 0) (.v 1)) (.cons (.int 0) .nil))) .nil)) .nil))) .nil) .nil) (.cons (.ret (.call .list (.cons (.call .range (.cons (.call .min (.cons (.v 0) (.cons (.v 1) .nil))) .nil)) .nil))) .nil))
theorem ck_head_places : ∀ P, fnChk (KK P) true 495 sg_head_places sm_head_places 2 = true := by intro P; kernel_rfl
theorem bd_head_places {v0 v1 : Value} : ∀ P S, peek (KK P) S (bindArgs (fdAt (KK P) 495) ⟨[v0, v1], []⟩) = some ((sg_head_places.take 2).zip [v0, v1]) := by intro P S; kernel_rfl

noncomputable def sg_head_frame : List Str := [Str.ofString "df", Str.ofString "wanted"]
noncomputable def sm_head_frame : Ss :=
  (.cons (.ret (.call (.own 455) (.cons (.v 0) (.cons (.call (.own 495) (.cons (.call (.own 379) (.cons (.v 0) .nil)) (.cons (.v 1) .nil))) .nil)))) .nil)
theorem ck_head_frame : ∀ P, fnChk (KK P) true 502 sg_head_frame sm_head_frame 2 = true := by intro P; kernel_rfl
theorem bd_head_frame {v0 v1 : Value} : ∀ P S, peek (KK P) S (bindArgs (fdAt (KK P) 502) ⟨[v0, v1], []⟩) = some ((sg_head_frame.take 2).zip [v0, v1]) := by intro P S; kernel_rfl

noncomputable def sg_tail_frame : List Str := [Str.ofString "df", Str.ofString "wanted", Str.ofString "count", Str.ofString "left"]
noncomputable def sm_tail_frame : Ss :=
  (.cons (.set 2 (.call (.own 379) (.cons (.v 0) .nil))) (.cons (.set 3 (.ite (.cmp .Lt (.v 1) (.int 0)) (.call .min (.cons (.v 2) (.cons (.neg (.v 1)) .nil))) (.call .max (.cons (.bin .Sub (.v 2) (.v 1)) (.cons (.int 0) .nil))))) (.cons (.ret (.call (.own 455) (.cons (.v 0) (.cons (.call .list (.cons (.call .range (.cons (.v 3) (.cons (.v 2) .nil))) .nil)) .nil)))) .nil)))
theorem ck_tail_frame : ∀ P, fnChk (KK P) true 509 sg_tail_frame sm_tail_frame 2 = true := by intro P; kernel_rfl
theorem bd_tail_frame {v0 v1 : Value} : ∀ P S, peek (KK P) S (bindArgs (fdAt (KK P) 509) ⟨[v0, v1], []⟩) = some ((sg_tail_frame.take 2).zip [v0, v1]) := by intro P S; kernel_rfl

noncomputable def sg_order_frame : List Str := [Str.ofString "df", Str.ofString "places"]
noncomputable def sm_order_frame : Ss :=
  (.cons (.ret (.call (.own 455) (.cons (.v 0) (.cons (.v 1) .nil)))) .nil)
theorem ck_order_frame : ∀ P, fnChk (KK P) true 516 sg_order_frame sm_order_frame 2 = true := by intro P; kernel_rfl
theorem bd_order_frame {v0 v1 : Value} : ∀ P S, peek (KK P) S (bindArgs (fdAt (KK P) 516) ⟨[v0, v1], []⟩) = some ((sg_order_frame.take 2).zip [v0, v1]) := by intro P S; kernel_rfl

noncomputable def sg_law_take : List Str := [Str.ofString "state", Str.ofString "most", Str.ofString "row", Str.ofString "at"]
noncomputable def sm_law_take : Ss :=
  (.cons (.setn [2, 3] (.v 0)) (.cons (.sidx (.v 0) (.int 1) (.bin .Add (.v 3) (.int 1))) (.cons (.ite (.cmp .Eq (.v 2) (.lst .nil)) (.cons (.ret (.int 0)) .nil) .nil) (.cons (.ret (.bin .Mod (.bin .FloorDiv (.call .abs (.cons (.idx (.v 2) (.bin .Mod (.v 3) (.call .len (.cons (.v 2) .nil)))) .nil)) (.bin .Pow (.int 7) (.bin .FloorDiv (.v 3) (.call .len (.cons (.v 2) .nil))))) (.v 1))) .nil))))
theorem ck_law_take : ∀ P, fnChk (KK P) true 523 sg_law_take sm_law_take 2 = true := by intro P; kernel_rfl
theorem bd_law_take {v0 v1 : Value} : ∀ P S, peek (KK P) S (bindArgs (fdAt (KK P) 523) ⟨[v0, v1], []⟩) = some ((sg_law_take.take 2).zip [v0, v1]) := by intro P S; kernel_rfl

noncomputable def sg_law_column : List Str := [Str.ofString "state", Str.ofString "rows", Str.ofString "kind", Str.ofString "items", Str.ofString "step", Str.ofString "figure"]
noncomputable def sl_law_column_0 : Ss := (.cons (.set 5 (.call (.own 523) (.cons (.v 0) (.cons (.int 4) .nil)))) (.cons (.ex (.app (.v 3) (.ite (.cmp .Eq (.v 5) (.int 3)) .none (.bin .Add (.v 5) (.int 1))))) .nil))
noncomputable def sb_law_column_1 : E := (.sidx "abc" (.call (.own 523) (.cons (.v 0) (.cons (.int 3) .nil))))
noncomputable def sm_law_column : Ss :=
  (.cons (.set 2 (.call (.own 523) (.cons (.v 0) (.cons (.int 3) .nil)))) (.cons (.ite (.cmp .Eq (.v 2) (.int 1)) (.cons (.ret (.call (.own 196) (.cons (.comp 1 4 (.call .range (.cons (.v 1) .nil)) sb_law_column_1) .nil))) .nil) .nil) (.cons (.set 3 (.lst .nil)) (.cons (.for_ 1 4 (.call .range (.cons (.v 1) .nil)) sl_law_column_0) (.cons (.ite (.cmp .Eq (.v 2) (.int 0)) (.cons (.ret (.call (.own 189) (.cons (.v 3) .nil))) .nil) .nil) (.cons (.ret (.call .vec (.cons (.str "integer") (.cons (.v 3) (.cons (.dct ["levels", "class"] (.cons (.call (.own 196) (.cons (.lst (.cons (.str "u") (.cons (.str "v") (.cons (.str "w") .nil)))) .nil)) (.cons (.call (.own 196) (.cons (.lst (.cons (.str "factor") .nil)) .nil)) .nil))) .nil))))) .nil))))))
theorem ck_law_column : ∀ P, fnChk (KK P) true 528 sg_law_column sm_law_column 2 = true := by intro P; kernel_rfl
theorem bd_law_column {v0 v1 : Value} : ∀ P S, peek (KK P) S (bindArgs (fdAt (KK P) 528) ⟨[v0, v1], []⟩) = some ((sg_law_column.take 2).zip [v0, v1]) := by intro P S; kernel_rfl

noncomputable def sg_law_told : List Str := [Str.ofString "column", Str.ofString "levels"]
noncomputable def sm_law_told : Ss :=
  (.cons (.set 1 .none) (.cons (.ite (.cmp .IsNot (.att (.v 0) 2) .none) (.cons (.set 1 (.lst (.cons (.att (.idx (.att (.v 0) 2) (.str "levels")) 1) (.cons (.att (.idx (.att (.v 0) 2) (.str "class")) 1) .nil)))) .nil) .nil) (.cons (.ret (.lst (.cons (.att (.v 0) 0) (.cons (.att (.v 0) 1) (.cons (.v 1) .nil))))) .nil)))
theorem ck_law_told : ∀ P, fnChk (KK P) true 535 sg_law_told sm_law_told 1 = true := by intro P; kernel_rfl
theorem bd_law_told {v0 : Value} : ∀ P S, peek (KK P) S (bindArgs (fdAt (KK P) 535) ⟨[v0], []⟩) = some ((sg_law_told.take 1).zip [v0]) := by intro P S; kernel_rfl

noncomputable def sg_law_labels : List Str := [Str.ofString "rows", Str.ofString "said", Str.ofString "figure", Str.ofString "name", Str.ofString "more"]
noncomputable def st_law_labels_0 : T := (.cmp .In (.v 3) (.v 1))
noncomputable def sl_law_labels_0 : Ss := (.cons (.set 4 (.bin .Add (.v 4) (.int 1))) (.cons (.set 3 (.bin .Add (.bin .Add (.call .str (.cons (.v 2) .nil)) (.str ".")) (.call .str (.cons (.v 4) .nil)))) .nil))
noncomputable def sl_law_labels_1 : Ss := (.cons (.set 3 (.call .str (.cons (.v 2) .nil))) (.cons (.set 4 (.int 0)) (.cons (.while_ st_law_labels_0 sl_law_labels_0) (.cons (.ex (.app (.v 1) (.v 3))) .nil))))
noncomputable def sm_law_labels : Ss :=
  (.cons (.set 1 (.lst .nil)) (.cons (.for_ 0 2 (.v 0) sl_law_labels_1) (.cons (.ret (.v 1)) .nil)))
theorem ck_law_labels : ∀ P, fnChk (KK P) true 542 sg_law_labels sm_law_labels 1 = true := by intro P; kernel_rfl
theorem bd_law_labels {v0 : Value} : ∀ P S, peek (KK P) S (bindArgs (fdAt (KK P) 542) ⟨[v0], []⟩) = some ((sg_law_labels.take 1).zip [v0]) := by intro P S; kernel_rfl

noncomputable def sg_law : List Str := [Str.ofString "script", Str.ofString "state", Str.ofString "rows", Str.ofString "count", Str.ofString "columns", Str.ofString "names", Str.ofString "df", Str.ofString "before", Str.ofString "places_of", Str.ofString "wanted", Str.ofString "step", Str.ofString "by_row", Str.ofString "by_column", Str.ofString "first", Str.ofString "second", Str.ofString "third", Str.ofString "made", Str.ofString "left", Str.ofString "order_by_hand", Str.ofString "back", Str.ofString "given_back", Str.ofString "most", Str.ofString "top", Str.ofString "rest", Str.ofString "at", Str.ofString "figure", Str.ofString "column", Str.ofString "kind", Str.ofString "items", Str.ofString "levels"]
noncomputable def sb_law_0 : E := (.call (.own 528) (.cons (.v 1) (.cons (.v 2) .nil)))
noncomputable def sb_law_1 : E := (.call (.own 535) (.cons (.v 26) .nil))
noncomputable def sb_law_2 : E := (.bin .Add (.int 1) (.call (.own 523) (.cons (.v 1) (.cons (.v 2) .nil))))
noncomputable def sl_law_3 : Ss := (.cons (.set 25 (.bin .Add (.int 1) (.call (.own 523) (.cons (.v 1) (.cons (.v 3) .nil))))) (.cons (.ite (.cmp .NotIn (.v 25) (.v 9)) (.cons (.ex (.app (.v 9) (.v 25))) .nil) .nil) .nil))
noncomputable def sb_law_4 : E := (.idx (.v 28) (.bin .Sub (.v 25) (.int 1)))
noncomputable def sl_law_5 : Ss := (.cons (.setn [27, 28, 29] (.idx (.v 7) (.bin .Sub (.idx (.v 9) (.v 24)) (.int 1)))) (.cons (.ite (.cmp .NotEq (.call (.own 535) (.cons (.idx (.att (.v 16) 1) (.v 24)) .nil)) (.lst (.cons (.v 27) (.cons (.comp 0 25 (.v 8) sb_law_4) (.cons (.v 29) .nil))))) (.cons (.ret (.bool false)) .nil) .nil) .nil))
noncomputable def sb_law_6 : E := (.idx (.v 5) (.bin .Sub (.v 25) (.int 1)))
noncomputable def sl_law_7 : Ss := (.cons (.ite (.or (.cons (.nt (.e (.call (.own 360) (.cons (.v 16) .nil)))) (.cons (.cmp .NotEq (.call (.own 379) (.cons (.v 16) .nil)) (.call .len (.cons (.v 8) .nil))) .nil))) (.cons (.ret (.bool false)) .nil) .nil) (.cons (.ite (.cmp .NotEq (.att (.idx (.att (.v 16) 2) (.str "names")) 1) (.comp 0 25 (.v 9) sb_law_6)) (.cons (.ret (.bool false)) .nil) .nil) (.cons (.ite (.cmp .NotEq (.call (.own 391) (.cons (.v 16) .nil)) (.call (.own 542) (.cons (.v 8) .nil))) (.cons (.ret (.bool false)) .nil) .nil) (.cons (.for_ 1 24 (.call .range (.cons (.call .len (.cons (.v 9) .nil)) .nil)) sl_law_5) .nil))))
noncomputable def st_law_8 : T := (.cmp .NotEq (.v 17) (.lst .nil))
noncomputable def sl_law_8 : Ss := (.cons (.ex (.app (.v 18) (.pop (.v 17) (.call (.own 523) (.cons (.v 1) (.cons (.call .len (.cons (.v 17) .nil)) .nil)))))) .nil)
noncomputable def sb_law_9 : E := (.ndx (.v 18) (.v 24))
noncomputable def sb_law_10 : E := (.call .str (.cons (.bin .Add (.int 1) (.v 24)) .nil))
noncomputable def sb_law_11 : E := (.call (.own 535) (.cons (.v 26) .nil))
noncomputable def sl_law_12 : Ss := (.cons (.ite (.cmp .NotEq (.bin .Add (.att (.idx (.att (.v 22) 1) (.v 24)) 1) (.att (.idx (.att (.v 23) 1) (.v 24)) 1)) (.idx (.idx (.v 7) (.v 24)) (.int 1))) (.cons (.ret (.bool false)) .nil) .nil) .nil)
noncomputable def sb_law_13 : E := (.call .str (.cons (.bin .Add (.int 1) (.v 24)) .nil))
noncomputable def sb_law_14 : E := (.call (.own 535) (.cons (.v 26) .nil))
noncomputable def sq_law_27 : Ss := .cons (.ret (.cmp .Eq (.comp 0 26 (.att (.v 6) 1) sb_law_14) (.v 7))) .nil
noncomputable def sq_law_26 : Ss := .cons (.ite (.cmp .NotEq (.bin .Add (.call (.own 391) (.cons (.v 22) .nil)) (.call (.own 391) (.cons (.v 23) .nil))) (.comp 1 24 (.call .range (.cons (.v 2) .nil)) sb_law_13)) (.cons (.ret (.bool false)) .nil) .nil) sq_law_27
noncomputable def sq_law_25 : Ss := .cons (.for_ 1 24 (.call .range (.cons (.v 3) .nil)) sl_law_12) sq_law_26
noncomputable def sq_law_24 : Ss := .cons (.set 23 (.call (.own 509) (.cons (.v 6) (.cons (.bin .Sub (.v 2) (.v 21)) .nil)))) sq_law_25
noncomputable def sq_law_23 : Ss := .cons (.set 22 (.call (.own 502) (.cons (.v 6) (.cons (.v 21) .nil)))) sq_law_24
noncomputable def sq_law_22 : Ss := .cons (.set 21 (.call (.own 523) (.cons (.v 1) (.cons (.bin .Add (.v 2) (.int 1)) .nil)))) sq_law_23
noncomputable def sq_law_21 : Ss := .cons (.ite (.or (.cons (.cmp .NotEq (.comp 0 26 (.att (.v 20) 1) sb_law_11) (.v 7)) (.cons (.cmp .NotEq (.call (.own 391) (.cons (.v 20) .nil)) (.comp 1 24 (.call .range (.cons (.v 2) .nil)) sb_law_10)) .nil))) (.cons (.ret (.bool false)) .nil) .nil) sq_law_22
noncomputable def sq_law_20 : Ss := .cons (.set 20 (.call (.own 516) (.cons (.call (.own 516) (.cons (.v 6) (.cons (.v 18) .nil))) (.cons (.v 19) .nil)))) sq_law_21
noncomputable def sq_law_19 : Ss := .cons (.set 19 (.comp 1 24 (.call .range (.cons (.v 2) .nil)) sb_law_9)) sq_law_20
noncomputable def sq_law_18 : Ss := .cons (.while_ st_law_8 sl_law_8) sq_law_19
noncomputable def sq_law_17 : Ss := .cons (.set 18 (.lst .nil)) sq_law_18
noncomputable def sq_law_16 : Ss := .cons (.set 17 (.call .list (.cons (.call .range (.cons (.v 2) .nil)) .nil))) sq_law_17
noncomputable def sq_law_15 : Ss := .cons (.for_ 0 16 (.lst (.cons (.v 13) (.cons (.v 14) (.cons (.v 15) .nil)))) sl_law_7) sq_law_16
noncomputable def sq_law_14 : Ss := .cons (.set 15 (.call (.own 488) (.cons (.v 6) (.cons (.v 11) (.cons (.v 12) (.cons (.bool false) .nil)))))) sq_law_15
noncomputable def sq_law_13 : Ss := .cons (.set 14 (.call (.own 488) (.cons (.call (.own 488) (.cons (.v 6) (.cons .none (.cons (.v 12) (.cons (.bool false) .nil))))) (.cons (.v 11) (.cons .none (.cons (.bool false) .nil)))))) sq_law_14
noncomputable def sq_law_12 : Ss := .cons (.set 13 (.call (.own 488) (.cons (.call (.own 488) (.cons (.v 6) (.cons (.v 11) (.cons .none (.cons (.bool false) .nil))))) (.cons .none (.cons (.v 12) (.cons (.bool false) .nil)))))) sq_law_13
noncomputable def sq_law_11 : Ss := .cons (.set 12 (.call (.own 189) (.cons (.v 9) .nil))) sq_law_12
noncomputable def sq_law_10 : Ss := .cons (.set 11 (.call (.own 189) (.cons (.v 8) .nil))) sq_law_11
noncomputable def sq_law_9 : Ss := .cons (.for_ 1 10 (.call .range (.cons (.bin .Add (.int 1) (.call (.own 523) (.cons (.v 1) (.cons (.v 3) .nil)))) .nil)) sl_law_3) sq_law_10
noncomputable def sq_law_8 : Ss := .cons (.set 9 (.lst .nil)) sq_law_9
noncomputable def sq_law_7 : Ss := .cons (.set 8 (.comp 1 10 (.call .range (.cons (.bin .Add (.int 1) (.call (.own 523) (.cons (.v 1) (.cons (.int 5) .nil)))) .nil)) sb_law_2)) sq_law_8
noncomputable def sq_law_6 : Ss := .cons (.set 7 (.comp 0 26 (.v 4) sb_law_1)) sq_law_7
noncomputable def sq_law_5 : Ss := .cons (.set 6 (.call (.own 438) (.cons (.v 4) (.cons (.v 5) (.cons .none .nil))))) sq_law_6
noncomputable def sq_law_4 : Ss := .cons (.set 5 (.slc (.lst (.cons (.str "a") (.cons (.str "b") (.cons (.str "c") .nil)))) (.v 3))) sq_law_5
noncomputable def sq_law_3 : Ss := .cons (.set 4 (.comp 1 10 (.call .range (.cons (.v 3) .nil)) sb_law_0)) sq_law_4
noncomputable def sq_law_2 : Ss := .cons (.set 3 (.bin .Add (.int 1) (.call (.own 523) (.cons (.v 1) (.cons (.int 3) .nil))))) sq_law_3
noncomputable def sq_law_1 : Ss := .cons (.set 2 (.bin .Add (.int 1) (.call (.own 523) (.cons (.v 1) (.cons (.int 4) .nil))))) sq_law_2
noncomputable def sq_law_0 : Ss := .cons (.set 1 (.lst (.cons (.slc (.v 0) (.int 40)) (.cons (.int 0) .nil)))) sq_law_1
noncomputable def sm_law : Ss :=
  sq_law_0
theorem ck_law : ∀ P, fnChk (KK P) true 547 sg_law sm_law 1 = true := by intro P; kernel_rfl
theorem bd_law {v0 : Value} : ∀ P S, peek (KK P) S (bindArgs (fdAt (KK P) 547) ⟨[v0], []⟩) = some ((sg_law.take 1).zip [v0]) := by intro P S; kernel_rfl

end Mine

namespace Mine

theorem DM.le_mut {D D' : DM} {a : Addr} {c : Cel} (h : D a = none) (l : D.le D') : D.le (D'.put a c) := fun b c' e => by
  have : b ≠ a := fun q => by rw [q, h] at e; cases e
  rw [DM.put_ne _ _ this]; exact l b c' e
theorem DM.ne_of {D : DM} {a b : Addr} {c : Cel} (h : D a = none) (e : D b = some c) : b ≠ a := fun q => by rw [q, h] at e; cases e

/-- an object of the class Vector -/
noncomputable def VecAt (D : DM) (x : Addr) (kd it at_ : Value) : Prop := ∃ d u w, D x = some (.ins d) ∧ D d = some (.vdc [kd, it, at_, u, w])
noncomputable def L (D : DM) (l : Addr) (vs : List Value) : Prop := D l = some (.lst vs)
theorem VecAt.le {D D' : DM} {x : Addr} {kd it at_ : Value} (h : VecAt D x kd it at_) (l : D.le D') : VecAt D' x kd it at_ := by
  refine hid fun gg hgg => ?_
  obtain ⟨d, u, w, h1, h2⟩ := h
  refine hgg ?_
  clear hgg gg
  exact ⟨d, u, w, l _ _ h1, l _ _ h2⟩
theorem L.le {D D' : DM} {x : Addr} {vs : List Value} (h : L D x vs) (l : D.le D') : L D' x vs := l _ _ h
theorem L.ls {D : DM} {x : Addr} {vs : List Value} (h : L D x vs) : LsAt D x vs := ⟨_, h, rfl⟩
theorem L.at_ {D : DM} {x : Addr} {vs : List Value} (h : D x = some (.lst vs)) : L D x vs := h

section intro
variable {b : Bx} {n : Nat} {D : DM}

theorem i_att0 {x : Addr} {kd it at_ : Value} {P : Value → Prop} (hv : VecAt D x kd it at_) (h : P kd) : ∃ l d fs v, Value.ref x = .ref l ∧ D l = some (.ins d) ∧ D d = some (.vdc fs) ∧ fs[0]? = some v ∧ P v := by
  refine hid fun gg hgg => ?_
  obtain ⟨d, u, w, h1, h2⟩ := hv
  refine hgg ?_
  clear hgg gg
  exact ⟨x, d, _, kd, rfl, h1, h2, rfl, h⟩
theorem i_att1 {x : Addr} {kd it at_ : Value} {P : Value → Prop} (hv : VecAt D x kd it at_) (h : P it) : ∃ l d fs v, Value.ref x = .ref l ∧ D l = some (.ins d) ∧ D d = some (.vdc fs) ∧ fs[1]? = some v ∧ P v := by
  refine hid fun gg hgg => ?_
  obtain ⟨d, u, w, h1, h2⟩ := hv
  refine hgg ?_
  clear hgg gg
  exact ⟨x, d, _, it, rfl, h1, h2, rfl, h⟩
theorem i_att2 {x : Addr} {kd it at_ : Value} {P : Value → Prop} (hv : VecAt D x kd it at_) (h : P at_) : ∃ l d fs v, Value.ref x = .ref l ∧ D l = some (.ins d) ∧ D d = some (.vdc fs) ∧ fs[2]? = some v ∧ P v := by
  refine hid fun gg hgg => ?_
  obtain ⟨d, u, w, h1, h2⟩ := hv
  refine hgg ?_
  clear hgg gg
  exact ⟨x, d, _, at_, rfl, h1, h2, rfl, h⟩

theorem i_t {A B : Prop} (h : A) : (true = true → A) ∧ (true = false → B) := ⟨fun _ => h, fun e => by cases e⟩
theorem i_f {A B : Prop} (h : B) : (false = true → A) ∧ (false = false → B) := ⟨fun e => (by cases e), fun _ => h⟩
theorem i_b {r : Bool} {A B : Prop} (h : if r then A else B) : (r = true → A) ∧ (r = false → B) := by
  cases r
  · exact i_f h
  · exact i_t h

theorem i_is_none {P : Bool → Prop} (h : P true) : ∃ r, cmpR D .Is .none .none r ∧ P r := ⟨true, ⟨rfl, rfl⟩, h⟩
theorem i_is_ref {a : Addr} {P : Bool → Prop} (h : P false) : ∃ r, cmpR D .Is (.ref a) .none r ∧ P r := ⟨false, ⟨rfl, rfl⟩, h⟩
theorem i_is_int {a : Int} {t : Tok} {P : Bool → Prop} (h : P false) : ∃ r, cmpR D .Is (.int a t) .none r ∧ P r := ⟨false, ⟨rfl, rfl⟩, h⟩
theorem i_is_str {a : Str} {t : Tok} {P : Bool → Prop} (h : P false) : ∃ r, cmpR D .Is (.str a t) .none r ∧ P r := ⟨false, ⟨rfl, rfl⟩, h⟩
theorem i_is_bool {a : Bool} {P : Bool → Prop} (h : P false) : ∃ r, cmpR D .Is (.bool a) .none r ∧ P r := ⟨false, ⟨rfl, rfl⟩, h⟩
theorem i_eqs {x y : Str} {t u : Tok} {P : Bool → Prop} (r : Bool) (h : P r) (e : (x == y) = r := by decide) : ∃ r, cmpR D .Eq (.str x t) (.str y u) r ∧ P r := ⟨r, ⟨0, by decide, by rw [← e]; rfl⟩, h⟩
theorem i_nes {x y : Str} {t u : Tok} {P : Bool → Prop} (r : Bool) (h : P (!r)) (e : (x == y) = r := by decide) : ∃ r, cmpR D .NotEq (.str x t) (.str y u) r ∧ P r := ⟨!r, ⟨0, by decide, by rw [Bool.not_not, ← e]; rfl⟩, h⟩
theorem i_isnot_none {P : Bool → Prop} (h : P false) : ∃ r, cmpR D .IsNot .none .none r ∧ P r := ⟨false, ⟨rfl, rfl⟩, h⟩
theorem i_isnot_ref {a : Addr} {P : Bool → Prop} (h : P true) : ∃ r, cmpR D .IsNot (.ref a) .none r ∧ P r := ⟨true, ⟨rfl, rfl⟩, h⟩
theorem i_eq {x y : Value} {r : Bool} {P : Bool → Prop} (e : aeq x y = some r) (h : P r) : ∃ r, cmpR D .Eq x y r ∧ P r := ⟨r, ⟨0, by decide, e⟩, h⟩
theorem i_ne {x y : Value} {r : Bool} {P : Bool → Prop} (e : aeq x y = some r) (h : P (!r)) : ∃ r, cmpR D .NotEq x y r ∧ P r := ⟨!r, ⟨0, by decide, by rw [Bool.not_not]; exact e⟩, h⟩
theorem i_cmp {op : CmpOp} {x y : Value} {r : Bool} {P : Bool → Prop} (e : cmpR D op x y r) (h : P r) : ∃ r, cmpR D op x y r ∧ P r := ⟨r, e, h⟩
theorem i_lt {x y : Int} {t u : Tok} {P : Bool → Prop} (h : P (decide (x < y))) : ∃ r, cmpR D .Lt (.int x t) (.int y u) r ∧ P r := ⟨_, rfl, h⟩
theorem i_gt {x y : Int} {t u : Tok} {P : Bool → Prop} (h : P (decide (y < x))) : ∃ r, cmpR D .Gt (.int x t) (.int y u) r ∧ P r := ⟨_, rfl, h⟩
theorem i_ge {x y : Int} {t u : Tok} {P : Bool → Prop} (h : P (decide (y ≤ x))) : ∃ r, cmpR D .GtE (.int x t) (.int y u) r ∧ P r := ⟨_, rfl, h⟩
theorem i_new {c : Cel} {P : Value → DM → Prop} (h : ∀ a D', D a = none → D.le D' → D' a = some c → P (.ref a) D') : ∀ a, D a = none → P (.ref a) (D.put a c) := fun a ha => h a _ ha (DM.le_put ha) (DM.put_same ..)
theorem i_call {m : Nat} {f : Addr} {vs : List Value} {Post : Value → DM → Prop} {k : Value → DM → Prop} (c : Calls (GG b) m f vs D fun v D' => D.le D' ∧ Post v D') (h : ∀ v D', D.le D' → Post v D' → k v D') (hm : m ≤ n := by decide) : callR (GG b) n (.own f) vs D k :=
  (c.le hm).mono fun v D' z => h v D' z.1 z.2
theorem i_vec2 {kd it : Value} {k : Value → DM → Prop} (e1 : handedIn kd = true) (e2 : handedIn it = true) (h : ∀ x D', D x = none → D.le D' → VecAt D' x kd it .none → k (.ref x) D') : callR (GG b) n .vec [kd, it] D k :=
  ⟨e1, e2, fun x d hx hd hne => h x _ hx (fun q c e => by
    have h1 : q ≠ x := DM.ne_of hx e
    have h2 : q ≠ d := DM.ne_of hd e
    rw [DM.put_ne _ _ h1, DM.put_ne _ _ h2]; exact e) ⟨d, _, _, DM.put_same .., by rw [DM.put_ne _ _ (Ne.symm hne)]; exact DM.put_same ..⟩⟩
theorem i_vec3 {kd it at_ : Value} {k : Value → DM → Prop} (e1 : handedIn kd = true) (e2 : handedIn it = true) (e3 : handedIn at_ = true) (h : ∀ x D', D x = none → D.le D' → VecAt D' x kd it at_ → k (.ref x) D') : callR (GG b) n .vec [kd, it, at_] D k :=
  ⟨e1, e2, e3, fun x d hx hd hne => h x _ hx (fun q c e => by
    have h1 : q ≠ x := DM.ne_of hx e
    have h2 : q ≠ d := DM.ne_of hd e
    rw [DM.put_ne _ _ h1, DM.put_ne _ _ h2]; exact e) ⟨d, _, _, DM.put_same .., by rw [DM.put_ne _ _ (Ne.symm hne)]; exact DM.put_same ..⟩⟩
theorem i_list {l : Addr} {vs : List Value} {k : Value → DM → Prop} (hl : L D l vs) (hb : vs.length ≤ big) (h : ∀ a D', D a = none → D.le D' → L D' a vs → k (.ref a) D') : callR (GG b) n .list [.ref l] D k :=
  .inl ⟨vs, hl.ls, hb, i_new (c := .lst vs) h⟩
theorem i_len {l : Addr} {vs : List Value} {k : Value → DM → Prop} (hl : L D l vs) (hb : vs.length ≤ big) (h : ∀ t, k (.int vs.length t) D) : callR (GG b) n .len [.ref l] D k := .inl ⟨vs, hl.ls, hb, h⟩
theorem i_isinst {x : Addr} {kd it at_ : Value} {k : Value → DM → Prop} (hv : VecAt D x kd it at_) (h : k (.bool true) D) : callR (GG b) n .isinst [.ref x, .ref 178] D k := by
  refine hid fun gg hgg => ?_
  obtain ⟨d, u, w, h1, h2⟩ := hv
  refine hgg ?_
  clear hgg gg
  exact ⟨rfl, ⟨d, h1⟩, h⟩
end intro

section contracts
variable {b : Bx} {D : DM} {k : Value → DM → Prop}

theorem c_integer {l : Addr} {vs : List Value} (hl : L D l vs) (hb : vs.length ≤ big) :
    Calls (GG b) 31 189 [.ref l] D fun v D' => D.le D' ∧ ∃ x i t, v = .ref x ∧ D x = none ∧ VecAt D' x (.str (Str.ofString "integer") t) (.ref i) .none ∧ L D' i vs := by
  refine enterG (n := 0) (vs := [_]) (V := [some _]) ck_integer factsT bd_integer ?_
  dsimp only [sm_integer, wpSs, wpS, wpE, wpEs, wpT, wpOr, wpAnd, List.getD_cons_zero, List.getD_cons_succ]
  intro t
  refine i_list hl hb fun i D1 hi l1 h1 => i_vec2 rfl rfl fun x D2 hx l2 hv => ?_
  refine ⟨l1.trans l2, x, i, t, rfl, ?_, hv, h1.le l2⟩
  cases e : D x with
  | none => rfl
  | some c => rw [l1 _ _ e] at hx; cases hx
theorem c_character {l : Addr} {vs : List Value} (hl : L D l vs) (hb : vs.length ≤ big) :
    Calls (GG b) 31 196 [.ref l] D fun v D' => D.le D' ∧ ∃ x i t, v = .ref x ∧ D x = none ∧ VecAt D' x (.str (Str.ofString "character") t) (.ref i) .none ∧ L D' i vs := by
  refine enterG (n := 0) (vs := [_]) (V := [some _]) ck_character factsT bd_character ?_
  dsimp only [sm_character, wpSs, wpS, wpE, wpEs, wpT, wpOr, wpAnd, List.getD_cons_zero, List.getD_cons_succ]
  intro t
  refine i_list hl hb fun i D1 hi l1 h1 => i_vec2 rfl rfl fun x D2 hx l2 hv => ?_
  refine ⟨l1.trans l2, x, i, t, rfl, ?_, hv, h1.le l2⟩
  cases e : D x with
  | none => rfl
  | some c => rw [l1 _ _ e] at hx; cases hx
theorem c_is_vector {x : Addr} {kd it at_ : Value} (hv : VecAt D x kd it at_) : Calls (GG b) 31 203 [.ref x] D fun v D' => D.le D' ∧ (v = .bool true ∧ D' = D) := by
  refine enterG (n := 0) (vs := [_]) (V := [some _]) ck_is_vector factsT bd_is_vector ?_
  dsimp only [sm_is_vector, wpSs, wpS, wpE, wpEs, wpT, wpOr, wpAnd, List.getD_cons_zero, List.getD_cons_succ]
  exact i_isinst hv ⟨DM.le.refl _, rfl, rfl⟩
theorem c_share {x : Addr} {kd it at_ : Value} (hv : VecAt D x kd it at_) : Calls (GG b) 31 217 [.ref x] D fun v D' => D.le D' ∧ (v = .ref x ∧ D' = D) := by
  refine enterG (n := 0) (vs := [_]) (V := [some _]) ck_share factsT bd_share ?_
  dsimp only [sm_share, wpSs, wpS, wpE, wpEs, wpT, wpOr, wpAnd, List.getD_cons_zero, List.getD_cons_succ]
  refine i_isinst hv ⟨true, rfl, i_t ?_⟩
  refine hid fun gg hgg => ?_
  obtain ⟨d, u, w, h1, h2⟩ := hv
  refine hgg ?_
  clear hgg gg
  refine ⟨x, d, _, rfl, h1, h2, by simp, rfl, ?_⟩
  have e : D.put d (.vdc (putF [kd, it, at_, u, w] 3 (.bool true))) = D := DM.put_id h2
  rw [e]
  exact ⟨DM.le.refl _, rfl, rfl⟩
theorem c_get_attr0 {x : Addr} {kd it v1 : Value} (hv : VecAt D x kd it .none) : Calls (GG b) 31 224 [.ref x, v1] D fun v D' => D.le D' ∧ (v = .none ∧ D' = D) := by
  refine enterG (n := 0) (vs := [_, _]) (V := [some _, some _]) ck_get_attr factsT bd_get_attr ?_
  dsimp only [sm_get_attr, wpSs, wpS, wpE, wpEs, wpT, wpOr, wpAnd, List.getD_cons_zero, List.getD_cons_succ]
  refine i_att2 hv (i_is_none (i_t ?_))
  exact ⟨DM.le.refl _, rfl, rfl⟩
theorem c_get_attr {x da : Addr} {kd it : Value} {nm : Str} {t : Tok} {kvs : List (Str × Value)} (hv : VecAt D x kd it (.ref da)) (hd : D da = some (.ds kvs)) :
    Calls (GG b) 31 224 [.ref x, .str nm t] D fun v D' => D.le D' ∧ (v = (valueAt kvs nm).getD .none ∧ D' = D) := by
  refine enterG (n := 0) (vs := [_, _]) (V := [some _, some _]) ck_get_attr factsT bd_get_attr ?_
  dsimp only [sm_get_attr, wpSs, wpS, wpE, wpEs, wpT, wpOr, wpAnd, List.getD_cons_zero, List.getD_cons_succ]
  refine i_att2 hv (i_is_ref (i_f (i_att2 hv ?_)))
  exact ⟨da, kvs, rfl, ⟨_, hd, rfl⟩, kvs, nm, t, ⟨_, hd, rfl⟩, rfl, DM.le.refl _, rfl, rfl⟩

noncomputable def kI : Str := Str.ofString "integer"
noncomputable def kC : Str := Str.ofString "character"
noncomputable def kL : Str := Str.ofString "list"

theorem c_label_text_int {t t' : Tok} {i : Int} (hi : i.natAbs < 2 ^ 64) : Calls (GG b) 31 231 [.str kI t, .int i t'] D fun v D' => D.le D' ∧ ((∃ u, v = .str (Str.ofString (toString i)) u) ∧ D' = D) := by
  refine enterG (n := 0) (vs := [_, _]) (V := [some _, some _]) ck_label_text factsT bd_label_text ?_
  dsimp only [sm_label_text, wpSs, wpS, wpE, wpEs, wpT, wpOr, wpAnd, List.getD_cons_zero, List.getD_cons_succ]
  refine i_is_int (i_f fun t1 => i_eqs false (i_f (i_f fun t2 => i_eqs false (i_f fun t3 => i_eqs true (i_t ?_)))))
  exact ⟨hi, fun u => ⟨DM.le.refl _, ⟨u, rfl⟩, rfl⟩⟩
theorem c_label_text_str {t : Tok} {v : Value} {s : Str} {u : Tok} (hv : v = .str s u) : Calls (GG b) 31 231 [.str kC t, v] D fun v' D' => D.le D' ∧ (v' = v ∧ D' = D) := by
  subst hv
  refine enterG (n := 0) (vs := [_, _]) (V := [some _, some _]) ck_label_text factsT bd_label_text ?_
  dsimp only [sm_label_text, wpSs, wpS, wpE, wpEs, wpT, wpOr, wpAnd, List.getD_cons_zero, List.getD_cons_succ]
  refine i_is_str (i_f fun t1 => i_eqs true (i_t (i_t ?_)))
  exact ⟨DM.le.refl _, rfl, rfl⟩
end contracts
end Mine

namespace Mine

section loops
variable {G : Gl} {n : Nat} {D : DM} {V : Vs} {x : Nat}

theorem i_comp0I {elt : E} {l : Addr} {vs : List Value} {W : Value → Vs} {K : List Value → DM → Addr → Prop} (hl : LsAt D l vs) (hb : vs.length ≤ big) (I : Nat → List Value → DM → Prop) (h0 : I 0 [] D) (hs : ∀ i out D', I i out D' → LsAt D' l vs)
    (ht : ∀ i out D' v, vs[i]? = some v → out.length = i → I i out D' → wpE G n elt (W v) D' fun y D'' => I (i + 1) (out ++ [y]) D'')
    (he : ∀ out D' a, I vs.length out D' → out.length = vs.length → D' a = none → K out D' a) :
    srcR D 0 (.ref l) fun m item still start back => 0 < 2 ∧ ∃ I : Nat → List Value → DM → Prop, I 0 [] D ∧ (∀ i out D2, I i out D2 → still D2) ∧
      (∀ i out D2 v, i < m → item i v → out.length = i → I i out D2 → wpE G n elt (W v) D2 fun y D3 => I (i + 1) (out ++ [y]) D3) ∧
      ∀ out D2 a, I m out D2 → out.length = m → D2 a = Option.none → K out D2 a :=
  ⟨l, vs, rfl, hl, hb, by decide, I, h0, hs, fun i out D2 v _ hv ho hI => ht i out D2 v hv ho hI, he⟩

theorem i_comp1I {elt : E} {l : Addr} {lo hi : Int} {W : Value → Vs} {K : List Value → DM → Addr → Prop} (hl : D l = some (.rng lo hi)) (hb : (hi - lo).toNat ≤ big) (I : Nat → List Value → DM → Prop) (h0 : I 0 [] D)
    (ht : ∀ i out D' t, i < (hi - lo).toNat → out.length = i → I i out D' → wpE G n elt (W (.int (lo + i) t)) D' fun y D'' => I (i + 1) (out ++ [y]) D'')
    (he : ∀ out D' a, I (hi - lo).toNat out D' → out.length = (hi - lo).toNat → D' a = none → K out D' a) :
    srcR D 1 (.ref l) fun m item still start back => 1 < 2 ∧ ∃ I : Nat → List Value → DM → Prop, I 0 [] D ∧ (∀ i out D2, I i out D2 → still D2) ∧
      (∀ i out D2 v, i < m → item i v → out.length = i → I i out D2 → wpE G n elt (W v) D2 fun y D3 => I (i + 1) (out ++ [y]) D3) ∧
      ∀ out D2 a, I m out D2 → out.length = m → D2 a = Option.none → K out D2 a :=
  ⟨l, lo, hi, rfl, hl, hb, by decide, I, h0, fun _ _ _ _ => trivial, fun i out D2 v hi' hv ho hI => by obtain ⟨t, rfl⟩ := hv; exact ht i out D2 t hi' ho hI, he⟩

/-- each item by itself, nothing that stands is touched -/
theorem i_comp0 {elt : E} {l : Addr} {vs : List Value} {W : Value → Vs} {K : List Value → DM → Addr → Prop} (hl : L D l vs) (hb : vs.length ≤ big) (F : Nat → Value → DM → Prop) (hF : ∀ i y D' D'', D'.le D'' → F i y D' → F i y D'')
    (ht : ∀ i v D' (kk : Value → DM → Prop), D.le D' → vs[i]? = some v → (∀ y D'', D'.le D'' → F i y D'' → kk y D'') → wpE G n elt (W v) D' kk)
    (he : ∀ a out D', D a = none → D' a = none → D.le (D'.put a (.lst out)) → L (D'.put a (.lst out)) a out → out.length = vs.length → (∀ i y, out[i]? = some y → F i y (D'.put a (.lst out))) → K out D' a) :
    srcR D 0 (.ref l) fun m item still start back => 0 < 2 ∧ ∃ I : Nat → List Value → DM → Prop, I 0 [] D ∧ (∀ i out D2, I i out D2 → still D2) ∧
      (∀ i out D2 v, i < m → item i v → out.length = i → I i out D2 → wpE G n elt (W v) D2 fun y D3 => I (i + 1) (out ++ [y]) D3) ∧
      ∀ out D2 a, I m out D2 → out.length = m → D2 a = Option.none → K out D2 a := by
  refine i_comp0I hl.ls hb (fun i out D' => D.le D' ∧ ∀ j y, out[j]? = some y → F j y D') ⟨DM.le.refl _, fun j y h => by simp at h⟩ (fun i out D' h => (hl.le h.1).ls) (fun i out D' v hv ho hI => ?_) fun out D' a hI ho ha => ?_
  · refine ht i v D' _ hI.1 hv fun y D'' hl hy => ⟨hI.1.trans hl, fun j z hz => ?_⟩
    rw [List.getElem?_append] at hz
    split at hz
    · exact hF _ _ _ _ hl (hI.2 j z hz)
    · rename_i hj
      have : j = i := by
        have h1 := (List.getElem?_eq_some_iff.mp hz).1
        simp at h1
        omega
      subst this
      rw [ho, Nat.sub_self] at hz
      cases hz
      exact hy
  · have l1 := DM.le_put (c := .lst out) ha
    have hD : D a = none := by
      cases e : D a with
      | none => rfl
      | some c => rw [hI.1 _ _ e] at ha; cases ha
    exact he a out D' hD ha (hI.1.trans l1) (DM.put_same ..) ho fun i y h => hF _ _ _ _ l1 (hI.2 i y h)

theorem i_for0 {body : Ss} {l : Addr} {vs : List Value} {k : Flow → Vs → DM → Prop} (hl : LsAt D l vs) (hb : vs.length ≤ big) (I : Nat → Vs → DM → Prop) (h0 : I 0 V D) (hs : ∀ i V' D', I i V' D' → LsAt D' l vs)
    (ht : ∀ i V' D' v, vs[i]? = some v → I i V' D' → wpSs G n body (V'.set x (some v)) D' (flowK k (I (i + 1)))) (he : ∀ V' D', I vs.length V' D' → k .next V' D') :
    srcR D 0 (.ref l) fun m item still start back => ∃ I : Nat → Vs → DM → Prop, (∀ D2, start D D2 → I 0 V D2) ∧ (∀ i V2 D2, I i V2 D2 → still D2) ∧
      (∀ i V2 D2 v, i < m → item i v → I i V2 D2 → wpSs G n body (V2.set x (some v)) D2 (flowK k (I (i + 1)))) ∧ ∀ V2 D2, I m V2 D2 → k .next V2 (back D2) :=
  ⟨l, vs, rfl, hl, hb, I, fun D2 e => by subst e; exact h0, hs, fun i V2 D2 v _ hv hI => ht i V2 D2 v hv hI, he⟩
theorem i_for1 {body : Ss} {l : Addr} {lo hi : Int} {k : Flow → Vs → DM → Prop} (hl : D l = some (.rng lo hi)) (hb : (hi - lo).toNat ≤ big) (I : Nat → Vs → DM → Prop) (h0 : I 0 V D)
    (ht : ∀ i V' D' t, i < (hi - lo).toNat → I i V' D' → wpSs G n body (V'.set x (some (.int (lo + i) t))) D' (flowK k (I (i + 1)))) (he : ∀ V' D', I (hi - lo).toNat V' D' → k .next V' D') :
    srcR D 1 (.ref l) fun m item still start back => ∃ I : Nat → Vs → DM → Prop, (∀ D2, start D D2 → I 0 V D2) ∧ (∀ i V2 D2, I i V2 D2 → still D2) ∧
      (∀ i V2 D2 v, i < m → item i v → I i V2 D2 → wpSs G n body (V2.set x (some v)) D2 (flowK k (I (i + 1)))) ∧ ∀ V2 D2, I m V2 D2 → k .next V2 (back D2) :=
  ⟨l, lo, hi, rfl, hl, hb, I, fun D2 e => by subst e; exact h0, fun _ _ _ _ => trivial, fun i V2 D2 v hi' hv hI => by obtain ⟨t, rfl⟩ := hv; exact ht i V2 D2 t hi' hI, he⟩
/-- over a dict's keys -/
theorem i_for2 {body : Ss} {l : Addr} {kvs : List (Str × Value)} {k : Flow → Vs → DM → Prop} (hl : D l = some (.ds kvs)) (hb : kvs.length ≤ big) (I : Nat → Nat → Vs → DM → Prop) (h0 : ∀ ep, I ep 0 V (D.put l (.dse kvs ep))) (hs : ∀ ep i V' D', I ep i V' D' → D' l = some (.dse kvs ep))
    (ht : ∀ ep i V' D' s u t, kvs[i]? = some (s, u) → I ep i V' D' → wpSs G n body (V'.set x (some (.str s t))) D' (flowK k (I ep (i + 1)))) (he : ∀ ep V' D', I ep kvs.length V' D' → k .next V' (D'.put l (.ds kvs))) :
    srcR D 2 (.ref l) fun m item still start back => ∃ I : Nat → Vs → DM → Prop, (∀ D2, start D D2 → I 0 V D2) ∧ (∀ i V2 D2, I i V2 D2 → still D2) ∧
      (∀ i V2 D2 v, i < m → item i v → I i V2 D2 → wpSs G n body (V2.set x (some v)) D2 (flowK k (I (i + 1)))) ∧ ∀ V2 D2, I m V2 D2 → k .next V2 (back D2) :=
  ⟨l, kvs, rfl, hl, hb, fun ep => ⟨I ep, fun D2 e => by subst e; exact h0 ep, hs ep, fun i V2 D2 v hi' hv hI => by obtain ⟨s, u, t, e, rfl⟩ := hv; exact ht ep i V2 D2 s u t e hI, he ep⟩⟩
end loops

/-- an attribute that is not there -/
noncomputable def NoAttr (D : DM) (at_ : Value) (nm : Str) : Prop := at_ = .none ∨ ∃ da kvs, at_ = .ref da ∧ D da = some (.ds kvs) ∧ valueAt kvs nm = none

/-- texts in a list, whatever their tokens -/
noncomputable def Strs (vs : List Value) (ss : List Str) : Prop := vs.length = ss.length ∧ ∀ (i : Nat) (s : Str), ss[i]? = some s → ∃ t, vs[i]? = some (.str s t)
noncomputable def Ints (vs : List Value) (is : List Int) : Prop := vs.length = is.length ∧ ∀ (i : Nat) (s : Int), is[i]? = some s → ∃ t, vs[i]? = some (.int s t)
theorem Strs.nil : Strs [] [] := ⟨rfl, fun i s h => by simp at h⟩
theorem Ints.nil : Ints [] [] := ⟨rfl, fun i s h => by simp at h⟩
theorem Strs.snoc {vs : List Value} {ss : List Str} {s : Str} {t : Tok} (h : Strs vs ss) : Strs (vs ++ [.str s t]) (ss ++ [s]) := by
  refine ⟨by simp [h.1], fun i u hu => ?_⟩
  rw [List.getElem?_append] at hu ⊢
  split at hu
  · rename_i hi
    obtain ⟨t', e⟩ := h.2 i u hu
    rw [if_pos (by rw [h.1]; exact hi)]
    exact ⟨t', e⟩
  · rename_i hi
    rw [if_neg (by rw [h.1]; exact hi), h.1]
    have : i - ss.length = 0 := by
      have := (List.getElem?_eq_some_iff.mp hu).1
      simp at this
      omega
    rw [this] at hu ⊢
    cases hu
    exact ⟨t, rfl⟩
theorem Ints.snoc {vs : List Value} {ss : List Int} {s : Int} {t : Tok} (h : Ints vs ss) : Ints (vs ++ [.int s t]) (ss ++ [s]) := by
  refine ⟨by simp [h.1], fun i u hu => ?_⟩
  rw [List.getElem?_append] at hu ⊢
  split at hu
  · rename_i hi
    obtain ⟨t', e⟩ := h.2 i u hu
    rw [if_pos (by rw [h.1]; exact hi)]
    exact ⟨t', e⟩
  · rename_i hi
    rw [if_neg (by rw [h.1]; exact hi), h.1]
    have : i - ss.length = 0 := by
      have := (List.getElem?_eq_some_iff.mp hu).1
      simp at this
      omega
    rw [this] at hu ⊢
    cases hu
    exact ⟨t, rfl⟩
theorem Strs.of {vs : List Value} {ss : List Str} (h : Strs vs ss) {i : Nat} {v : Value} (hv : vs[i]? = some v) : ∃ s t, ss[i]? = some s ∧ v = .str s t := by
  have hi := (List.getElem?_eq_some_iff.mp hv).1
  rw [h.1] at hi
  obtain ⟨t, e⟩ := h.2 i ss[i] (by simp [hi])
  rw [hv] at e
  exact ⟨ss[i], t, by simp [hi], Option.some.inj e⟩
theorem Ints.of {vs : List Value} {ss : List Int} (h : Ints vs ss) {i : Nat} {v : Value} (hv : vs[i]? = some v) : ∃ s t, ss[i]? = some s ∧ v = .int s t := by
  have hi := (List.getElem?_eq_some_iff.mp hv).1
  rw [h.1] at hi
  obtain ⟨t, e⟩ := h.2 i ss[i] (by simp [hi])
  rw [hv] at e
  exact ⟨ss[i], t, by simp [hi], Option.some.inj e⟩
theorem Strs.mk' {vs : List Value} {ss : List Str} (h1 : vs.length = ss.length) (h2 : ∀ (i : Nat) (v : Value), vs[i]? = some v → ∃ s t, ss[i]? = some s ∧ v = .str s t) : Strs vs ss := by
  refine ⟨h1, fun i s hs => ?_⟩
  have hi := (List.getElem?_eq_some_iff.mp hs).1
  rw [← h1] at hi
  refine hid fun gg hgg => ?_
  obtain ⟨s', t, e1, e2⟩ := h2 i vs[i] (by simp [hi])
  refine hgg ?_
  clear hgg gg
  rw [hs] at e1
  cases e1
  exact ⟨t, by simp [hi, e2]⟩

noncomputable def strI (i : Int) : Str := Str.ofString (toString i)
/-- the labels of rows: what they are told as -/
noncomputable def LabAt (lk : Str) (ls : List Value) (ss : List Str) : Prop := (lk = kI ∧ ∃ is, Ints ls is ∧ (∀ i ∈ is, i.natAbs < 2 ^ 64) ∧ ss = is.map strI) ∨ (lk = kC ∧ Strs ls ss)
theorem LabAt.len {lk : Str} {ls : List Value} {ss : List Str} (h : LabAt lk ls ss) : ls.length = ss.length := by
  rcases h with ⟨_, is, h1, _, rfl⟩ | ⟨_, h⟩
  · simp [h1.1]
  · exact h.1

structure FrX (D : DM) (f : Addr) (cs nms : List Value) (lk : Str) (ls : List Value) (il da nv nl cv cl rv rl : Addr) (t t1 t2 t3 t4 : Tok) : Prop where
  v : VecAt D f (.str kL t) (.ref il) (.ref da)
  i : L D il cs
  d : D da = some (.ds [(Str.ofString "names", .ref nv), (Str.ofString "class", .ref cv), (Str.ofString "row.names", .ref rv)])
  nv : VecAt D nv (.str kC t1) (.ref nl) .none
  nl : L D nl nms
  cv : VecAt D cv (.str kC t2) (.ref cl) .none
  cl : L D cl [.str (Str.ofString "data.frame") t4]
  rv : VecAt D rv (.str lk t3) (.ref rl) .none
  rl : L D rl ls
  cb : cs.length ≤ big
  nb : nms.length ≤ big
  rb : ls.length ≤ big
noncomputable def FrameAt (D : DM) (f : Addr) (cs nms : List Value) (lk : Str) (ls : List Value) : Prop := ∃ il da nv nl cv cl rv rl t t1 t2 t3 t4, FrX D f cs nms lk ls il da nv nl cv cl rv rl t t1 t2 t3 t4
theorem FrX.le {D D' : DM} {f : Addr} {cs nms : List Value} {lk : Str} {ls : List Value} {il da nv nl cv cl rv rl : Addr} {t t1 t2 t3 t4 : Tok} (h : FrX D f cs nms lk ls il da nv nl cv cl rv rl t t1 t2 t3 t4) (l : D.le D') :
    FrX D' f cs nms lk ls il da nv nl cv cl rv rl t t1 t2 t3 t4 := ⟨h.v.le l, h.i.le l, l _ _ h.d, h.nv.le l, h.nl.le l, h.cv.le l, h.cl.le l, h.rv.le l, h.rl.le l, h.cb, h.nb, h.rb⟩
theorem FrameAt.le {D D' : DM} {f : Addr} {cs nms : List Value} {lk : Str} {ls : List Value} (h : FrameAt D f cs nms lk ls) (l : D.le D') : FrameAt D' f cs nms lk ls := by
  refine hid fun gg hgg => ?_
  obtain ⟨il, da, nv, nl, cv, cl, rv, rl, t, t1, t2, t3, t4, X⟩ := h
  refine hgg ?_
  clear hgg gg
  exact ⟨il, da, nv, nl, cv, cl, rv, rl, t, t1, t2, t3, t4, X.le l⟩

/-- a factor's attributes: the two vectors and their items -/
noncomputable def FacAt (D : DM) (at_ : Value) : Option (Addr × Addr × Addr × Addr) → Prop
  | none => at_ = .none
  | some (lv, cl, li, ci) => ∃ da t1 t2, at_ = .ref da ∧ D da = some (.ds [(Str.ofString "levels", .ref lv), (Str.ofString "class", .ref cl)]) ∧ VecAt D lv (.str kC t1) (.ref li) .none ∧ VecAt D cl (.str kC t2) (.ref ci) .none
theorem FacAt.le {D D' : DM} {at_ : Value} {fa : Option (Addr × Addr × Addr × Addr)} (h : FacAt D at_ fa) (l : D.le D') : FacAt D' at_ fa := by
  cases fa with
  | none => exact h
  | some q => obtain ⟨da, t1, t2, e, h1, h2, h3⟩ := h; exact ⟨da, t1, t2, e, l _ _ h1, h2.le l, h3.le l⟩
noncomputable def ColAt (D : DM) (x : Addr) (kd : Str) (vs : List Value) (fa : Option (Addr × Addr × Addr × Addr)) : Prop :=
  (kd = kI ∨ kd = kC) ∧ vs.length ≤ big ∧ ∃ il t at_, VecAt D x (.str kd t) (.ref il) at_ ∧ L D il vs ∧ FacAt D at_ fa
theorem ColAt.le {D D' : DM} {x : Addr} {kd : Str} {vs : List Value} {fa : Option (Addr × Addr × Addr × Addr)} (h : ColAt D x kd vs fa) (l : D.le D') : ColAt D' x kd vs fa := by
  refine hid fun gg hgg => ?_
  obtain ⟨h1, h2, il, t, at_, h3, h4, h5⟩ := h
  refine hgg ?_
  clear hgg gg
  exact ⟨h1, h2, il, t, at_, h3.le l, h4.le l, h5.le l⟩

section contracts
variable {b : Bx} {D : DM}

theorem c_get_no {x : Addr} {kd it at_ : Value} {nm : Str} {t : Tok} (hv : VecAt D x kd it at_) (ha : NoAttr D at_ nm) : Calls (GG b) 31 224 [.ref x, .str nm t] D fun v D' => D.le D' ∧ (v = .none ∧ D' = D) := by
  rcases ha with rfl | ⟨da, kvs, rfl, hd, hn⟩
  · exact c_get_attr0 hv
  · exact (c_get_attr hv hd).mono fun v D' h => ⟨h.1, by rw [h.2.1, hn]; rfl, h.2.2⟩

theorem c_dim_of {x : Addr} {kd it at_ : Value} (hv : VecAt D x kd it at_) (ha : NoAttr D at_ (Str.ofString "dim")) : Calls (GG b) 62 255 [.ref x] D fun v D' => D.le D' ∧ (v = .none ∧ D' = D) := by
  refine enterG (n := 31) (vs := [_]) (V := [some _, none]) ck_dim_of factsT bd_dim_of ?_
  dsimp only [sm_dim_of, wpSs, wpS, wpE, wpEs, wpT, wpOr, wpAnd, List.getD_cons_zero, List.getD_cons_succ, List.set_cons_zero, List.set_cons_succ]
  intro t
  refine i_call (c_get_no hv ha) fun v D' l h => ?_
  obtain ⟨rfl, rfl⟩ := h
  refine i_is_none (i_t ?_)
  exact ⟨DM.le.refl _, rfl, rfl⟩

theorem c_class_attr0 {x : Addr} {kd it at_ : Value} (hv : VecAt D x kd it at_) (ha : NoAttr D at_ (Str.ofString "class")) : Calls (GG b) 62 267 [.ref x] D fun v D' => D.le D' ∧ ∃ a, v = .ref a ∧ D a = none ∧ L D' a [] := by
  refine enterG (n := 31) (vs := [_]) (V := [some _, none]) ck_class_attr factsT bd_class_attr ?_
  dsimp only [sm_class_attr, wpSs, wpS, wpE, wpEs, wpT, wpOr, wpAnd, List.getD_cons_zero, List.getD_cons_succ, List.set_cons_zero, List.set_cons_succ]
  intro t
  refine i_call (c_get_no hv ha) fun v D' l h => ?_
  obtain ⟨rfl, rfl⟩ := h
  exact i_is_none (i_t ⟨by simp, fun a ha => ⟨DM.le_put ha, a, rfl, ha, DM.put_same ..⟩⟩)

theorem c_class_frame {f : Addr} {cs nms : List Value} {lk : Str} {ls : List Value} (h : FrameAt D f cs nms lk ls) : Calls (GG b) 62 267 [.ref f] D fun v D' => D.le D' ∧ ∃ a t, v = .ref a ∧ D a = none ∧ L D' a [.str (Str.ofString "data.frame") t] := by
  refine hid fun gg hgg => ?_
  obtain ⟨il, da, nv, nl, cv, cl, rv, rl, t, t1, t2, t3, t4, X⟩ := h
  refine hgg ?_
  clear hgg gg
  refine enterG (n := 31) (vs := [_]) (V := [some _, none]) ck_class_attr factsT bd_class_attr ?_
  dsimp only [sm_class_attr, wpSs, wpS, wpE, wpEs, wpT, wpOr, wpAnd, List.getD_cons_zero, List.getD_cons_succ, List.set_cons_zero, List.set_cons_succ]
  intro t
  refine i_call (c_get_attr X.v X.d) fun v D' l h => ?_
  obtain ⟨rfl, rfl⟩ := h
  have e : valueAt [(Str.ofString "names", Value.ref nv), (Str.ofString "class", .ref cv), (Str.ofString "row.names", .ref rv)] (Str.ofString "class") = some (.ref cv) := by rfl
  rw [e]
  refine i_is_ref (i_f (i_att1 X.cv (i_list X.cl (by simp [big]) fun a D1 h1 h2 h3 => ?_)))
  exact ⟨h2, a, t4, rfl, h1, h3⟩
end contracts
end Mine

namespace Mine

section intro
variable {b : Bx} {n : Nat} {D : DM}
theorem i_notin_sd {l : Addr} {kvs : List (Str × Value)} {x : Str} {t : Tok} {P : Bool → Prop} (hl : SdAt D l kvs) (h : P (!(valueAt kvs x).isSome)) : ∃ r, cmpR D .NotIn (.str x t) (.ref l) r ∧ P r :=
  ⟨_, .inr (.inr (.inl ⟨kvs, x, t, hl, rfl, by rw [Bool.not_not]⟩)), h⟩
theorem i_in_sd {l : Addr} {kvs : List (Str × Value)} {x : Str} {t : Tok} {P : Bool → Prop} (hl : SdAt D l kvs) (h : P (valueAt kvs x).isSome) : ∃ r, cmpR D .In (.str x t) (.ref l) r ∧ P r :=
  ⟨_, .inr (.inr (.inl ⟨kvs, x, t, hl, rfl, rfl⟩)), h⟩
theorem i_in_di {l : Addr} {kvs : List (Int × Value)} {x : Int} {t : Tok} {P : Bool → Prop} (hl : D l = some (.di kvs)) (h : P (valueAt kvs x).isSome) : ∃ r, cmpR D .In (.int x t) (.ref l) r ∧ P r :=
  ⟨_, .inr (.inr (.inr ⟨kvs, x, t, hl, rfl, rfl⟩)), h⟩
theorem i_item_sd {l : Addr} {kvs : List (Str × Value)} {x : Str} {t : Tok} {v : Value} {P : Value → Prop} (hl : SdAt D l kvs) (hv : valueAt kvs x = some v) (h : P v) : itmR D (.ref l) (.str x t) P :=
  .inr (.inr (.inl ⟨kvs, x, t, v, hl, rfl, hv, h⟩))
theorem i_item_l {l : Addr} {vs : List Value} {j : Int} {t : Tok} {v : Value} {P : Value → Prop} (hl : L D l vs) (hb : vs.length ≤ big) (h0 : 0 ≤ j) (hv : vs[j.toNat]? = some v) (h : P v) : itmR D (.ref l) (.int j t) P := by
  have hi := (List.getElem?_eq_some_iff.mp hv).1
  have : big = 2 ^ 20 := rfl
  exact .inl ⟨vs, j, t, v, hl.ls, rfl, h0, by omega, hv, h⟩
theorem i_item_tup {l : Addr} {vs : List Value} {j : Int} {t : Tok} {v : Value} {P : Value → Prop} (hl : D l = some (.tup vs)) (hb : vs.length ≤ big) (h0 : 0 ≤ j) (hv : vs[j.toNat]? = some v) (h : P v) : itmR D (.ref l) (.int j t) P := by
  have : big = 2 ^ 20 := rfl
  exact .inr (.inl ⟨vs, j, t, v, hl, rfl, h0, by omega, hv, h⟩)
theorem none_of {D D' : DM} {a : Addr} (l : D.le D') (h : D' a = none) : D a = none := by
  cases e : D a with
  | none => rfl
  | some c => rw [l _ _ e] at h; cases h
end intro

theorem take_snoc {α : Type} {l : List α} {i : Nat} {x : α} (h : l[i]? = some x) : l.take (i + 1) = l.take i ++ [x] := by
  rw [List.take_add_one, h]; rfl

section contracts
variable {b : Bx} {D : DM}

theorem noAttr_col {at_ : Value} {fa : Option (Addr × Addr × Addr × Addr)} {nm : Str} (h : FacAt D at_ fa) (hn : (Str.ofString "levels" == nm) = false ∧ (Str.ofString "class" == nm) = false) : NoAttr D at_ nm := by
  cases fa with
  | none => exact .inl h
  | some q =>
    refine hid fun gg hgg => ?_
    obtain ⟨da, t1, t2, e, h1, h2, h3⟩ := h
    refine hgg ?_
    clear hgg gg
    refine .inr ⟨da, _, e, h1, ?_⟩
    have e1 : ¬ Str.ofString "levels" = nm := by have := hn.1; simpa using this
    have e2 : ¬ Str.ofString "class" = nm := by have := hn.2; simpa using this
    simp [valueAt, e1, e2]

theorem c_names_col {x : Addr} {kd : Str} {vs : List Value} {fa : Option (Addr × Addr × Addr × Addr)} (h : ColAt D x kd vs fa) : Calls (GG b) 93 248 [.ref x] D fun v D' => D.le D' ∧ (v = .none ∧ D' = D) := by
  refine hid fun gg hgg => ?_
  obtain ⟨hk, hb, il, t, at_, hv, hi, hf⟩ := h
  refine hgg ?_
  clear hgg gg
  refine enterG (n := 62) (vs := [_]) (V := [some _, none, none, none, none, none]) ck_names_of factsT bd_names_of ?_
  dsimp only [sm_names_of, wpSs, wpS, wpE, wpEs, wpT, wpOr, wpAnd, List.getD_cons_zero, List.getD_cons_succ, List.set_cons_zero, List.set_cons_succ]
  refine i_att0 hv fun t1 => i_eqs false (i_f (i_att0 hv fun t2 => i_eqs false (i_f ?_) ?_)) ?_
  · refine i_call (c_dim_of hv (noAttr_col hf (by decide))) fun v D' l e => ?_
    obtain ⟨rfl, rfl⟩ := e
    refine i_isnot_none (i_f (i_f fun t3 => ?_))
    refine i_call (c_get_no hv (noAttr_col hf (by decide))) fun v D' l e => ?_
    obtain ⟨rfl, rfl⟩ := e
    exact i_is_none (i_t ⟨DM.le.refl _, rfl, rfl⟩)
  · rcases hk with rfl | rfl <;> decide
  · rcases hk with rfl | rfl <;> decide

theorem c_names_frame {f : Addr} {cs nms : List Value} {lk : Str} {ls : List Value} (h : FrameAt D f cs nms lk ls) : Calls (GG b) 93 248 [.ref f] D fun v D' => D.le D' ∧ ∃ a, v = .ref a ∧ D a = none ∧ L D' a nms := by
  refine hid fun gg hgg => ?_
  obtain ⟨il, da, nv, nl, cv, cl, rv, rl, t, t1, t2, t3, t4, X⟩ := h
  refine hgg ?_
  clear hgg gg
  refine enterG (n := 62) (vs := [_]) (V := [some _, none, none, none, none, none]) ck_names_of factsT bd_names_of ?_
  dsimp only [sm_names_of, wpSs, wpS, wpE, wpEs, wpT, wpOr, wpAnd, List.getD_cons_zero, List.getD_cons_succ, List.set_cons_zero, List.set_cons_succ]
  refine i_att0 X.v fun t1 => i_eqs false (i_f (i_att0 X.v fun t2 => i_eqs false (i_f ?_)))
  refine i_call (c_dim_of X.v (.inr ⟨da, _, rfl, X.d, by rfl⟩)) fun v D' l e => ?_
  obtain ⟨rfl, rfl⟩ := e
  refine i_isnot_none (i_f (i_f fun t3 => ?_))
  refine i_call (c_get_attr X.v X.d) fun v D' l e => ?_
  obtain ⟨rfl, rfl⟩ := e
  have e : valueAt [(Str.ofString "names", Value.ref nv), (Str.ofString "class", .ref cv), (Str.ofString "row.names", .ref rv)] (Str.ofString "names") = some (.ref nv) := by rfl
  rw [e]
  exact i_is_ref (i_f (i_att1 X.nv (i_list X.nl X.nb fun a D1 h1 h2 h3 => ⟨h2, a, rfl, h1, h3⟩)))

theorem c_label_texts {x : Addr} {lk : Str} {rl : Addr} {t : Tok} {ls : List Value} {ss : List Str} (hv : VecAt D x (.str lk t) (.ref rl) .none) (hl : L D rl ls) (hb : ls.length ≤ big) (hs : LabAt lk ls ss) :
    Calls (GG b) 62 243 [.ref x] D fun v D' => D.le D' ∧ ∃ a out, v = .ref a ∧ D a = none ∧ L D' a out ∧ Strs out ss := by
  refine enterG (n := 31) (vs := [_]) (V := [some _, none, none, none]) ck_label_texts factsT bd_label_texts ?_
  dsimp only [sm_label_texts, wpSs, wpS, wpE, wpEs, wpT, wpOr, wpAnd, List.getD_cons_zero, List.getD_cons_succ, List.set_cons_zero, List.set_cons_succ]
  intro t1
  refine i_call (c_get_attr0 hv) fun v D' l e => ?_
  obtain ⟨rfl, rfl⟩ := e
  refine i_isnot_none (i_f (i_f (i_att1 hv ?_)))
  refine i_comp0 hl hb (fun i y D' => ∃ s t, ss[i]? = some s ∧ y = .str s t) (fun i y D' D'' _ h => h) (fun i v D' kk l hi hk => ?_) fun a out D' ha _ l h1 h2 h3 => ?_
  · dsimp only [sb_label_texts_0, wpE, wpEs, List.getD_cons_zero, List.getD_cons_succ, List.set_cons_zero, List.set_cons_succ]
    refine i_att0 (hv.le l) ?_
    rcases hs with ⟨rfl, is, q1, q2, rfl⟩ | ⟨rfl, q⟩
    · refine hid fun gg hgg => ?_
      obtain ⟨j, t2, e1, rfl⟩ := q1.of hi
      refine hgg ?_
      clear hgg gg
      refine i_call (c_label_text_int (q2 j (List.mem_of_getElem? e1))) fun v D2 l2 e => ?_
      obtain ⟨⟨u, rfl⟩, rfl⟩ := e
      exact hk _ _ l2 ⟨_, u, by rw [List.getElem?_map, e1]; rfl, rfl⟩
    · refine hid fun gg hgg => ?_
      obtain ⟨s, t2, e1, e2⟩ := q.of hi
      refine hgg ?_
      clear hgg gg
      refine i_call (c_label_text_str e2) fun v D2 l2 e => ?_
      obtain ⟨rfl, rfl⟩ := e
      exact hk _ _ l2 ⟨s, t2, e1, e2⟩
  · exact ⟨l, a, out, rfl, ha, h1, Strs.mk' (by rw [h2, hs.len]) h3⟩

theorem frX_row {f : Addr} {cs nms : List Value} {lk : Str} {ls : List Value} {il da nv nl cv cl rv rl : Addr} {t t1 t2 t3 t4 : Tok} (X : FrX D f cs nms lk ls il da nv nl cv cl rv rl t t1 t2 t3 t4) :
    SdAt D da [(Str.ofString "names", .ref nv), (Str.ofString "class", .ref cv), (Str.ofString "row.names", .ref rv)] := ⟨_, X.d, rfl⟩
theorem c_frame_rows {f : Addr} {cs nms : List Value} {lk : Str} {ls : List Value} (h : FrameAt D f cs nms lk ls) : Calls (GG b) 31 379 [.ref f] D fun v D' => D.le D' ∧ ((∃ t, v = .int ls.length t) ∧ D' = D) := by
  refine hid fun gg hgg => ?_
  obtain ⟨il, da, nv, nl, cv, cl, rv, rl, t, t1, t2, t3, t4, X⟩ := h
  refine hgg ?_
  clear hgg gg
  refine enterG (n := 0) (vs := [_]) (V := [some _]) ck_frame_rows factsT bd_frame_rows ?_
  dsimp only [sm_frame_rows, wpSs, wpS, wpE, wpEs, wpT, wpOr, wpAnd, List.getD_cons_zero, List.getD_cons_succ, List.set_cons_zero, List.set_cons_succ]
  refine i_att2 X.v (i_is_ref (i_f fun t => i_att2 X.v (i_notin_sd (frX_row X) ?_)))
  refine i_f (i_f (i_att2 X.v fun t => i_item_sd (frX_row X) (v := .ref rv) (by rfl) (i_att1 X.rv (i_len X.rl X.rb fun t' => ?_))))
  exact ⟨DM.le.refl _, ⟨t', rfl⟩, rfl⟩

theorem c_is_absent0 : Calls (GG b) 31 462 [.none] D fun v D' => D.le D' ∧ (v = .bool true ∧ D' = D) := by
  refine enterG (n := 0) (vs := [_]) (V := [some _]) ck_is_absent factsT bd_is_absent ?_
  dsimp only [sm_is_absent, wpSs, wpS, wpE, wpEs, wpT, wpOr, wpAnd, List.getD_cons_zero, List.getD_cons_succ, List.set_cons_zero, List.set_cons_succ]
  exact i_is_none ⟨true, rfl, i_t ⟨DM.le.refl _, rfl, rfl⟩⟩
theorem c_is_absent1 {x : Addr} {it at_ : Value} {t : Tok} (hv : VecAt D x (.str kI t) it at_) : Calls (GG b) 31 462 [.ref x] D fun v D' => D.le D' ∧ (v = .bool false ∧ D' = D) := by
  refine enterG (n := 0) (vs := [_]) (V := [some _]) ck_is_absent factsT bd_is_absent ?_
  dsimp only [sm_is_absent, wpSs, wpS, wpE, wpEs, wpT, wpOr, wpAnd, List.getD_cons_zero, List.getD_cons_succ, List.set_cons_zero, List.set_cons_succ]
  exact i_is_ref ⟨false, rfl, i_f (i_att0 hv fun t1 => i_eqs false ⟨DM.le.refl _, rfl, rfl⟩)⟩

theorem c_whole_subscripts {x : Addr} {it at_ : Value} {t : Tok} (hv : VecAt D x (.str kI t) it at_) : Calls (GG b) 31 306 [.ref x] D fun v D' => D.le D' ∧ (v = it ∧ D' = D) := by
  refine enterG (n := 0) (vs := [_]) (V := [some _, none, none]) ck_whole_subscripts factsT bd_whole_subscripts ?_
  dsimp only [sm_whole_subscripts, wpSs, wpS, wpE, wpEs, wpT, wpOr, wpAnd, List.getD_cons_zero, List.getD_cons_succ, List.set_cons_zero, List.set_cons_succ]
  exact i_att0 hv fun t1 => i_eqs true (i_t (i_att1 hv ⟨DM.le.refl _, rfl, rfl⟩))

theorem c_whole_places {l : Addr} {vs : List Value} {is : List Int} {v1 : Value} (hl : L D l vs) (hb : vs.length ≤ 1000) (hi : Ints vs is) (hp : ∀ i ∈ is, 0 < i) :
    Calls (GG b) 31 318 [.ref l, v1] D fun v D' => D.le D' ∧ ∃ p out, v = .ref p ∧ D p = none ∧ L D' p out ∧ Ints out (is.map (· - 1)) := by
  refine enterG (n := 0) (vs := [_, _]) (V := [some _, some _, none, none, none, none, none]) ck_whole_places factsT bd_whole_places ?_
  dsimp only [sm_whole_places, wpSs, wpS, wpE, wpEs, wpT, wpOr, wpAnd, List.getD_cons_zero, List.getD_cons_succ, List.set_cons_zero, List.set_cons_succ]
  refine ⟨by simp, fun p hp0 => fun q hq0 => ?_⟩
  have hpq : p ≠ q := DM.ne_of hq0 (DM.put_same ..)
  have hq : D q = none := none_of (DM.le_put hp0) hq0
  refine i_for0 (vs := vs) (hl.le ((DM.le_put hp0).trans (DM.le_put hq0))).ls (Nat.le_trans hb (by decide))
    (fun i V' D' => ∃ o out, V' = [some (.ref l), some v1, some (.ref p), some (.ref q), some (.bool false), o, none] ∧ D.le D' ∧ D' p = some (.lst out) ∧ D' q = some (.di []) ∧ Ints out ((is.take i).map (· - 1)))
    ⟨none, [], rfl, (DM.le_put hp0).trans (DM.le_put hq0), by rw [DM.put_ne _ _ hpq]; exact DM.put_same .., DM.put_same .., Ints.nil⟩ (fun i V' D' h => by obtain ⟨o, out, rfl, l1, _⟩ := h; exact (hl.le l1).ls) (fun i V' D' v hv h => ?_) fun V' D' h => ?_
  · refine hid fun gg hgg => ?_
    obtain ⟨o, out, rfl, l1, hpo, hqo, hio⟩ := h
    refine hgg ?_
    clear hgg gg
    refine hid fun gg hgg => ?_
    obtain ⟨j, t, e1, rfl⟩ := hi.of hv
    refine hgg ?_
    clear hgg gg
    dsimp only [sl_whole_places_0, wpSs, wpS, wpE, wpEs, wpT, wpOr, wpAnd, List.getD_cons_zero, List.getD_cons_succ, List.set_cons_zero, List.set_cons_succ]
    have hj := hp j (List.mem_of_getElem? e1)
    have hlen : out.length ≤ big := by
      rw [hio.1, List.length_map, List.length_take]
      have : is.length ≤ 1000 := hi.1 ▸ hb
      exact Nat.le_trans (Nat.min_le_right _ _) (Nat.le_trans this (by decide))
    refine i_is_int (i_f fun t0 => i_gt ?_)
    rw [decide_eq_true hj]
    refine i_t ⟨p, out, rfl, hpo, fun t1 t2 => ⟨out, hpo, hlen, ?_⟩⟩
    refine ⟨_, _, rfl, DM.le_mut hp0 l1, DM.put_same .., ?_, ?_⟩
    · rw [DM.put_ne _ _ (Ne.symm hpq)]; exact hqo
    · rw [take_snoc e1, List.map_append]
      exact hio.snoc
  · refine hid fun gg hgg => ?_
    obtain ⟨o, out, rfl, l1, hpo, hqo, hio⟩ := h
    refine hgg ?_
    clear hgg gg
    dsimp only [wpSs, wpS, wpE, wpEs, wpT, wpOr, wpAnd, List.getD_cons_zero, List.getD_cons_succ, List.set_cons_zero, List.set_cons_succ]
    refine .inr (.inr ⟨[], hqo, by simp, fun t t1 => i_eq (r := true) (by rfl) (i_t ?_)⟩)
    rw [hi.1, List.take_length] at hio
    exact ⟨l1, p, out, rfl, hp0, hpo, hio⟩

theorem c_positions {x rl : Addr} {vs : List Value} {is : List Int} {t : Tok} {at_ v1 v2 v3 : Value} (hv : VecAt D x (.str kI t) (.ref rl) at_) (hl : L D rl vs) (hb : vs.length ≤ 1000) (hi : Ints vs is) (hp : ∀ i ∈ is, 0 < i) :
    Calls (GG b) 62 346 [.ref x, v1, v2, v3] D fun v D' => D.le D' ∧ ∃ a p out, v = .ref a ∧ D' a = some (.tup [.ref p, .none]) ∧ D p = none ∧ L D' p out ∧ Ints out (is.map (· - 1)) := by
  refine enterG (n := 31) (vs := [_, _, _, _]) (V := [some _, some _, some _, some _, none]) ck_positions factsT bd_positions ?_
  dsimp only [sm_positions, wpSs, wpS, wpE, wpEs, wpT, wpOr, wpAnd, List.getD_cons_zero, List.getD_cons_succ, List.set_cons_zero, List.set_cons_succ]
  refine i_att0 hv fun t1 => i_eqs false (i_f fun t2 => i_eqs false (i_f fun t3 => i_eqs false (i_f fun t4 => i_eqs true (i_t (i_t ?_)))))
  refine i_call (c_whole_subscripts hv) fun v D' l e => ?_
  obtain ⟨rfl, rfl⟩ := e
  refine i_call (c_whole_places hl hb hi hp) fun v D' l e => ?_
  refine hid fun gg hgg => ?_
  obtain ⟨p, out, rfl, h1, h2, h3⟩ := e
  refine hgg ?_
  clear hgg gg
  refine ⟨by simp, fun a ha => ⟨l.trans (DM.le_put ha), a, p, out, rfl, DM.put_same .., h1, h2.le (DM.le_put ha), h3⟩⟩
end contracts
end Mine

namespace Mine

section contracts
variable {b : Bx} {D : DM}

theorem c_kept0 {x : Addr} {kd it : Value} (hv : VecAt D x kd it .none) : Calls (GG b) 31 398 [.ref x] D fun v D' => D.le D' ∧ (v = .none ∧ D' = D) := by
  refine enterG (n := 0) (vs := [_]) (V := [some _, none, none]) ck_kept_attrs factsT bd_kept_attrs ?_
  dsimp only [sm_kept_attrs, wpSs, wpS, wpE, wpEs, wpT, wpOr, wpAnd, List.getD_cons_zero, List.getD_cons_succ, List.set_cons_zero, List.set_cons_succ]
  exact i_att2 hv (i_is_none (i_t ⟨DM.le.refl _, rfl, rfl⟩))

theorem c_kept1 {x da lv cl : Addr} {kd it : Value} (hv : VecAt D x kd it (.ref da)) (hda : D da = some (.ds [(Str.ofString "levels", .ref lv), (Str.ofString "class", .ref cl)])) :
    Calls (GG b) 31 398 [.ref x] D fun v D' => D.le D' ∧ ∃ kp, v = .ref kp ∧ D' kp = some (.ds [(Str.ofString "levels", .ref lv), (Str.ofString "class", .ref cl)]) := by
  refine enterG (n := 0) (vs := [_]) (V := [some _, none, none]) ck_kept_attrs factsT bd_kept_attrs ?_
  dsimp only [sm_kept_attrs, wpSs, wpS, wpE, wpEs, wpT, wpOr, wpAnd, List.getD_cons_zero, List.getD_cons_succ, List.set_cons_zero, List.set_cons_succ]
  refine i_att2 hv (i_is_ref (i_f fun kp hkp => i_att2 (hv.le (DM.le_put hkp)) ?_))
  refine hid fun gg hgg => ?_
  obtain ⟨d, u, w, hx, hd⟩ := hv
  refine hgg ?_
  clear hgg gg
  generalize hkv : [(Str.ofString "levels", Value.ref lv), (Str.ofString "class", Value.ref cl)] = kvs at *
  have n1 : x ≠ da := fun q => by rw [q, hda] at hx; cases hx
  have n2 : d ≠ da := fun q => by rw [q, hda] at hd; cases hd
  have n3 : kp ≠ da := fun q => by rw [q, hda] at hkp; cases hkp
  have hst : ∀ i s u, kvs[i]? = some (s, u) → stored (kvs.take i) s u = kvs.take (i + 1) ∧ valueAt kvs s = some u ∧ ((s == Str.ofString "names") = false ∧ (s == Str.ofString "dim") = false ∧ (s == Str.ofString "dimnames") = false) := by
    subst hkv
    intro i s u h
    match i with
    | 0 => simp at h; obtain ⟨rfl, rfl⟩ := h; refine ⟨rfl, rfl, by decide⟩
    | 1 => simp at h; obtain ⟨rfl, rfl⟩ := h; refine ⟨rfl, rfl, by decide⟩
    | (k + 2) => simp at h
  refine i_for2 (kvs := kvs) (by rw [DM.put_ne _ _ (Ne.symm n3)]; exact hda) (by subst hkv; simp [big])
    (fun ep i V' D' => ∃ o, V' = [some (.ref x), some (.ref kp), o] ∧ (∀ q c, q ≠ da → D q = some c → D' q = some c) ∧ D' da = some (.dse kvs ep) ∧ D' kp = some (.ds (kvs.take i)))
    (fun ep => ⟨none, rfl, fun q c h1 h2 => by rw [DM.put_ne _ _ h1]; exact DM.le_put hkp _ _ h2, DM.put_same .., by rw [DM.put_ne _ _ n3]; exact DM.put_same ..⟩) (fun ep i V' D' h => by obtain ⟨o, _, _, h, _⟩ := h; exact h) (fun ep i V' D' s u t hi h => ?_) fun ep V' D' h => ?_
  · refine hid fun gg hgg => ?_
    obtain ⟨o, rfl, h1, h2, h3⟩ := h
    refine hgg ?_
    clear hgg gg
    refine hid fun gg hgg => ?_
    obtain ⟨q1, q2, q3, q4, q5⟩ := hst i s u hi
    refine hgg ?_
    clear hgg gg
    dsimp only [sl_kept_attrs_0, wpSs, wpS, wpE, wpEs, wpT, wpOr, wpAnd, List.getD_cons_zero, List.getD_cons_succ, List.set_cons_zero, List.set_cons_succ]
    intro t1 t2 t3
    refine ⟨by simp, fun a ha => ?_⟩
    have l2 := DM.le_put (c := .tup [.str (Str.ofString "names") t1, .str (Str.ofString "dim") t2, .str (Str.ofString "dimnames") t3]) ha
    refine ⟨true, .inr (.inl ⟨_, DM.put_same .., fun y hy => ?_, ?_⟩), i_t ?_⟩
    · simp only [List.mem_cons, List.not_mem_nil, or_false] at hy
      rcases hy with rfl | rfl | rfl <;> rfl
    · have flip : ∀ a b : Str, (a == b) = (b == a) := fun a b => by
        by_cases e : a = b
        · rw [e]
        · have e1 : (a == b) = false := by simpa using e
          have e2 : (b == a) = false := by simpa using Ne.symm e
          rw [e1, e2]
      simp only [List.any_cons, List.any_nil, aeq_ss, Option.getD_some, flip _ s, q3, q4, q5, Bool.or_self, Bool.not_true]
    · have hv' : VecAt (D'.put a (.tup [.str (Str.ofString "names") t1, .str (Str.ofString "dim") t2, .str (Str.ofString "dimnames") t3])) x kd it (.ref da) := ⟨d, _, w, l2 _ _ (h1 _ _ n1 hx), l2 _ _ (h1 _ _ n2 hd)⟩
      refine i_att2 hv' (i_item_sd ⟨_, l2 _ _ h2, rfl⟩ q2 ?_)
      refine .inr (.inl ⟨_, s, t, l2 _ _ h3, rfl, ?_, ?_⟩)
      · rw [List.length_take]
        subst hkv
        exact Nat.le_trans (Nat.min_le_right _ _) (by simp [big])
      · have hka : a ≠ kp := fun q => by rw [q, h3] at ha; cases ha
        have hda' : a ≠ da := fun q => by rw [q, h2] at ha; cases ha
        refine ⟨_, rfl, fun q c e1 e2 => ?_, ?_, ?_⟩
        · have : q ≠ kp := fun e => by rw [e, hkp] at e2; cases e2
          rw [DM.put_ne _ _ this]
          exact l2 _ _ (h1 q c e1 e2)
        · rw [DM.put_ne _ _ (Ne.symm n3)]; exact l2 _ _ h2
        · rw [q1]; exact DM.put_same ..
  · refine hid fun gg hgg => ?_
    obtain ⟨o, rfl, h1, h2, h3⟩ := h
    refine hgg ?_
    clear hgg gg
    dsimp only [wpSs, wpS, wpE, wpEs, wpT, wpOr, wpAnd, List.getD_cons_zero, List.getD_cons_succ, List.set_cons_zero, List.set_cons_succ]
    rw [List.take_length] at h3
    have h4 : (D'.put da (.ds kvs)) kp = some (.ds kvs) := by rw [DM.put_ne _ _ n3]; exact h3
    refine .inr (.inl ⟨kvs, ⟨_, h4, rfl⟩, by subst hkv; simp [big], fun t t1 => i_gt ?_⟩)
    have e : decide ((0 : Int) < (kvs.length : Int)) = true := by subst hkv; rfl
    rw [e]
    refine i_t ⟨fun q c e => ?_, kp, rfl, h4⟩
    by_cases hq : q = da
    · subst hq; rw [hda] at e; cases e; exact DM.put_same ..
    · rw [DM.put_ne _ _ hq]; exact h1 q c hq e

theorem c_kept {x : Addr} {kd it at_ : Value} {fa : Option (Addr × Addr × Addr × Addr)} (hv : VecAt D x kd it at_) (hf : FacAt D at_ fa) :
    Calls (GG b) 31 398 [.ref x] D fun v D' => D.le D' ∧ (FacAt D' v fa ∧ handedIn v = true) := by
  cases fa with
  | none =>
    have e : at_ = .none := hf
    subst e
    exact (c_kept0 hv).mono fun v D' h => ⟨h.1, by obtain ⟨_, rfl, rfl⟩ := h; exact ⟨rfl, rfl⟩⟩
  | some q =>
    refine hid fun gg hgg => ?_
    obtain ⟨lv, cl, li, ci⟩ := q
    refine hgg ?_
    clear hgg gg
    refine hid fun gg hgg => ?_
    obtain ⟨da, t1, t2, rfl, h1, h2, h3⟩ := hf
    refine hgg ?_
    clear hgg gg
    exact (c_kept1 hv h1).mono fun v D' h => ⟨h.1, by obtain ⟨l, kp, rfl, e⟩ := h; exact ⟨⟨kp, t1, t2, rfl, e, h2.le l, h3.le l⟩, rfl⟩⟩

/-- the items at the places -/
noncomputable def pickV (vs : List Value) (is : List Int) : List Value := is.map fun p => vs.getD p.toNat .none

theorem c_pick_items {x pl : Addr} {kd : Str} {vs ps : List Value} {is : List Int} {fa : Option (Addr × Addr × Addr × Addr)} (h : ColAt D x kd vs fa) (hp : L D pl ps) (hi : Ints ps is) (hlt : ∀ p ∈ is, 0 ≤ p ∧ p < vs.length) (hb : ps.length ≤ 1000) :
    Calls (GG b) 62 412 [.ref x, .ref pl] D fun v D' => D.le D' ∧ ∃ y, v = .ref y ∧ ColAt D' y kd (pickV vs is) fa := by
  refine hid fun gg hgg => ?_
  obtain ⟨hk, hvb, il, t, at_, hv, hil, hf⟩ := h
  refine hgg ?_
  clear hgg gg
  refine enterG (n := 31) (vs := [_, _]) (V := [some _, some _, none, none, none]) ck_pick_items factsT bd_pick_items ?_
  dsimp only [sm_pick_items, wpSs, wpS, wpE, wpEs, wpT, wpOr, wpAnd, List.getD_cons_zero, List.getD_cons_succ, List.set_cons_zero, List.set_cons_succ]
  refine ⟨by simp, fun it hit => i_att1 (hv.le (DM.le_put hit)) (i_len (hil.le (DM.le_put hit)) hvb fun tc => ?_)⟩
  have isl : is.length ≤ 1000 := hi.1 ▸ hb
  refine i_for0 (vs := ps) (hp.le (DM.le_put hit)).ls (Nat.le_trans hb (by decide))
    (fun i V' D' => ∃ o, V' = [some (.ref x), some (.ref pl), some (.ref it), some (.int vs.length tc), o] ∧ D.le D' ∧ D' it = some (.lst (pickV vs (is.take i))))
    ⟨none, rfl, DM.le_put hit, DM.put_same ..⟩ (fun i V' D' h => by obtain ⟨o, rfl, l1, _⟩ := h; exact (hp.le l1).ls) (fun i V' D' v hpv h => ?_) fun V' D' h => ?_
  · refine hid fun gg hgg => ?_
    obtain ⟨o, rfl, l1, h1⟩ := h
    refine hgg ?_
    clear hgg gg
    refine hid fun gg hgg => ?_
    obtain ⟨j, tj, e1, rfl⟩ := hi.of hpv
    refine hgg ?_
    clear hgg gg
    obtain ⟨j0, j1⟩ := hlt j (List.mem_of_getElem? e1)
    dsimp only [sl_pick_items_0, wpSs, wpS, wpE, wpEs, wpT, wpOr, wpAnd, List.getD_cons_zero, List.getD_cons_succ, List.set_cons_zero, List.set_cons_succ]
    refine i_is_int (i_f (i_ge ?_))
    rw [decide_eq_false (by omega)]
    have hlen : (pickV vs (is.take i)).length ≤ big := by
      unfold pickV
      rw [List.length_map, List.length_take]
      exact Nat.le_trans (Nat.min_le_right _ _) (Nat.le_trans isl (by decide))
    have hj : j.toNat < vs.length := by omega
    refine i_f (i_f ⟨it, _, rfl, h1, i_att1 (hv.le l1) (i_item_l (v := vs[j.toNat]) (hil.le l1) hvb j0 (by simp [hj]) ⟨_, h1, hlen, ?_⟩)⟩)
    refine ⟨_, rfl, DM.le_mut hit l1, ?_⟩
    rw [DM.put_same, take_snoc e1]
    unfold pickV
    simp [hj]
  · refine hid fun gg hgg => ?_
    obtain ⟨o, rfl, l1, h1⟩ := h
    refine hgg ?_
    clear hgg gg
    dsimp only [wpSs, wpS, wpE, wpEs, wpT, wpOr, wpAnd, List.getD_cons_zero, List.getD_cons_succ, List.set_cons_zero, List.set_cons_succ]
    rw [hi.1, List.take_length] at h1
    refine i_att0 (hv.le l1) (i_call (c_kept (hv.le l1) (hf.le l1)) fun v D2 l2 hk2 => i_vec3 rfl rfl hk2.2 fun y D3 hy l3 hv3 => ?_)
    exact ⟨(l1.trans l2).trans l3, y, rfl, hk, by unfold pickV; rw [List.length_map]; exact Nat.le_trans isl (by decide), it, t, v, hv3, (L.at_ h1).le (l2.trans l3), hk2.1.le l3⟩

/-- columns in a row -/
structure ColD where
  kd : Str
  vs : List Value
  fa : Option (Addr × Addr × Addr × Addr)
noncomputable def ColsAt (D : DM) (cs : List Value) (cols : List ColD) : Prop := cs.length = cols.length ∧ ∀ (i : Nat) (c : ColD), cols[i]? = some c → ∃ x, cs[i]? = some (.ref x) ∧ ColAt D x c.kd c.vs c.fa
theorem ColsAt.le {D D' : DM} {cs : List Value} {cols : List ColD} (h : ColsAt D cs cols) (l : D.le D') : ColsAt D' cs cols :=
  ⟨h.1, fun i c e => by obtain ⟨x, e1, e2⟩ := h.2 i c e; exact ⟨x, e1, e2.le l⟩⟩
theorem ColsAt.of {D : DM} {cs : List Value} {cols : List ColD} (h : ColsAt D cs cols) {i : Nat} {v : Value} (hv : cs[i]? = some v) : ∃ x c, v = .ref x ∧ cols[i]? = some c ∧ ColAt D x c.kd c.vs c.fa := by
  have hi := (List.getElem?_eq_some_iff.mp hv).1
  rw [h.1] at hi
  obtain ⟨x, e1, e2⟩ := h.2 i cols[i] (by simp [hi])
  rw [hv] at e1
  exact ⟨x, cols[i], Option.some.inj e1, by simp [hi], e2⟩
theorem ColsAt.mk' {D : DM} {cs : List Value} {cols : List ColD} (h1 : cs.length = cols.length) (h2 : ∀ (i : Nat) (v : Value), cs[i]? = some v → ∃ x c, v = .ref x ∧ cols[i]? = some c ∧ ColAt D x c.kd c.vs c.fa) : ColsAt D cs cols := by
  refine ⟨h1, fun i c hc => ?_⟩
  have hi := (List.getElem?_eq_some_iff.mp hc).1
  rw [← h1] at hi
  refine hid fun gg hgg => ?_
  obtain ⟨x, c', e1, e2, e3⟩ := h2 i cs[i] (by simp [hi])
  refine hgg ?_
  clear hgg gg
  rw [hc] at e2
  cases e2
  exact ⟨x, by simp [hi, e1], e3⟩

theorem i_vec2' {n : Nat} {kd it : Value} {k : Value → DM → Prop} (e1 : handedIn kd = true) (e2 : handedIn it = true) (h : ∀ x d D', D x = none → D d = none → D.le D' → D' x = some (.ins d) → D' d = some (.vdc [kd, it, .none, .bool false, .bool false]) → k (.ref x) D') : callR (GG b) n .vec [kd, it] D k :=
  ⟨e1, e2, fun x d hx hd hne => h x d _ hx hd (fun q c e => by
    have h1 : q ≠ x := DM.ne_of hx e
    have h2 : q ≠ d := DM.ne_of hd e
    rw [DM.put_ne _ _ h1, DM.put_ne _ _ h2]; exact e) (DM.put_same ..) (by rw [DM.put_ne _ _ (Ne.symm hne)]; exact DM.put_same ..)⟩
theorem VecAt.put {x d : Addr} {kd it at_ kd' : Value} {r : List Value} {c : Cel} (h : VecAt D x kd it at_) (hd : D d = some (.vdc (kd' :: r))) (hk : kd ≠ kd') : VecAt (D.put d c) x kd it at_ := by
  refine hid fun gg hgg => ?_
  obtain ⟨d', u, w, h1, h2⟩ := h
  refine hgg ?_
  clear hgg gg
  have n1 : x ≠ d := fun q => by rw [q, hd] at h1; cases h1
  have n2 : d' ≠ d := fun q => by rw [q, hd] at h2; cases h2; exact hk rfl
  exact ⟨d', u, w, by rw [DM.put_ne _ _ n1]; exact h1, by rw [DM.put_ne _ _ n2]; exact h2⟩
theorem L.put {l d : Addr} {vs fs : List Value} {c : Cel} (h : L D l vs) (hd : D d = some (.vdc fs)) : L (D.put d c) l vs := by
  have n1 : l ≠ d := fun q => by have h' : D l = _ := h; rw [q, hd] at h'; cases h'
  show (D.put d c) l = _
  rw [DM.put_ne _ _ n1]; exact h
theorem kCL : kC ≠ kL := by decide
theorem kIL : kI ≠ kL := by decide

theorem c_new_frame {cl nl rv rl : Addr} {cs nms ls : List Value} {cols : List ColD} {lk : Str} {t : Tok} (hcl : L D cl cs) (hc : ColsAt D cs cols) (hn : L D nl nms) (hr : VecAt D rv (.str lk t) (.ref rl) .none) (hl : L D rl ls)
    (b1 : cs.length ≤ 1000) (b2 : nms.length ≤ 1000) (b3 : ls.length ≤ 1000) : Calls (GG b) 62 365 [.ref cl, .ref nl, .ref rv] D fun v D' => D.le D' ∧ ∃ f, v = .ref f ∧ FrameAt D' f cs nms lk ls := by
  have hbig : 1000 ≤ big := by decide
  refine enterG (n := 31) (vs := [_, _, _]) (V := [some _, some _, some _, none, none]) ck_new_frame factsT bd_new_frame ?_
  dsimp only [sm_new_frame, wpSs, wpS, wpE, wpEs, wpT, wpOr, wpAnd, List.getD_cons_zero, List.getD_cons_succ, List.set_cons_zero, List.set_cons_succ]
  intro t0
  refine i_comp0 hcl (Nat.le_trans b1 hbig) (fun i y D' => cs[i]? = some y) (fun i y D' D'' _ h => h) (fun i v D' kk l hv hk => ?_) fun a out D1 ha ha1 l1 h1 h2 h3 => ?_
  · dsimp only [sb_new_frame_0, wpE, wpEs, List.getD_cons_zero, List.getD_cons_succ, List.set_cons_zero, List.set_cons_succ]
    refine hid fun gg hgg => ?_
    obtain ⟨x, c, rfl, e1, _, _, il, tt, at_, e2, _⟩ := hc.of hv
    refine hgg ?_
    clear hgg gg
    refine i_call (c_share (e2.le l)) fun v D2 l2 e => ?_
    obtain ⟨rfl, rfl⟩ := e
    exact hk _ _ l2 hv
  · have eo : out = cs := List.ext_getElem? fun i => by
      cases e : out[i]? with
      | some y => exact (h3 i y e).symm
      | none =>
        have h4 := List.getElem?_eq_none_iff.mp e
        exact (List.getElem?_eq_none_iff.mpr (by omega)).symm
    subst eo
    generalize D1.put a (.lst out) = D2 at *
    refine i_vec2' rfl rfl fun f d D3 hf hd l3 q1 q2 => ?_
    refine i_call (c_character (hn.le (l1.trans l3)) (Nat.le_trans b2 hbig)) fun v D4 l4 e => ?_
    refine hid fun gg hgg => ?_
    obtain ⟨nv, ni, t1, rfl, hnv, v4, n4⟩ := e
    refine hgg ?_
    clear hgg gg
    intro t2
    refine ⟨by simp, fun a2 ha2 => i_call (c_character (DM.put_same ..) (by simp [big])) fun v D5 l5 e => ?_⟩
    refine hid fun gg hgg => ?_
    obtain ⟨cv, ci, t3, rfl, hcv, v5, n5⟩ := e
    refine hgg ?_
    clear hgg gg
    have l45 := (DM.le_put ha2).trans l5
    refine ⟨rfl, fun da hda => ?_⟩
    have l6 := DM.le_put (c := .ds (([ "names", "class", "row.names"].map Str.ofString).zip [.ref nv, .ref cv, .ref rv])) hda
    have l36 : D3.le _ := (l4.trans l45).trans l6
    refine ⟨f, d, _, rfl, l36 _ _ q1, l36 _ _ q2, by simp, rfl, ?_⟩
    have eda := DM.put_same D5 da (.ds (([ "names", "class", "row.names"].map Str.ofString).zip [.ref nv, .ref cv, .ref rv]))
    generalize D5.put da _ = D6 at *
    have q16 := l36 _ _ q1
    have q26 := l36 _ _ q2
    have lm : ∀ c, D2.le (D6.put d c) := fun c => DM.le_mut hd (l3.trans l36)
    have nda : da ≠ d := fun q => by rw [q, q26] at eda; cases eda
    have nf : f ≠ d := fun q => by rw [q, q26] at q16; cases q16
    have kne : ∀ t t', Value.str kC t ≠ Value.str kL t' := fun t t' h => by injection h with h1 _; exact kCL h1
    refine ⟨l1.trans (lm _), f, rfl, a, da, nv, ni, cv, ci, rv, rl, t0, t1, t3, t, t2, ?_⟩
    exact ⟨⟨d, _, _, by rw [DM.put_ne _ _ nf]; exact q16, DM.put_same ..⟩, h1.le (lm _), by rw [DM.put_ne _ _ nda]; exact eda, (v4.le (l45.trans l6)).put q26 (kne _ _), (n4.le (l45.trans l6)).put q26, (v5.le l6).put q26 (kne _ _), (n5.le l6).put q26,
      hr.le (l1.trans (lm _)), hl.le (l1.trans (lm _)), Nat.le_trans b1 hbig, Nat.le_trans b2 hbig, Nat.le_trans b3 hbig⟩
end contracts
end Mine

namespace Mine

theorem valueAt_nil {K : Type} [DecidableEq K] (z : K) : valueAt ([] : List (K × Value)) z = none := rfl
theorem valueAt_stored' {K : Type} [DecidableEq K] (kvs : List (K × Value)) (x z : K) (v : Value) : valueAt (stored kvs x v) z = if z = x then some v else valueAt kvs z := by
  unfold valueAt stored
  split
  · rename_i hx
    induction kvs with
    | nil => simp at hx
    | cons q r ih =>
      obtain ⟨a, u⟩ := q
      by_cases ha : a = x
      · subst ha
        by_cases hz : z = a
        · subst hz; simp
        · have hz' : ¬ a = z := fun e => hz e.symm
          simp only [List.map_cons, List.find?_cons, hz, if_false]
          simp only [if_true, hz', decide_false]
          congr 1
          clear ih hx
          induction r with
          | nil => rfl
          | cons q2 r2 ih2 =>
            obtain ⟨a2, u2⟩ := q2
            by_cases h2 : a2 = a
            · subst h2; simp [hz', ih2]
            · by_cases h3 : a2 = z
              · subst h3; simp [h2]
              · simp [h2, h3, ih2]
      · by_cases hz : a = z
        · subst hz
          simp [ha]
        · by_cases hr : ∃ kv ∈ r, kv.1 = x
          · have := ih (by simpa using hr)
            simp only [List.map_cons, List.find?_cons, ha, if_false, hz, decide_false]
            exact this
          · simp [ha] at hx
            exact absurd (by obtain ⟨p, hp⟩ := hx; exact ⟨_, hp, rfl⟩) hr
  · rename_i hx
    rw [List.find?_append]
    by_cases hz : z = x
    · subst hz
      have : kvs.find? (fun kv => kv.1 = z) = none := by
        rw [List.find?_eq_none]
        intro p hp e
        exact hx (by simp at e ⊢; exact ⟨p.2, by rw [← e]; exact hp⟩)
      simp [this]
    · cases e : kvs.find? (fun kv => kv.1 = z) with
      | some p => simp [hz]
      | none => simp [hz, Ne.symm hz]

noncomputable def upto (lo : Int) (m : Nat) : List Int := (List.range m).map fun (i : Nat) => lo + (i : Int)
theorem upto_get {lo : Int} {m i : Nat} {z : Int} (h : (upto lo m)[i]? = some z) : i < m ∧ z = lo + i := by
  unfold upto at h
  rw [List.getElem?_map] at h
  obtain ⟨j, hj, rfl⟩ := Option.map_eq_some_iff.mp h
  obtain ⟨h1, h2⟩ := List.getElem?_eq_some_iff.mp hj
  simp at h1 h2
  subst h2
  exact ⟨h1, rfl⟩
theorem upto_len (lo : Int) (m : Nat) : (upto lo m).length = m := by simp [upto]
theorem upto_mem {lo : Int} {m : Nat} {z : Int} (h : z ∈ upto lo m) : lo ≤ z ∧ z < lo + m := by
  unfold upto at h
  obtain ⟨j, hj, rfl⟩ := List.mem_map.mp h
  simp at hj
  omega
theorem ups_ints {lo : Int} {m : Nat} {vs : List Value} (h1 : vs.length = m) (h2 : Ups lo vs) : Ints vs (upto lo m) := by
  refine ⟨by rw [upto_len]; exact h1, fun i s hs => ?_⟩
  obtain ⟨hi, rfl⟩ := upto_get hs
  rw [← h1] at hi
  obtain ⟨t, e⟩ := h2 i vs[i] (by simp [hi])
  exact ⟨t, by simp [hi, e]⟩

section intro
variable {b : Bx} {n : Nat} {D : DM}
theorem i_range2 {lo hi : Int} {t u : Tok} {k : Value → DM → Prop} (h1 : -1000 < lo) (h2 : lo < 1000) (h3 : -1000 < hi) (h4 : hi < 1000) (h : ∀ a, D a = none → k (.ref a) (D.put a (.rng lo hi))) : callR (GG b) n .range [.int lo t, .int hi u] D k := ⟨by omega, by omega, by omega, by omega, h⟩
theorem i_range1 {hi : Int} {u : Tok} {k : Value → DM → Prop} (h3 : -1000 < hi) (h4 : hi < 1000) (h : ∀ a, D a = none → k (.ref a) (D.put a (.rng 0 hi))) : callR (GG b) n .range [.int hi u] D k := ⟨by omega, by omega, h⟩
theorem i_list_rng {l : Addr} {lo hi : Int} {k : Value → DM → Prop} (hl : D l = some (.rng lo hi)) (hb : (hi - lo).toNat ≤ 1000) (h : ∀ a vs, D a = none → Ints vs (upto lo (hi - lo).toNat) → k (.ref a) (D.put a (.lst vs))) : callR (GG b) n .list [.ref l] D k :=
  .inr ⟨lo, hi, hl, Nat.le_trans hb (by decide), fun a vs ha h1 h2 => h a vs ha (ups_ints h1 h2)⟩
end intro

noncomputable def DM.del (D : DM) (a : Addr) : DM := fun q => if q = a then none else D q
theorem DM.del_same (D : DM) (a : Addr) : D.del a a = none := by simp [DM.del]
theorem DM.del_ne (D : DM) {a q : Addr} (h : q ≠ a) : D.del a q = D q := by simp [DM.del, h]
theorem DM.del_le (D : DM) (a : Addr) : (D.del a).le D := fun q c e => by
  by_cases h : q = a
  · subst h; rw [DM.del_same] at e; cases e
  · rwa [DM.del_ne _ h] at e
theorem DM.del_put (D : DM) (a : Addr) (c : Cel) : (D.put a c).del a = D.del a := by
  funext q
  by_cases h : q = a
  · subst h; rw [DM.del_same, DM.del_same]
  · rw [DM.del_ne _ h, DM.del_ne _ h, DM.put_ne _ _ h]
theorem DM.le_del {D D' : DM} {a : Addr} (l : D.le D') (h : D a = none) : D.le (D'.del a) := fun q c e => by
  have : q ≠ a := DM.ne_of h e
  rw [DM.del_ne _ this]; exact l q c e
theorem DM.del_mono {D D' : DM} {a : Addr} (l : D.le D') : (D.del a).le (D'.del a) := fun q c e => by
  by_cases h : q = a
  · subst h; rw [DM.del_same] at e; cases e
  · rw [DM.del_ne _ h] at e ⊢; exact l q c e
theorem VecAt.del {D : DM} {x a : Addr} {kd it at_ : Value} {vs : List Value} (h : VecAt D x kd it at_) (ha : D a = some (.lst vs)) : VecAt (D.del a) x kd it at_ := by
  refine hid fun gg hgg => ?_
  obtain ⟨d, u, w, h1, h2⟩ := h
  refine hgg ?_
  clear hgg gg
  exact ⟨d, u, w, by rw [DM.del_ne _ (fun q => by rw [q, ha] at h1; cases h1)]; exact h1, by rw [DM.del_ne _ (fun q => by rw [q, ha] at h2; cases h2)]; exact h2⟩
theorem FacAt.del {D : DM} {a : Addr} {at_ : Value} {vs : List Value} {fa : Option (Addr × Addr × Addr × Addr)} (h : FacAt D at_ fa) (ha : D a = some (.lst vs)) : FacAt (D.del a) at_ fa := by
  cases fa with
  | none => exact h
  | some q => obtain ⟨da, t1, t2, e, h1, h2, h3⟩ := h; exact ⟨da, t1, t2, e, by rw [DM.del_ne _ (fun q => by rw [q, ha] at h1; cases h1)]; exact h1, h2.del ha, h3.del ha⟩

section contracts
variable {b : Bx} {D : DM}

theorem c_plain_rows {m : Nat} {t : Tok} (hm : m ≤ 900) : Calls (GG b) 62 372 [.int m t] D fun v D' => D.le D' ∧ ∃ x i t' vs, v = .ref x ∧ VecAt D' x (.str kI t') (.ref i) .none ∧ L D' i vs ∧ Ints vs (upto 1 m) := by
  refine enterG (n := 31) (vs := [_]) (V := [some _]) ck_plain_rows factsT bd_plain_rows ?_
  dsimp only [sm_plain_rows, wpSs, wpS, wpE, wpEs, wpT, wpOr, wpAnd, List.getD_cons_zero, List.getD_cons_succ, List.set_cons_zero, List.set_cons_succ]
  intro t1 t2 t3
  refine i_range2 (by decide) (by decide) (by omega) (by omega) fun a ha => i_list_rng (DM.put_same ..) (by omega) fun a2 vs ha2 hv => ?_
  have l1 := (DM.le_put (c := .rng 1 ((m : Int) + 1)) ha).trans (DM.le_put (c := .lst vs) ha2)
  have e : ((m : Int) + 1 - 1).toNat = m := by omega
  rw [e] at hv
  refine i_call (c_integer (DM.put_same ..) (by rw [hv.1, upto_len]; exact Nat.le_trans hm (by decide))) fun v D' l h => ?_
  refine hid fun gg hgg => ?_
  obtain ⟨x, i, t', rfl, _, h1, h2⟩ := h
  refine hgg ?_
  clear hgg gg
  exact ⟨l1.trans l, x, i, t', vs, rfl, h1, h2, hv⟩

theorem c_column_names {f : Addr} {cs nms : List Value} {lk : Str} {ls : List Value} {ss : List Str} (h : FrameAt D f cs nms lk ls) (hs : Strs nms ss) : Calls (GG b) 124 384 [.ref f] D fun v D' => D.le D' ∧ ∃ a, v = .ref a ∧ D a = none ∧ L D' a nms := by
  refine enterG (n := 93) (vs := [_]) (V := [some _, none, none]) ck_column_names factsT bd_column_names ?_
  dsimp only [sm_column_names, wpSs, wpS, wpE, wpEs, wpT, wpOr, wpAnd, List.getD_cons_zero, List.getD_cons_succ, List.set_cons_zero, List.set_cons_succ]
  have hb : nms.length ≤ big := by obtain ⟨il, da, nv, nl, cv, cl, rv, rl, t, t1, t2, t3, t4, X⟩ := h; exact X.nb
  refine i_call (c_names_frame h) fun v D' l e => ?_
  refine hid fun gg hgg => ?_
  obtain ⟨a, rfl, ha, h1⟩ := e
  refine hgg ?_
  clear hgg gg
  refine i_is_ref (i_f ?_)
  refine i_comp0 h1 hb (fun i y D' => nms[i]? = some y) (fun i y D' D'' _ h => h) (fun i v D2 kk l2 hv hk => ?_) fun a2 out D2 ha2 ha3 l2 h3 h4 h5 => ?_
  · dsimp only [sb_column_names_0, wpE, wpEs, wpT, List.getD_cons_zero, List.getD_cons_succ, List.set_cons_zero, List.set_cons_succ]
    refine hid fun gg hgg => ?_
    obtain ⟨s, t, e1, rfl⟩ := hs.of hv
    refine hgg ?_
    clear hgg gg
    exact i_is_str (i_f (hk _ _ (DM.le.refl _) hv))
  · have eo : out = nms := List.ext_getElem? fun i => by
      cases e : out[i]? with
      | some y => exact (h5 i y e).symm
      | none =>
        have h6 := List.getElem?_eq_none_iff.mp e
        exact (List.getElem?_eq_none_iff.mpr (by omega)).symm
    subst eo
    exact ⟨l.trans l2, a2, rfl, none_of l ha2, h3⟩

theorem c_row_names {f : Addr} {cs nms : List Value} {lk : Str} {ls : List Value} {ss : List Str} (h : FrameAt D f cs nms lk ls) (hs : LabAt lk ls ss) : Calls (GG b) 93 391 [.ref f] D fun v D' => D.le D' ∧ ∃ a out, v = .ref a ∧ D a = none ∧ L D' a out ∧ Strs out ss := by
  refine enterG (n := 62) (vs := [_]) (V := [some _]) ck_row_names factsT bd_row_names ?_
  dsimp only [sm_row_names, wpSs, wpS, wpE, wpEs, wpT, wpOr, wpAnd, List.getD_cons_zero, List.getD_cons_succ, List.set_cons_zero, List.set_cons_succ]
  refine i_call (c_frame_rows h) fun v D' l e => ?_
  obtain ⟨⟨t, rfl⟩, rfl⟩ := e
  intro t0
  refine i_eq (r := decide (ls.length = 0)) (by
    show some ((ls.length : Int) == 0) = _
    by_cases e : ls.length = 0 <;> simp [e]) ?_
  by_cases e : ls.length = 0
  · rw [decide_eq_true e]
    refine i_t ⟨by simp, fun a ha => ⟨DM.le_put ha, a, [], rfl, ha, DM.put_same .., ?_⟩⟩
    have : ss = [] := List.length_eq_zero_iff.mp (by rw [← hs.len]; exact e)
    rw [this]; exact Strs.nil
  · rw [decide_eq_false e]
    refine hid fun gg hgg => ?_
    obtain ⟨il, da, nv, nl, cv, cl, rv, rl, t, t1, t2, t3, t4, X⟩ := h
    refine hgg ?_
    clear hgg gg
    refine i_f (i_att2 X.v fun t => i_item_sd (frX_row X) (v := .ref rv) (by rfl) ?_)
    exact (c_label_texts X.rv X.rl X.rb hs).le (by decide)

theorem c_check_rows {x rl : Addr} {t t' : Tok} {ls : List Value} {is : List Int} (hv : VecAt D x (.str kI t) (.ref rl) .none) (hl : L D rl ls) (hi : Ints ls is) (hb : ls.length ≤ 1000) (hn : is.Nodup) :
    Calls (GG b) 31 445 [.ref x, .int ls.length t'] D fun v D' => D.le D' ∧ True := by
  refine enterG (n := 0) (vs := [_, _]) (V := [some _, some _, none, none]) ck_check_row_labels factsT bd_check_row_labels ?_
  dsimp only [sm_check_row_labels, wpSs, wpS, wpE, wpEs, wpT, wpOr, wpAnd, List.getD_cons_zero, List.getD_cons_succ, List.set_cons_zero, List.set_cons_succ]
  have hbig : ls.length ≤ big := Nat.le_trans hb (by decide)
  refine i_att1 hv (i_len hl hbig fun t1 => i_ne (r := true) (by simp [aeq_ii, aeq_ss]) (i_f fun sp hsp => i_att1 (hv.le (DM.le_put hsp)) ?_))
  refine i_for0 (vs := ls) (hl.le (DM.le_put hsp)).ls hbig
    (fun i V' D' => ∃ o kvs, V' = [some (.ref x), some (.int ls.length t'), some (.ref sp), o] ∧ D.le D' ∧ D' sp = some (.di kvs) ∧ kvs.length ≤ i ∧ ∀ z, (valueAt kvs z).isSome = true → z ∈ is.take i)
    ⟨none, [], rfl, DM.le_put hsp, DM.put_same .., Nat.le_refl _, fun z h => by cases h⟩ (fun i V' D' h => by obtain ⟨o, kvs, rfl, l1, _⟩ := h; exact (hl.le l1).ls) (fun i V' D' v hv' h => ?_) fun V' D' h => ?_
  · refine hid fun gg hgg => ?_
    obtain ⟨o, kvs, rfl, l1, h1, h2, h3⟩ := h
    refine hgg ?_
    clear hgg gg
    refine hid fun gg hgg => ?_
    obtain ⟨j, tj, e1, rfl⟩ := hi.of hv'
    refine hgg ?_
    clear hgg gg
    dsimp only [sl_check_row_labels_0, wpSs, wpS, wpE, wpEs, wpT, wpOr, wpAnd, List.getD_cons_zero, List.getD_cons_succ, List.set_cons_zero, List.set_cons_succ]
    have hj : (valueAt kvs j).isSome = false := by
      cases e : (valueAt kvs j).isSome with
      | false => rfl
      | true =>
        have hm := h3 j e
        obtain ⟨q, hq⟩ := List.mem_iff_getElem?.mp hm
        rw [List.getElem?_take] at hq
        split at hq
        · rename_i hlt
          have := (List.getElem?_inj (List.getElem?_eq_some_iff.mp hq).1 hn).mp (hq.trans e1.symm)
          omega
        · cases hq
    refine i_is_int (i_f (i_in_di h1 ?_))
    rw [hj]
    have hi' : i < ls.length := (List.getElem?_eq_some_iff.mp hv').1
    refine i_f (.inr (.inr ⟨kvs, j, tj, h1, rfl, by omega, ?_⟩))
    refine ⟨_, _, rfl, DM.le_mut hsp l1, DM.put_same .., ?_, fun z hz => ?_⟩
    · exact Nat.le_trans (stored_length_le ..) (by omega)
    · rw [valueAt_stored'] at hz
      rw [take_snoc e1]
      by_cases e : z = j
      · subst e; simp
      · rw [if_neg e] at hz; exact List.mem_append_left _ (h3 z hz)
  · refine hid fun gg hgg => ?_
    obtain ⟨o, kvs, rfl, l1, _⟩ := h
    refine hgg ?_
    clear hgg gg
    exact ⟨l1, trivial⟩

theorem c_names_as_rows {cl : Addr} {cs : List Value} {cols : List ColD} {v1 : Value} (hl : L D cl cs) (hc : ColsAt D cs cols) (hb : cs.length ≤ 1000) : Calls (GG b) 124 431 [.ref cl, v1] D fun v D' => D.le D' ∧ (v = .none ∧ D' = D) := by
  refine enterG (n := 93) (vs := [_, _]) (V := [some _, some _, none, none, none, none]) ck_names_as_rows factsT bd_names_as_rows ?_
  dsimp only [sm_names_as_rows, wpSs, wpS, wpE, wpEs, wpT, wpOr, wpAnd, List.getD_cons_zero, List.getD_cons_succ, List.set_cons_zero, List.set_cons_succ]
  refine i_for0 (vs := cs) hl.ls (Nat.le_trans hb (by decide)) (fun i V' D' => ∃ o o2, V' = [some (.ref cl), some v1, o, o2, none, none] ∧ D' = D) ⟨none, none, rfl, rfl⟩ (fun i V' D' h => by obtain ⟨o, o2, _, rfl⟩ := h; exact hl.ls) (fun i V' D' v hv h => ?_) fun V' D' h => ?_
  · refine hid fun gg hgg => ?_
    obtain ⟨o, o2, rfl, rfl⟩ := h
    refine hgg ?_
    clear hgg gg
    refine hid fun gg hgg => ?_
    obtain ⟨x, c, rfl, e1, e2⟩ := hc.of hv
    refine hgg ?_
    clear hgg gg
    dsimp only [sl_names_as_rows_1, wpSs, wpS, wpE, wpEs, wpT, wpOr, wpAnd, List.getD_cons_zero, List.getD_cons_succ, List.set_cons_zero, List.set_cons_succ]
    refine i_call (c_names_col e2) fun v D2 l e => ?_
    obtain ⟨rfl, rfl⟩ := e
    exact i_isnot_none (i_f (i_f ⟨_, _, rfl, rfl⟩))
  · refine hid fun gg hgg => ?_
    obtain ⟨o, o2, rfl, rfl⟩ := h
    refine hgg ?_
    clear hgg gg
    exact ⟨DM.le.refl _, rfl, rfl⟩

theorem ColsAt.snoc {D : DM} {cs : List Value} {cols : List ColD} {x : Addr} {c : ColD} (h : ColsAt D cs cols) (hx : ColAt D x c.kd c.vs c.fa) : ColsAt D (cs ++ [.ref x]) (cols ++ [c]) := by
  refine ⟨by simp [h.1], fun i u hu => ?_⟩
  rw [List.getElem?_append] at hu ⊢
  split at hu
  · rename_i hi
    obtain ⟨x', e1, e2⟩ := h.2 i u hu
    rw [if_pos (by rw [h.1]; exact hi)]
    exact ⟨x', e1, e2⟩
  · rename_i hi
    rw [if_neg (by rw [h.1]; exact hi), h.1]
    have : i - cols.length = 0 := by
      have := (List.getElem?_eq_some_iff.mp hu).1
      simp at this
      omega
    rw [this] at hu ⊢
    cases hu
    exact ⟨x, rfl, hx⟩

theorem c_recycled {cl : Addr} {cs : List Value} {cols : List ColD} {r : Nat} {t : Tok} (hl : L D cl cs) (hc : ColsAt D cs cols) (hb : cs.length ≤ 1000) (hr : ∀ c ∈ cols, c.vs.length = r) :
    Calls (GG b) 62 424 [.ref cl, .int r t] D fun v D' => D.le D' ∧ ∃ a out, v = .ref a ∧ L D' a out ∧ ColsAt D' out cols := by
  refine enterG (n := 31) (vs := [_, _]) (V := [some _, some _, none, none, none, none]) ck_recycled_columns factsT bd_recycled_columns ?_
  dsimp only [sm_recycled_columns, wpSs, wpS, wpE, wpEs, wpT, wpOr, wpAnd, List.getD_cons_zero, List.getD_cons_succ, List.set_cons_zero, List.set_cons_succ]
  refine ⟨by simp, fun mp hmp => ?_⟩
  refine i_for0 (vs := cs) (hl.le (DM.le_put hmp)).ls (Nat.le_trans hb (by decide))
    (fun i V' D' => ∃ o1 o2 out, V' = [some (.ref cl), some (.int r t), some (.ref mp), o1, o2, none] ∧ D.le D' ∧ D' mp = some (.lst out) ∧ ColsAt (D'.del mp) out (cols.take i))
    ⟨none, none, [], rfl, DM.le_put hmp, DM.put_same .., rfl, fun i c h => by simp at h⟩ (fun i V' D' h => by obtain ⟨o1, o2, out, rfl, l1, _⟩ := h; exact (hl.le l1).ls) (fun i V' D' v hv h => ?_) fun V' D' h => ?_
  · refine hid fun gg hgg => ?_
    obtain ⟨o1, o2, out, rfl, l1, h1, h2⟩ := h
    refine hgg ?_
    clear hgg gg
    refine hid fun gg hgg => ?_
    obtain ⟨x, c, rfl, e1, hcol⟩ := hc.of hv
    refine hgg ?_
    clear hgg gg
    refine hid fun gg hgg => ?_
    obtain ⟨hk, hvb, il, tt, at_, hv', hil, hf⟩ := hcol
    refine hgg ?_
    clear hgg gg
    dsimp only [sl_recycled_columns_1, wpSs, wpS, wpE, wpEs, wpT, wpOr, wpAnd, List.getD_cons_zero, List.getD_cons_succ, List.set_cons_zero, List.set_cons_succ]
    have er : c.vs.length = r := hr c (List.mem_of_getElem? e1)
    have olen : out.length ≤ big := by
      rw [h2.1, List.length_take]
      exact Nat.le_trans (Nat.min_le_right _ _) (by rw [← hc.1]; exact Nat.le_trans hb (by decide))
    have nil : il ≠ mp := DM.ne_of hmp hil
    refine i_att1 (hv'.le l1) (i_len (hil.le l1) hvb fun t1 => i_eq (r := true) (by simp [aeq_ii, er]) (i_t ⟨mp, out, rfl, h1, i_att0 (hv'.le l1) (i_att1 (hv'.le l1) ?_)⟩))
    refine i_call (c_kept (hv'.le l1) (hf.le l1)) fun u D2 l2 hk2 => i_vec3 rfl rfl hk2.2 fun y D3 hy l3 hv3 => ?_
    have h13 : D3 mp = some (.lst out) := (l2.trans l3) _ _ h1
    refine ⟨out, h13, olen, ?_⟩
    refine ⟨_, _, _, rfl, DM.le_mut hmp ((l1.trans l2).trans l3), DM.put_same .., ?_⟩
    rw [DM.del_put, take_snoc e1]
    refine (h2.le (DM.del_mono (l2.trans l3))).snoc ⟨hk, hvb, il, tt, u, hv3.del h13, ?_, (hk2.1.le l3).del h13⟩
    show (D3.del mp) il = _
    rw [DM.del_ne _ nil]
    exact (l1.trans (l2.trans l3)) _ _ hil
  · refine hid fun gg hgg => ?_
    obtain ⟨o1, o2, out, rfl, l1, h1, h2⟩ := h
    refine hgg ?_
    clear hgg gg
    rw [hc.1, List.take_length] at h2
    exact ⟨l1, mp, out, rfl, h1, h2.le (DM.del_le _ _)⟩

theorem upto_nodup (lo : Int) (m : Nat) : (upto lo m).Nodup := by
  unfold upto List.Nodup
  rw [List.pairwise_map]
  exact List.nodup_range.imp fun h e => h (by omega)

noncomputable def sq_make_frame_6 : Ss := .cons (.ret (.call (.own 365) (.cons (.v 5) (.cons (.v 1) (.cons (.v 2) .nil))))) .nil
noncomputable def sq_make_frame_5 : Ss := .cons (.ex (.call (.own 445) (.cons (.v 2) (.cons (.v 3) .nil)))) sq_make_frame_6
noncomputable def sq_make_frame_4 : Ss := .cons (.ite (.cmp .Is (.v 2) .none) (.cons (.set 6 (.call (.own 431) (.cons (.v 0) (.cons (.v 3) .nil)))) (.cons (.set 2 (.ite (.cmp .Is (.v 6) .none) (.call (.own 372) (.cons (.v 3) .nil)) (.call (.own 196) (.cons (.v 6) .nil)))) .nil)) .nil) sq_make_frame_5
noncomputable def sq_make_frame_3 : Ss := .cons (.set 5 (.call (.own 424) (.cons (.v 0) (.cons (.v 3) .nil)))) sq_make_frame_4
noncomputable def sq_make_frame_2 : Ss := .cons (.ite (.and (.cons (.cmp .IsNot (.v 2) .none) (.cons (.cmp .Eq (.call .len (.cons (.v 0) .nil)) (.int 0)) .nil))) (.cons (.set 3 (.call .len (.cons (.att (.v 2) 1) .nil))) .nil) .nil) sq_make_frame_3
noncomputable def sq_make_frame_1 : Ss := .cons (.for_ 0 4 (.v 0) sl_make_frame_0) sq_make_frame_2
noncomputable def sq_make_frame_0 : Ss := .cons (.set 3 (.int 0)) sq_make_frame_1
theorem c_make_frame {cl nl : Addr} {cs nms : List Value} {cols : List ColD} {r : Nat} (hl : L D cl cs) (hc : ColsAt D cs cols) (hn : L D nl nms) (hb : cs.length ≤ 900) (hb2 : nms.length ≤ 900) (h0 : 0 < cs.length) (hrb : r ≤ 900) (hr : ∀ c ∈ cols, c.vs.length = r) :
    Calls (GG b) 155 438 [.ref cl, .ref nl, .none] D fun v D' => D.le D' ∧ ∃ f cs' ls, v = .ref f ∧ FrameAt D' f cs' nms kI ls ∧ ColsAt D' cs' cols ∧ Ints ls (upto 1 r) := by
  refine enterG (n := 124) (vs := [_, _, _]) (V := [some _, some _, some _, none, none, none, none]) ck_make_frame factsT bd_make_frame ?_
  show wpSs _ _ sq_make_frame_0 _ _ _
  dsimp only [sq_make_frame_0, sq_make_frame_1, wpSs, wpS, wpE, wpEs, wpT, wpOr, wpAnd, List.getD_cons_zero, List.getD_cons_succ, List.set_cons_zero, List.set_cons_succ]
  intro t0
  refine i_for0 (vs := cs) hl.ls (Nat.le_trans hb (by decide)) (fun i V' D' => ∃ o t, V' = [some (.ref cl), some (.ref nl), some .none, some (.int (if i = 0 then 0 else r) t), o, none, none] ∧ D' = D) ⟨none, t0, rfl, rfl⟩ (fun i V' D' h => by obtain ⟨o, t, _, rfl⟩ := h; exact hl.ls) (fun i V' D' v hv h => ?_) fun V' D' h => ?_
  · refine hid fun gg hgg => ?_
    obtain ⟨o, t, rfl, rfl⟩ := h
    refine hgg ?_
    clear hgg gg
    refine hid fun gg hgg => ?_
    obtain ⟨x, c, rfl, e1, hk, hvb, il, tt, at_, hv', hil, hf⟩ := hc.of hv
    refine hgg ?_
    clear hgg gg
    dsimp only [sl_make_frame_0, wpSs, wpS, wpE, wpEs, wpT, wpOr, wpAnd, List.getD_cons_zero, List.getD_cons_succ, List.set_cons_zero, List.set_cons_succ]
    refine i_att1 hv' (i_len hil hvb fun t1 t2 => ⟨some (.ref x), t2, ?_, rfl⟩)
    have er : c.vs.length = r := hr c (List.mem_of_getElem? e1)
    have : max (if i = 0 then (0 : Int) else r) (c.vs.length : Int) = if i + 1 = 0 then (0 : Int) else (r : Int) := by rw [er]; split <;> simp
    rw [this]
  · refine hid fun gg hgg => ?_
    obtain ⟨o, t, rfl, rfl⟩ := h
    refine hgg ?_
    clear hgg gg
    rw [if_neg (by omega)]
    dsimp only [sq_make_frame_2, wpSs, wpS, wpE, wpEs, wpT, wpOr, wpAnd, List.getD_cons_zero, List.getD_cons_succ, List.set_cons_zero, List.set_cons_succ]
    refine i_isnot_none (i_f (i_f ?_))
    dsimp only [sq_make_frame_3, wpSs, wpS, wpE, wpEs, wpT, wpOr, wpAnd, List.getD_cons_zero, List.getD_cons_succ, List.set_cons_zero, List.set_cons_succ]
    refine i_call (c_recycled hl hc (by omega) hr) fun v D1 l1 e => ?_
    refine hid fun gg hgg => ?_
    obtain ⟨a, out, rfl, h1, h2⟩ := e
    refine hgg ?_
    clear hgg gg
    dsimp only [sq_make_frame_4, wpSs, wpS, wpE, wpEs, wpT, wpOr, wpAnd, List.getD_cons_zero, List.getD_cons_succ, List.set_cons_zero, List.set_cons_succ]
    refine i_is_none (i_t (i_call (c_names_as_rows (hl.le l1) (hc.le l1) (by omega)) fun v D2 l2 e => ?_))
    obtain ⟨rfl, rfl⟩ := e
    refine i_is_none (i_t (i_call (c_plain_rows hrb) fun v D3 l3 e => ?_))
    refine hid fun gg hgg => ?_
    obtain ⟨rv, rl, t', ls, rfl, h3, h4, h5⟩ := e
    refine hgg ?_
    clear hgg gg
    have elen : ls.length = r := by rw [h5.1, upto_len]
    rw [← elen]
    dsimp only [sq_make_frame_5, sq_make_frame_6, wpSs, wpS, wpE, wpEs, wpT, wpOr, wpAnd, List.getD_cons_zero, List.getD_cons_succ, List.set_cons_zero, List.set_cons_succ]
    refine i_call (c_check_rows h3 h4 h5 (by omega) (upto_nodup ..)) fun v D4 l4 _ => ?_
    refine i_call (c_new_frame (h1.le (l3.trans l4)) (h2.le (l3.trans l4)) (hn.le (l1.trans (l3.trans l4))) (h3.le l4) (h4.le l4) (by rw [h2.1, ← hc.1]; omega) (by omega) (by omega)) fun v D5 l5 e => ?_
    obtain ⟨f, rfl, h6⟩ := e
    exact ⟨(l1.trans (l3.trans l4)).trans l5, f, out, ls, rfl, h6, h2.le ((l3.trans l4).trans l5), by rw [← elen] at h5; exact h5⟩
end contracts
end Mine

namespace Mine

noncomputable def dot : Str := Str.ofString "."
/-- the label of the j-th row that is a copy of row a -/
noncomputable def lab (a j : Nat) : Str := if j = 0 then strI a else strI a ++ dot ++ strI j
noncomputable def enc (a j : Nat) : List Nat := if j = 0 then [48 + a] else [48 + a, 46, 48 + j]
theorem lab_enc : ∀ a : Fin 10, ∀ j : Fin 10, lab a.val j.val = ⟨(enc a.val j.val).toArray⟩ := by decide +kernel
theorem lab_inj {a b j k : Nat} (ha : a ≤ 9) (hb : b ≤ 9) (hj : j ≤ 9) (hk : k ≤ 9) (h : lab a j = lab b k) : a = b ∧ j = k := by
  have h1 := lab_enc ⟨a, by omega⟩ ⟨j, by omega⟩
  have h2 := lab_enc ⟨b, by omega⟩ ⟨k, by omega⟩
  simp only at h1 h2
  rw [h1, h2] at h
  injection h with h
  have h := congrArg Array.toList h
  simp only [enc] at h
  split at h <;> split at h <;> simp at h <;> omega
theorem strI_len : ∀ c : Fin 10, (strI c.val).length ≤ 10 := by decide +kernel
theorem strI_len' {c : Nat} (h : c ≤ 9) : (strI c).length ≤ 10 := strI_len ⟨c, by omega⟩
theorem lab_zero (a : Nat) : lab a 0 = strI a := rfl
theorem lab_succ (a j : Nat) : lab a (j + 1) = strI a ++ dot ++ strI ((j + 1 : Nat) : Int) := by simp [lab]

/-- the labels told: the later ones of one row with .1, .2 behind -/
noncomputable def labs (figs : List Nat) : List Str := (List.range figs.length).map fun i => lab (figs.getD i 0) ((figs.take i).count (figs.getD i 0))
theorem labs_len (figs : List Nat) : (labs figs).length = figs.length := by simp [labs]
theorem labs_get {figs : List Nat} {i a : Nat} (h : figs[i]? = some a) : (labs figs)[i]? = some (lab a ((figs.take i).count a)) := by
  have hi := (List.getElem?_eq_some_iff.mp h).1
  have e : figs.getD i 0 = a := by rw [List.getD_eq_getElem?_getD, h]; rfl
  unfold labs
  rw [List.getElem?_map, List.getElem?_range hi]
  simp [h]
theorem count_ex {figs : List Nat} {a j : Nat} : ∀ i, i ≤ figs.length → ((∃ k, k < i ∧ figs[k]? = some a ∧ (figs.take k).count a = j) ↔ j < (figs.take i).count a) := by
  intro i
  induction i with
  | zero => intro _; simp
  | succ i ih =>
    intro hi
    have hlt : i < figs.length := by omega
    have e : figs[i]? = some figs[i] := by simp [hlt]
    rw [take_snoc e, List.count_append]
    have ih := ih (by omega)
    by_cases ha : figs[i] = a
    · subst ha
      have e1 : List.count figs[i] [figs[i]] = 1 := by simp
      rw [e1]
      constructor
      · rintro ⟨k, hk, h1, h2⟩
        rcases Nat.lt_or_eq_of_le (Nat.le_of_lt_succ hk) with hk | rfl
        · have := ih.mp ⟨k, hk, h1, h2⟩; omega
        · omega
      · intro h
        rcases Nat.lt_or_eq_of_le (Nat.le_of_lt_succ h) with h | h
        · obtain ⟨k, hk, h1, h2⟩ := ih.mpr h; exact ⟨k, by omega, h1, h2⟩
        · exact ⟨i, by omega, e, h.symm⟩
    · have e1 : List.count a [figs[i]] = 0 := by simp [ha]
      rw [e1]
      show _ ↔ j < (figs.take i).count a
      rw [← ih]
      constructor
      · rintro ⟨k, hk, h1, h2⟩
        rcases Nat.lt_or_eq_of_le (Nat.le_of_lt_succ hk) with hk | rfl
        · exact ⟨k, hk, h1, h2⟩
        · rw [e] at h1; exact absurd (Option.some.inj h1) ha
      · rintro ⟨k, hk, h1, h2⟩; exact ⟨k, by omega, h1, h2⟩
noncomputable def Small (figs : List Nat) : Prop := figs.length ≤ 9 ∧ ∀ a ∈ figs, a ≤ 9
theorem count_le9 {figs : List Nat} (h : Small figs) (i a : Nat) : (figs.take i).count a ≤ 9 := Nat.le_trans List.count_le_length (by rw [List.length_take]; exact Nat.le_trans (Nat.min_le_right _ _) h.1)
theorem mem_labs {figs : List Nat} (hs : Small figs) {i a j : Nat} (hi : i ≤ figs.length) (ha : a ≤ 9) (hj : j ≤ 9) : lab a j ∈ (labs figs).take i ↔ j < (figs.take i).count a := by
  rw [← count_ex i hi]
  constructor
  · intro h
    obtain ⟨k, hk⟩ := List.mem_iff_getElem?.mp h
    rw [List.getElem?_take] at hk
    split at hk
    · rename_i hki
      have hlt : k < figs.length := by omega
      have e : figs[k]? = some figs[k] := by simp [hlt]
      rw [labs_get e] at hk
      obtain ⟨q1, q2⟩ := lab_inj (hs.2 _ (List.getElem_mem _)) ha (count_le9 hs _ _) hj (Option.some.inj hk)
      refine ⟨k, hki, by rw [e, q1], ?_⟩
      rw [← q1]; exact q2
    · cases hk
  · rintro ⟨k, hk, h1, h2⟩
    have := labs_get h1
    rw [h2] at this
    exact List.mem_iff_getElem?.mpr ⟨k, by rw [List.getElem?_take, if_pos hk]; exact this⟩

theorem any_strs {vs : List Value} {ss : List Str} (h : Strs vs ss) (s : Str) (t : Tok) : (∀ y ∈ vs, (aeq y (.str s t)).isSome = true) ∧ (vs.any fun y => (aeq y (.str s t)).getD false) = decide (s ∈ ss) := by
  constructor
  · intro y hy
    obtain ⟨i, hi⟩ := List.mem_iff_getElem?.mp hy
    refine hid fun gg hgg => ?_
    obtain ⟨s', t', e1, rfl⟩ := h.of hi
    refine hgg ?_
    clear hgg gg
    rfl
  · rw [Bool.eq_iff_iff, List.any_eq_true, decide_eq_true_eq]
    constructor
    · rintro ⟨y, hy, e⟩
      obtain ⟨i, hi⟩ := List.mem_iff_getElem?.mp hy
      refine hid fun gg hgg => ?_
      obtain ⟨s', t', e1, rfl⟩ := h.of hi
      refine hgg ?_
      clear hgg gg
      have : s' = s := by simpa [aeq_ii, aeq_ss] using e
      rw [← this]; exact List.mem_of_getElem? e1
    · intro hm
      obtain ⟨i, hi⟩ := List.mem_iff_getElem?.mp hm
      obtain ⟨t', e⟩ := h.2 i s hi
      exact ⟨_, List.mem_of_getElem? e, by simp [aeq_ii, aeq_ss]⟩
theorem i_in_strs {D : DM} {l : Addr} {vs : List Value} {ss : List Str} {s : Str} {t : Tok} {P : Bool → Prop} (hl : L D l vs) (hs : Strs vs ss) (h : P (decide (s ∈ ss))) : ∃ r, cmpR D .In (.str s t) (.ref l) r ∧ P r :=
  ⟨_, .inl ⟨vs, hl.ls, (any_strs hs s t).1, (any_strs hs s t).2.symm⟩, h⟩

noncomputable def NatInts (vs : List Value) (figs : List Nat) : Prop := Ints vs (figs.map fun (a : Nat) => (a : Int))
theorem NatInts.of {vs : List Value} {figs : List Nat} (h : NatInts vs figs) {i : Nat} {v : Value} (hv : vs[i]? = some v) : ∃ a t, figs[i]? = some a ∧ v = .int (a : Int) t := by
  refine hid fun gg hgg => ?_
  obtain ⟨s, t, e1, e2⟩ := Ints.of h hv
  refine hgg ?_
  clear hgg gg
  rw [List.getElem?_map] at e1
  obtain ⟨a, e3, rfl⟩ := Option.map_eq_some_iff.mp e1
  exact ⟨a, t, e3, e2⟩
theorem NatInts.len {vs : List Value} {figs : List Nat} (h : NatInts vs figs) : vs.length = figs.length := by have := h.1; simpa using this

section contracts
variable {b : Bx} {D : DM}

theorem c_law_labels {rl : Addr} {vs : List Value} {figs : List Nat} (hl : L D rl vs) (hf : NatInts vs figs) (hs : Small figs) :
    Calls (GG b) 31 542 [.ref rl] D fun v D' => D.le D' ∧ ∃ a out, v = .ref a ∧ L D' a out ∧ Strs out (labs figs) := by
  refine enterG (n := 0) (vs := [_]) (V := [some _, none, none, none, none]) ck_law_labels factsT bd_law_labels ?_
  dsimp only [sm_law_labels, wpSs, wpS, wpE, wpEs, wpT, wpOr, wpAnd, List.getD_cons_zero, List.getD_cons_succ, List.set_cons_zero, List.set_cons_succ]
  have hbig : vs.length ≤ big := by rw [hf.len]; exact Nat.le_trans hs.1 (by decide)
  refine ⟨by simp, fun sp hsp => ?_⟩
  refine i_for0 (vs := vs) (hl.le (DM.le_put hsp)).ls hbig
    (fun i V' D' => ∃ o1 o2 o3 out, V' = [some (.ref rl), some (.ref sp), o1, o2, o3] ∧ D.le D' ∧ D' sp = some (.lst out) ∧ Strs out ((labs figs).take i))
    ⟨none, none, none, [], rfl, DM.le_put hsp, DM.put_same .., Strs.nil⟩ (fun i V' D' h => by obtain ⟨o1, o2, o3, out, rfl, l1, _⟩ := h; exact (hl.le l1).ls) (fun i V' D' v hv h => ?_) fun V' D' h => ?_
  · refine hid fun gg hgg => ?_
    obtain ⟨o1, o2, o3, out, rfl, l1, h1, h2⟩ := h
    refine hgg ?_
    clear hgg gg
    refine hid fun gg hgg => ?_
    obtain ⟨a, ta, e1, rfl⟩ := hf.of hv
    refine hgg ?_
    clear hgg gg
    have hi : i < figs.length := (List.getElem?_eq_some_iff.mp e1).1
    have ha : a ≤ 9 := hs.2 a (List.mem_of_getElem? e1)
    have hc := count_le9 hs i a
    generalize hcc : (figs.take i).count a = c at *
    dsimp only [sl_law_labels_1, wpSs, wpS, wpE, wpEs, wpT, wpOr, wpAnd, List.getD_cons_zero, List.getD_cons_succ, List.set_cons_zero, List.set_cons_succ]
    refine ⟨by omega, fun t t1 => ?_⟩
    refine ⟨fun m V2 D2 => ∃ j t t', j ≤ c ∧ m = c - j ∧ D2 = D' ∧ V2 = [some (.ref rl), some (.ref sp), some (.int a ta), some (.str (lab a j) t), some (.int (j : Nat) t')], ⟨c, 0, t, t1, Nat.zero_le _, rfl, rfl, rfl⟩, fun m V2 D2 h => ?_⟩
    refine hid fun gg hgg => ?_
    obtain ⟨j, t2, t3, hj, rfl, rfl, rfl⟩ := h
    refine hgg ?_
    clear hgg gg
    dsimp only [st_law_labels_0, wpSs, wpS, wpE, wpEs, wpT, wpOr, wpAnd, List.getD_cons_zero, List.getD_cons_succ, List.set_cons_zero, List.set_cons_succ]
    refine i_in_strs h1 h2 ?_
    have hm := mem_labs hs (Nat.le_of_lt hi) ha (Nat.le_trans hj hc)
    rw [hcc] at hm
    by_cases hlt : j < c
    · rw [decide_eq_true (hm.mpr hlt)]
      refine i_t ?_
      dsimp only [sl_law_labels_0, wpSs, wpS, wpE, wpEs, wpT, wpOr, wpAnd, List.getD_cons_zero, List.getD_cons_succ, List.set_cons_zero, List.set_cons_succ]
      intro t4 t5
      refine ⟨by omega, fun t6 t7 => ?_⟩
      have la := strI_len' ha
      have lj : (strI ((j : Int) + 1)).length ≤ 10 := strI_len' (c := j + 1) (by omega)
      have ld : dot.length = 1 := by decide
      have l2 : (strI a ++ dot).length = (strI a).length + dot.length := Str.length_append ..
      have b1 : big = 1048576 := by decide
      refine ⟨by show (strI a).length + dot.length ≤ big; omega, fun t8 => ⟨by omega, fun t9 => ⟨by show (strI a ++ dot).length + (strI ((j : Int) + 1)).length ≤ big; omega, fun t10 => ?_⟩⟩⟩
      refine ⟨c - (j + 1), by omega, j + 1, t10, t5, hlt, rfl, rfl, ?_⟩
      rw [lab_succ]
      rfl
    · rw [decide_eq_false (fun q => hlt (hm.mp q))]
      have hjc : j = c := by omega
      subst hjc
      have hlen : out.length ≤ big := by rw [h2.1, List.length_take, labs_len]; exact Nat.le_trans (Nat.min_le_right _ _) (Nat.le_trans hs.1 (by decide))
      refine i_f ⟨sp, out, rfl, h1, out, h1, hlen, ?_⟩
      refine ⟨_, _, _, _, rfl, DM.le_mut hsp l1, DM.put_same .., ?_⟩
      have := labs_get e1
      rw [hcc] at this
      rw [take_snoc this]
      exact h2.snoc
  · refine hid fun gg hgg => ?_
    obtain ⟨o1, o2, o3, out, rfl, l1, h1, h2⟩ := h
    refine hgg ?_
    clear hgg gg
    rw [hf.len, ← labs_len, List.take_length] at h2
    exact ⟨l1, sp, out, rfl, h1, h2⟩

/-- how the unique names are made, step by step -/
noncomputable def UStep (ss out : List Str) : Prop := out.length = ss.length ∧ ∀ (i : Nat) (s o : Str), ss[i]? = some s → out[i]? = some o →
  (s ∉ out.take i ∧ (ss.take i).count s = 0 ∧ o = s) ∨ (s ∈ out.take i ∧ 0 < (ss.take i).count s ∧ o = s ++ dot ++ strI ((ss.take i).count s : Nat) ∧ o ∉ ss ∧ o ∉ out.take i)

noncomputable def sq_make_unique_6 : Ss := .cons (.ret (.v 6)) .nil
noncomputable def sq_make_unique_5 : Ss := .cons (.for_ 0 3 (.v 0) sl_make_unique_1) sq_make_unique_6
noncomputable def sq_make_unique_4 : Ss := .cons (.set 6 (.lst .nil)) sq_make_unique_5
noncomputable def sq_make_unique_3 : Ss := .cons (.set 5 (.dct0 true)) sq_make_unique_4
noncomputable def sq_make_unique_2 : Ss := .cons (.set 4 (.dct0 true)) sq_make_unique_3
noncomputable def sq_make_unique_1 : Ss := .cons (.for_ 0 3 (.v 0) sl_make_unique_2) sq_make_unique_2
noncomputable def sq_make_unique_0 : Ss := .cons (.set 2 (.dct0 true)) sq_make_unique_1
noncomputable def sr_make_unique_7 : Ss := .cons (.ex (.app (.v 6) (.v 8))) .nil
noncomputable def sr_make_unique_6 : Ss := .cons (.sidx (.v 4) (.v 8) (.bool true)) sr_make_unique_7
noncomputable def sr_make_unique_5 : Ss := .cons (.sidx (.v 2) (.v 8) (.bool true)) sr_make_unique_6
noncomputable def sr_make_unique_4 : Ss := .cons (.sidx (.v 5) (.v 3) (.bin .Add (.v 7) (.int 1))) sr_make_unique_5
noncomputable def sr_make_unique_3 : Ss := .cons (.set 8 (.bin .Add (.bin .Add (.v 3) (.v 1)) (.call .str (.cons (.v 7) .nil)))) sr_make_unique_4
noncomputable def sr_make_unique_2 : Ss := .cons (.while_ st_make_unique_0 sl_make_unique_0) sr_make_unique_3
noncomputable def sr_make_unique_1 : Ss := .cons (.set 7 (.get2 (.v 5) (.v 3) (.int 1))) sr_make_unique_2
noncomputable def sr_make_unique_0 : Ss := .cons (.ite (.cmp .NotIn (.v 3) (.v 4)) (.cons (.sidx (.v 4) (.v 3) (.bool true)) (.cons (.ex (.app (.v 6) (.v 3))) (.cons .cont .nil))) .nil) sr_make_unique_1
structure UI (tp sp cp fp : Addr) (ss out : List Str) (D : DM) (i : Nat) (D' : DM) (kt ks kc : List (Str × Value)) (ws : List Value) : Prop where
  l1 : D.le D'
  q1 : D' tp = some (.ds kt)
  q2 : D' sp = some (.ds ks)
  q3 : D' cp = some (.ds kc)
  q4 : D' fp = some (.lst ws)
  z1 : kt.length ≤ ss.length + i
  z2 : ks.length ≤ i
  z3 : kc.length ≤ i
  w1 : Strs ws (out.take i)
  w2 : ∀ z, (valueAt kt z).isSome = true → z ∈ ss ∨ z ∈ out.take i
  w3 : ∀ z, (valueAt ks z).isSome = true ↔ z ∈ out.take i
  w4 : ∀ z, ((ss.take i).count z ≤ 1 → valueAt kc z = none) ∧ (1 < (ss.take i).count z → ∃ t, valueAt kc z = some (.int ((ss.take i).count z : Nat) t))
structure UI0 (tp : Addr) (ss : List Str) (D : DM) (i : Nat) (D' : DM) (kt : List (Str × Value)) : Prop where
  l1 : D.le D'
  h1 : D' tp = some (.ds kt)
  h2 : kt.length ≤ i
  h3 : ∀ z, (valueAt kt z).isSome = true → z ∈ ss
theorem c_make_unique {nl : Addr} {vs : List Value} {ss out : List Str} {t0 : Tok} (hl : L D nl vs) (hs : Strs vs ss) (hu : UStep ss out) (hb : ss.length ≤ 9) (hlen : ∀ s ∈ ss, s.length ≤ 100) :
    Calls (GG b) 31 353 [.ref nl, .str dot t0] D fun v D' => D.le D' ∧ ∃ a ws, v = .ref a ∧ L D' a ws ∧ Strs ws out := by
  refine enterG (n := 0) (vs := [_, _]) (V := [some _, some _, none, none, none, none, none, none, none]) ck_make_unique factsT bd_make_unique ?_
  show wpSs _ _ sq_make_unique_0 _ _ _
  dsimp only [sq_make_unique_0, sq_make_unique_1, wpSs, wpS, wpE, wpEs, wpT, wpOr, wpAnd, List.getD_cons_zero, List.getD_cons_succ, List.set_cons_zero, List.set_cons_succ]
  have hbig : vs.length ≤ big := by rw [hs.1]; exact Nat.le_trans hb (by decide)
  have bb : big = 1048576 := by decide
  intro tp htp
  refine i_for0 (vs := vs) (hl.le (DM.le_put htp)).ls hbig
    (fun i V' D' => ∃ o kt, V' = [some (.ref nl), some (.str dot t0), some (.ref tp), o, none, none, none, none, none] ∧ UI0 tp ss D i D' kt)
    ⟨none, [], rfl, DM.le_put htp, DM.put_same .., Nat.le_refl _, fun z h => by cases h⟩ (fun i V' D' h => by obtain ⟨o, kt, rfl, X⟩ := h; exact (hl.le X.l1).ls) (fun i V' D' v hv h => ?_) fun V' D' h => ?_
  · refine hid fun gg hgg => ?_
    obtain ⟨o, kt, rfl, ⟨l1, h1, h2, h3⟩⟩ := h
    refine hgg ?_
    clear hgg gg
    refine hid fun gg hgg => ?_
    obtain ⟨s, ts, e1, rfl⟩ := hs.of hv
    refine hgg ?_
    clear hgg gg
    have hi : i < ss.length := (List.getElem?_eq_some_iff.mp e1).1
    dsimp only [sl_make_unique_2, wpSs, wpS, wpE, wpEs, wpT, wpOr, wpAnd, List.getD_cons_zero, List.getD_cons_succ, List.set_cons_zero, List.set_cons_succ]
    refine .inr (.inl ⟨kt, s, ts, h1, rfl, by omega, ?_⟩)
    refine ⟨_, _, rfl, DM.le_mut htp l1, DM.put_same .., Nat.le_trans (stored_length_le ..) (by omega), fun z hz => ?_⟩
    rw [valueAt_stored'] at hz
    by_cases e : z = s
    · subst e; exact List.mem_of_getElem? e1
    · rw [if_neg e] at hz; exact h3 z hz
  · refine hid fun gg hgg => ?_
    obtain ⟨o, kt, rfl, ⟨l1, h1, h2, h3⟩⟩ := h
    refine hgg ?_
    clear hgg gg
    dsimp only [sq_make_unique_2, sq_make_unique_3, sq_make_unique_4, sq_make_unique_5, wpSs, wpS, wpE, wpEs, wpT, wpOr, wpAnd, List.getD_cons_zero, List.getD_cons_succ, List.set_cons_zero, List.set_cons_succ]
    intro sp hsp cp hcp
    refine ⟨by simp, fun fp hfp => ?_⟩
    have ls := DM.le_put (c := .ds []) hsp
    have lc := DM.le_put (c := .ds []) hcp
    have lf := DM.le_put (c := .lst []) hfp
    have n1 : tp ≠ sp := DM.ne_of hsp h1
    have n2 : tp ≠ cp := DM.ne_of hcp (ls _ _ h1)
    have n3 : tp ≠ fp := DM.ne_of hfp (lc _ _ (ls _ _ h1))
    have n4 : sp ≠ cp := DM.ne_of hcp (DM.put_same ..)
    have n5 : sp ≠ fp := DM.ne_of hfp (lc _ _ (DM.put_same ..))
    have n6 : cp ≠ fp := DM.ne_of hfp (DM.put_same ..)
    have d1 : D sp = none := none_of l1 hsp
    have d2 : D cp = none := none_of (l1.trans ls) hcp
    have d3 : D fp = none := none_of ((l1.trans ls).trans lc) hfp
    have hkt : kt.length ≤ ss.length := by rw [hs.1] at h2; exact h2
    refine i_for0 (vs := vs) (hl.le (((l1.trans ls).trans lc).trans lf)).ls hbig
      (fun i V' D' => ∃ o o2 o3 kt ks kc ws, V' = [some (.ref nl), some (.str dot t0), some (.ref tp), o, some (.ref sp), some (.ref cp), some (.ref fp), o2, o3] ∧ UI tp sp cp fp ss out D i D' kt ks kc ws)
      ⟨o, none, none, kt, [], [], [], rfl, ((l1.trans ls).trans lc).trans lf, lf _ _ (lc _ _ (ls _ _ h1)), lf _ _ (lc _ _ (DM.put_same ..)), lf _ _ (DM.put_same ..), DM.put_same .., hkt, Nat.le_refl _, Nat.le_refl _, Strs.nil,
        fun z hz => .inl (h3 z hz), fun z => ⟨fun h => (by cases h), fun h => (by simp at h)⟩, fun z => ⟨fun _ => rfl, fun h => by simp at h⟩⟩
      (fun i V' D' h => by obtain ⟨o, o2, o3, kt, ks, kc, ws, rfl, X⟩ := h; exact (hl.le X.l1).ls) (fun i V' D' v hv h => ?_) fun V' D' h => ?_
    · clear l1 h1 h2 h3 hkt ls lc lf hsp hcp hfp
      refine hid fun gg hgg => ?_
      obtain ⟨o, o2, o3, kt, ks, kc, ws, rfl, ⟨l1, q1, q2, q3, q4, z1, z2, z3, w1, w2, w3, w4⟩⟩ := h
      refine hgg ?_
      clear hgg gg
      refine hid fun gg hgg => ?_
      obtain ⟨s, ts, e1, rfl⟩ := hs.of hv
      refine hgg ?_
      clear hgg gg
      have hi : i < ss.length := (List.getElem?_eq_some_iff.mp e1).1
      have hio : i < out.length := by rw [hu.1]; exact hi
      have e2 : out[i]? = some out[i] := by simp [hio]
      have hst := hu.2 i s out[i] e1 e2
      generalize out[i] = ov at *
      have hsl := hlen s (List.mem_of_getElem? e1)
      have wl : ws.length ≤ big := by rw [w1.1, List.length_take]; exact Nat.le_trans (Nat.min_le_right _ _) (by rw [hu.1]; omega)
      show wpSs _ _ sr_make_unique_0 _ _ _
      dsimp only [sr_make_unique_0, wpSs, wpS, wpE, wpEs, wpT, wpOr, wpAnd, List.getD_cons_zero, List.getD_cons_succ, List.set_cons_zero, List.set_cons_succ]
      refine i_notin_sd ⟨_, q2, rfl⟩ ?_
      have wst := w4 s
      have hcs : ∀ z, (ss.take (i + 1)).count z = (ss.take i).count z + if z = s then 1 else 0 := fun z => by
        rw [take_snoc e1, List.count_append]
        by_cases e : z = s
        · subst e; simp
        · simp [e, Ne.symm e]
      have hot : out.take (i + 1) = out.take i ++ [ov] := take_snoc e2
      rcases hst with ⟨a1, a2, rfl⟩ | ⟨a1, a2, a3, a4, a5⟩
      · have e3 : (valueAt ks ov).isSome = false := by
          cases e : (valueAt ks ov).isSome with
          | false => rfl
          | true => exact absurd ((w3 ov).mp e) a1
        rw [e3]
        refine i_t (.inr (.inl ⟨ks, ov, ts, q2, rfl, by omega, ?_⟩))
        have m2 : ∀ c, D.le (D'.put sp c) := fun c => DM.le_mut d1 l1
        refine ⟨fp, ws, rfl, by rw [DM.put_ne _ _ (Ne.symm n5)]; exact q4, ws, by rw [DM.put_ne _ _ (Ne.symm n5)]; exact q4, wl, ?_⟩
        refine ⟨_, _, _, kt, stored ks ov (.bool true), kc, ws ++ [.str ov ts], rfl, DM.le_mut d3 (m2 _), ?_, ?_, ?_, DM.put_same .., by omega, Nat.le_trans (stored_length_le ..) (by omega), by omega, ?_, fun z hz => ?_, fun z => ?_, fun z => ?_⟩
        · rw [DM.put_ne _ _ n3, DM.put_ne _ _ n1]; exact q1
        · rw [DM.put_ne _ _ n5]; exact DM.put_same ..
        · rw [DM.put_ne _ _ n6, DM.put_ne _ _ (Ne.symm n4)]; exact q3
        · rw [hot]; exact w1.snoc
        · rw [hot]
          rcases w2 z hz with h | h
          · exact .inl h
          · exact .inr (List.mem_append_left _ h)
        · rw [valueAt_stored', hot, List.mem_append, List.mem_singleton]
          by_cases e : z = ov
          · subst e; simp
          · rw [if_neg e, w3 z]; simp [e]
        · have := w4 z
          rw [hcs z]
          by_cases e : z = ov
          · subst e
            rw [a2]
            rw [if_pos rfl]
            exact ⟨fun _ => this.1 (by omega), fun h => by omega⟩
          · rw [if_neg e, Nat.add_zero]; exact this
      · have e3 : (valueAt ks s).isSome = true := (w3 s).mpr a1
        rw [e3]
        refine i_f ?_
        dsimp only [sr_make_unique_1, sr_make_unique_2, gotS, wpSs, wpS, wpE, wpEs, wpT, wpOr, wpAnd, List.getD_cons_zero, List.getD_cons_succ, List.set_cons_zero, List.set_cons_succ]
        refine ⟨cp, kc, rfl, ⟨_, q3, rfl⟩, fun t1 => ⟨kc, s, ts, ⟨_, q3, rfl⟩, rfl, ?_⟩⟩
        have hc9 : (ss.take i).count s ≤ 9 := Nat.le_trans List.count_le_length (by rw [List.length_take]; exact Nat.le_trans (Nat.min_le_right _ _) hb)
        generalize hcc : (ss.take i).count s = c at *
        have hget : ∃ t, (valueAt kc s).getD (.int 1 t1) = .int (c : Nat) t := by
          by_cases h : c ≤ 1
          · have : c = 1 := by omega
            rw [wst.1 h, this]; exact ⟨t1, rfl⟩
          · obtain ⟨t, e⟩ := wst.2 (by omega)
            exact ⟨t, by rw [e]; rfl⟩
        obtain ⟨t2, hget⟩ := hget
        rw [hget]
        have ld : dot.length = 1 := by decide
        have l2 : (s ++ dot).length = s.length + dot.length := Str.length_append ..
        have lc' := strI_len' hc9
        have fl : ∀ P : Str → Prop, P (s ++ dot ++ strI (c : Nat)) → P ov := fun P h => by rw [a3]; exact h
        refine ⟨fun m V2 D2 => V2 = [some (.ref nl), some (.str dot t0), some (.ref tp), some (.str s ts), some (.ref sp), some (.ref cp), some (.ref fp), some (.int (c : Nat) t2), o3] ∧ D2 = D', ⟨0, rfl, rfl⟩, fun m V2 D2 h => ?_⟩
        obtain ⟨rfl, rfl⟩ := h
        dsimp only [st_make_unique_0, wpSs, wpS, wpE, wpEs, wpT, wpOr, wpAnd, List.getD_cons_zero, List.getD_cons_succ, List.set_cons_zero, List.set_cons_succ]
        have g1 : s.length + dot.length ≤ big := by omega
        have g2 : (s ++ dot).length + (strI (c : Nat)).length ≤ big := by omega
        have g3 : ((c : Nat) : Int).natAbs < 2 ^ 64 := by omega
        refine ⟨g1, fun t3 => ⟨g3, fun t4 => ⟨g2, fun t5 => i_in_sd ⟨_, q1, rfl⟩ ?_⟩⟩⟩
        have e4 : (valueAt kt (s ++ dot ++ strI (c : Nat))).isSome = false := by
          cases e : (valueAt kt (s ++ dot ++ strI (c : Nat))).isSome with
          | false => rfl
          | true => rw [← a3] at e; exact absurd (w2 ov e) (fun q => q.elim a4 a5)
        have e4' : (valueAt kt (s ++ dot ++ Str.ofString (toString ((c : Nat) : Int)))).isSome = false := e4
        rw [e4']
        refine i_f ?_
        dsimp only [sr_make_unique_3, sr_make_unique_4, sr_make_unique_5, sr_make_unique_6, sr_make_unique_7, wpSs, wpS, wpE, wpEs, wpT, wpOr, wpAnd, List.getD_cons_zero, List.getD_cons_succ, List.set_cons_zero, List.set_cons_succ]
        refine ⟨g1, fun t6 => ⟨g3, fun t7 => ⟨g2, fun t8 t9 t10 => ?_⟩⟩⟩
        refine .inr (.inl ⟨kc, s, ts, q3, rfl, by omega, ?_⟩)
        refine .inr (.inl ⟨kt, _, t8, by rw [DM.put_ne _ _ n2]; exact q1, rfl, by omega, ?_⟩)
        refine .inr (.inl ⟨ks, _, t8, by rw [DM.put_ne _ _ (Ne.symm n1), DM.put_ne _ _ n4]; exact q2, rfl, by omega, ?_⟩)
        have m3 : ∀ c1 c2 c3, D.le (((D2.put cp c1).put tp c2).put sp c3) := fun c1 c2 c3 => DM.le_mut d1 (DM.le_mut htp (DM.le_mut d2 l1))
        have f4 : ∀ c1 c2 c3, (((D2.put cp c1).put tp c2).put sp c3) fp = some (.lst ws) := fun c1 c2 c3 => by rw [DM.put_ne _ _ (Ne.symm n5), DM.put_ne _ _ (Ne.symm n3), DM.put_ne _ _ (Ne.symm n6)]; exact q4
        refine ⟨fp, ws, rfl, f4 _ _ _, ws, f4 _ _ _, wl, ?_⟩
        have a3' : s ++ dot ++ Str.ofString (toString ((c : Nat) : Int)) = ov := a3.symm
        rw [a3']
        refine ⟨_, _, _, stored kt ov (.bool true), stored ks ov (.bool true), stored kc s (.int ((c : Int) + 1) t10), ws ++ [.str ov t8], rfl, DM.le_mut d3 (m3 _ _ _), ?_, ?_, ?_, DM.put_same .., Nat.le_trans (stored_length_le ..) (by omega), Nat.le_trans (stored_length_le ..) (by omega), Nat.le_trans (stored_length_le ..) (by omega), ?_, fun z hz => ?_, fun z => ?_, fun z => ?_⟩
        · rw [DM.put_ne _ _ n3, DM.put_ne _ _ n1]; exact DM.put_same ..
        · rw [DM.put_ne _ _ n5]; exact DM.put_same ..
        · rw [DM.put_ne _ _ n6, DM.put_ne _ _ (Ne.symm n4), DM.put_ne _ _ (Ne.symm n2)]; exact DM.put_same ..
        · rw [hot]; exact w1.snoc
        · rw [hot]
          rw [valueAt_stored'] at hz
          by_cases e : z = ov
          · exact .inr (by simp [e])
          · rw [if_neg e] at hz
            rcases w2 z hz with h | h
            · exact .inl h
            · exact .inr (List.mem_append_left _ h)
        · rw [valueAt_stored', hot, List.mem_append, List.mem_singleton]
          by_cases e : z = ov
          · subst e; simp
          · rw [if_neg e, w3 z]; simp [e]
        · have := w4 z
          rw [hcs z, valueAt_stored']
          by_cases e : z = s
          · subst e
            rw [if_pos rfl, if_pos rfl, hcc]
            exact ⟨fun h => by omega, fun h => ⟨t10, rfl⟩⟩
          · rw [if_neg e, if_neg e, Nat.add_zero]; exact this
    · refine hid fun gg hgg => ?_
      obtain ⟨o, o2, o3, kt, ks, kc, ws, rfl, ⟨l2, q1, q2, q3, q4, z1, z2, z3, w1, w2, w3, w4⟩⟩ := h
      refine hgg ?_
      clear hgg gg
      rw [hs.1, ← hu.1, List.take_length] at w1
      dsimp only [sq_make_unique_6, wpSs, wpS, wpE, wpEs, wpT, wpOr, wpAnd, List.getD_cons_zero, List.getD_cons_succ, List.set_cons_zero, List.set_cons_succ]
      exact ⟨l2, fp, ws, rfl, q4, w1⟩
end contracts
end Mine

namespace Mine

noncomputable def pickS (ss : List Str) (is : List Int) : List Str := is.map fun p => ss.getD p.toNat Str.empty
noncomputable def InR (is : List Int) (n : Nat) : Prop := ∀ p ∈ is, 0 ≤ p ∧ p < n
theorem pickV_get {vs : List Value} {is : List Int} {i : Nat} {p : Int} (h : is[i]? = some p) : (pickV vs is)[i]? = some (vs.getD p.toNat .none) := by
  unfold pickV; rw [List.getElem?_map, h]; rfl
theorem pickS_get {vs : List Str} {is : List Int} {i : Nat} {p : Int} (h : is[i]? = some p) : (pickS vs is)[i]? = some (vs.getD p.toNat Str.empty) := by
  unfold pickS; rw [List.getElem?_map, h]; rfl
theorem getD_of {α : Type} {l : List α} {i : Nat} {x d : α} (h : l[i]? = some x) : l.getD i d = x := by rw [List.getD_eq_getElem?_getD, h]; rfl
theorem strs_pick {vs : List Value} {ss : List Str} {is : List Int} (h : Strs vs ss) (hr : InR is ss.length) : Strs (pickV vs is) (pickS ss is) := by
  refine ⟨by simp [pickV, pickS], fun i s hs => ?_⟩
  unfold pickS at hs
  rw [List.getElem?_map] at hs
  obtain ⟨p, hp, rfl⟩ := Option.map_eq_some_iff.mp hs
  obtain ⟨p0, p1⟩ := hr p (List.mem_of_getElem? hp)
  have hlt : p.toNat < ss.length := by omega
  have e : ss[p.toNat]? = some ss[p.toNat] := by simp [hlt]
  obtain ⟨t, et⟩ := h.2 _ _ e
  exact ⟨t, by rw [pickV_get hp, getD_of et, getD_of e]⟩
theorem labAt_pick {lk : Str} {ls : List Value} {ss : List Str} {is : List Int} (h : LabAt lk ls ss) (hr : InR is ss.length) : LabAt lk (pickV ls is) (pickS ss is) := by
  rcases h with ⟨rfl, js, h1, h2, rfl⟩ | ⟨rfl, h⟩
  · refine .inl ⟨rfl, is.map fun p => js.getD p.toNat 0, ⟨by simp [pickV], fun i s hs => ?_⟩, fun i hi => ?_, ?_⟩
    · rw [List.getElem?_map] at hs
      obtain ⟨p, hp, rfl⟩ := Option.map_eq_some_iff.mp hs
      obtain ⟨p0, p1⟩ := hr p (List.mem_of_getElem? hp)
      rw [List.length_map] at p1
      have hlt : p.toNat < js.length := by omega
      have e : js[p.toNat]? = some js[p.toNat] := by simp [hlt]
      obtain ⟨t, et⟩ := h1.2 _ _ e
      exact ⟨t, by rw [pickV_get hp, getD_of et, getD_of e]⟩
    · obtain ⟨p, hp, rfl⟩ := List.mem_map.mp hi
      obtain ⟨p0, p1⟩ := hr p hp
      rw [List.length_map] at p1
      have hlt : p.toNat < js.length := by omega
      have e : js[p.toNat]? = some js[p.toNat] := by simp [hlt]
      rw [getD_of e]
      exact h2 _ (List.getElem_mem _)
    · unfold pickS
      rw [List.map_map]
      refine List.map_congr_left fun p hp => ?_
      obtain ⟨p0, p1⟩ := hr p hp
      rw [List.length_map] at p1
      have hlt : p.toNat < js.length := by omega
      have e : js[p.toNat]? = some js[p.toNat] := by simp [hlt]
      have e2 : (js.map strI)[p.toNat]? = some (strI js[p.toNat]) := by rw [List.getElem?_map, e]; rfl
      show _ = strI (js.getD p.toNat 0)
      rw [getD_of e, getD_of e2]
  · exact .inr ⟨rfl, strs_pick h hr⟩

theorem ustep_nodup {ss : List Str} (h : ss.Nodup) : UStep ss ss := by
  refine ⟨rfl, fun i s o h1 h2 => ?_⟩
  rw [h1] at h2; cases h2
  have hm : s ∉ ss.take i := fun hm => by
    obtain ⟨q, hq⟩ := List.mem_iff_getElem?.mp hm
    rw [List.getElem?_take] at hq
    split at hq
    · rename_i hlt
      have := (List.getElem?_inj (List.getElem?_eq_some_iff.mp hq).1 h).mp (hq.trans h1.symm)
      omega
    · cases hq
  exact .inl ⟨hm, List.count_eq_zero.mpr hm, rfl⟩
theorem strI_inj {a b : Nat} (ha : a ≤ 9) (hb : b ≤ 9) (h : strI a = strI b) : a = b := (lab_inj ha hb (Nat.zero_le 9) (Nat.zero_le 9) (j := 0) (k := 0) h).1
theorem count_strI {figs : List Nat} (hs : ∀ a ∈ figs, a ≤ 9) {a : Nat} (ha : a ≤ 9) : (figs.map fun (x : Nat) => strI x).count (strI a) = figs.count a := by
  induction figs with
  | nil => rfl
  | cons x r ih =>
    have ih := ih fun y hy => hs y (.tail _ hy)
    rw [List.map_cons, List.count_cons, List.count_cons, ih]
    congr 1
    by_cases e : x = a
    · subst e; simp
    · have : strI x ≠ strI a := fun q => e (strI_inj (hs x (.head _)) ha q)
      simp [e, this]
theorem ustep_labs {figs : List Nat} (hs : Small figs) : UStep (figs.map fun (x : Nat) => strI x) (labs figs) := by
  refine ⟨by rw [labs_len, List.length_map], fun i s o h1 h2 => ?_⟩
  rw [List.getElem?_map] at h1
  obtain ⟨a, ha, rfl⟩ := Option.map_eq_some_iff.mp h1
  have hi := (List.getElem?_eq_some_iff.mp ha).1
  have ha9 := hs.2 a (List.mem_of_getElem? ha)
  rw [labs_get ha] at h2
  cases h2
  have hc := count_le9 hs i a
  rw [← List.map_take, count_strI (fun y hy => hs.2 y (List.mem_of_mem_take hy)) ha9]
  have hm : strI a ∈ (labs figs).take i ↔ 0 < (figs.take i).count a := mem_labs (j := 0) hs (Nat.le_of_lt hi) ha9 (Nat.zero_le 9)
  by_cases h0 : (figs.take i).count a = 0
  · refine .inl ⟨fun q => ?_, h0, by rw [h0]; rfl⟩
    have := hm.mp q; omega
  · refine .inr ⟨hm.mpr (by omega), by omega, by simp [lab, h0], fun q => ?_, fun q => ?_⟩
    · obtain ⟨x, hx, e⟩ := List.mem_map.mp q
      have := lab_inj (j := 0) (hs.2 x hx) ha9 (Nat.zero_le 9) hc e
      omega
    · have := (mem_labs hs (Nat.le_of_lt hi) ha9 hc).mp q
      omega
theorem labs_nodup {figs : List Nat} (h : figs.Nodup) : labs figs = figs.map fun (x : Nat) => strI x := by
  refine List.ext_getElem? fun i => ?_
  cases e : figs[i]? with
  | none =>
    have h1 := List.getElem?_eq_none_iff.mp e
    rw [List.getElem?_eq_none_iff.mpr (by rw [labs_len]; exact h1), List.getElem?_eq_none_iff.mpr (by rw [List.length_map]; exact h1)]
  | some a =>
    rw [labs_get e, List.getElem?_map, e]
    have hm : a ∉ figs.take i := fun hm => by
      obtain ⟨q, hq⟩ := List.mem_iff_getElem?.mp hm
      rw [List.getElem?_take] at hq
      split at hq
      · rename_i hlt
        have := (List.getElem?_inj (List.getElem?_eq_some_iff.mp hq).1 h).mp (hq.trans e.symm)
        omega
      · cases hq
    rw [List.count_eq_zero.mpr hm]
    rfl

section contracts
variable {b : Bx} {D : DM}

noncomputable def sq_picked_labels_9 : Ss := .cons (.ret (.call (.own 196) (.cons (.call (.own 353) (.cons (.v 8) (.cons (.str ".") .nil))) .nil))) .nil
noncomputable def sq_picked_labels_8 : Ss := .cons (.for_ 0 6 (.v 1) sl_picked_labels_0) sq_picked_labels_9
noncomputable def sq_picked_labels_7 : Ss := .cons (.set 8 (.lst .nil)) sq_picked_labels_8
noncomputable def sq_picked_labels_6 : Ss := .cons (.set 7 (.call (.own 391) (.cons (.v 0) .nil))) sq_picked_labels_7
noncomputable def sq_picked_labels_5 : Ss := .cons (.ite (.nt (.e (.v 5))) (.cons (.ret (.call .vec (.cons (.att (.v 2) 0) (.cons (.comp 0 6 (.v 1) sb_picked_labels_1) .nil)))) .nil) .nil) sq_picked_labels_6
noncomputable def sq_picked_labels_4 : Ss := .cons (.for_ 0 6 (.v 1) sl_picked_labels_2) sq_picked_labels_5
noncomputable def sq_picked_labels_3 : Ss := .cons (.set 5 (.bool false)) sq_picked_labels_4
noncomputable def sq_picked_labels_2 : Ss := .cons (.set 4 (.dct0 false)) sq_picked_labels_3
noncomputable def sq_picked_labels_1 : Ss := .cons (.set 3 (.call .len (.cons (.att (.v 2) 1) .nil))) sq_picked_labels_2
noncomputable def sq_picked_labels_0 : Ss := .cons (.set 2 (.idx (.att (.v 0) 2) (.str "row.names"))) sq_picked_labels_1
structure PI (sp : Addr) (is : List Int) (D : DM) (i : Nat) (D' : DM) (kvs : List (Int × Value)) : Prop where
  l1 : D.le D'
  h1 : D' sp = some (.di kvs)
  h2 : kvs.length ≤ i
  h3 : ∀ z, (valueAt kvs z).isSome = true ↔ z ∈ is.take i
theorem c_picked_labels {f pl : Addr} {cs nms ps : List Value} {lk : Str} {ls : List Value} {ss out : List Str} {is : List Int} (h : FrameAt D f cs nms lk ls) (hL : LabAt lk ls ss) (hp : L D pl ps) (hi : Ints ps is) (hr : InR is ls.length) (hb : ps.length ≤ 9)
    (hu : ¬ is.Nodup → UStep (pickS ss is) out ∧ ∀ s ∈ pickS ss is, s.length ≤ 100) :
    Calls (GG b) 124 450 [.ref f, .ref pl] D fun v D' => D.le D' ∧ ∃ rv rl t lk' ls', v = .ref rv ∧ VecAt D' rv (.str lk' t) (.ref rl) .none ∧ L D' rl ls' ∧ ls'.length = is.length ∧
      ((is.Nodup ∧ lk' = lk ∧ ls' = pickV ls is) ∨ (¬ is.Nodup ∧ lk' = kC ∧ Strs ls' out)) := by
  have h0 := h
  refine hid fun gg hgg => ?_
  obtain ⟨il, da, nv, nl, cv, cl, rv, rl, t, t1, t2, t3, t4, X⟩ := h
  refine hgg ?_
  clear hgg gg
  refine enterG (n := 93) (vs := [_, _]) (V := [some _, some _, none, none, none, none, none, none, none]) ck_picked_labels factsT bd_picked_labels ?_
  show wpSs _ _ sq_picked_labels_0 _ _ _
  dsimp only [sq_picked_labels_0, sq_picked_labels_1, sq_picked_labels_2, sq_picked_labels_3, sq_picked_labels_4, wpSs, wpS, wpE, wpEs, wpT, wpOr, wpAnd, List.getD_cons_zero, List.getD_cons_succ, List.set_cons_zero, List.set_cons_succ]
  have hbig : ps.length ≤ big := Nat.le_trans hb (by decide)
  have isl : is.length ≤ 9 := hi.1 ▸ hb
  refine i_att2 X.v fun t5 => i_item_sd (frX_row X) (v := .ref rv) (by rfl) (i_att1 X.rv (i_len X.rl X.rb fun tc sp hsp => ?_))
  refine i_for0 (vs := ps) (hp.le (DM.le_put hsp)).ls hbig
    (fun i V' D' => ∃ o kvs, V' = [some (.ref f), some (.ref pl), some (.ref rv), some (.int ls.length tc), some (.ref sp), some (.bool (decide (¬ (is.take i).Nodup))), o, none, none] ∧ PI sp is D i D' kvs)
    ⟨none, [], by simp, DM.le_put hsp, DM.put_same .., Nat.le_refl _, fun z => ⟨fun h => (by cases h), fun h => (by simp at h)⟩⟩ (fun i V' D' h => by obtain ⟨o, kvs, rfl, X⟩ := h; exact (hp.le X.l1).ls) (fun i V' D' v hv h => ?_) fun V' D' h => ?_
  · refine hid fun gg hgg => ?_
    obtain ⟨o, kvs, rfl, ⟨l1, h1, h2, h3⟩⟩ := h
    refine hgg ?_
    clear hgg gg
    refine hid fun gg hgg => ?_
    obtain ⟨p, tp, e1, rfl⟩ := hi.of hv
    refine hgg ?_
    clear hgg gg
    have hi' : i < ps.length := (List.getElem?_eq_some_iff.mp hv).1
    obtain ⟨p0, p1⟩ := hr p (List.mem_of_getElem? e1)
    dsimp only [sl_picked_labels_2, wpSs, wpS, wpE, wpEs, wpT, wpOr, wpAnd, List.getD_cons_zero, List.getD_cons_succ, List.set_cons_zero, List.set_cons_succ]
    refine i_is_int (i_f (i_ge ?_))
    rw [decide_eq_false (by omega)]
    refine i_f (i_in_di h1 ?_)
    have key : ∀ bb : Bool, bb = decide (¬ (is.take (i + 1)).Nodup) →
        stoR D' (.ref sp) (.int p tp) (.bool true) fun D4 => ∃ (o : Option Value) (kvs : List (Int × Value)), ([some (.ref f), some (.ref pl), some (.ref rv), some (.int ls.length tc), some (.ref sp), some (.bool bb), some (.int p tp), none, none] : Vs) = [some (.ref f), some (.ref pl), some (.ref rv), some (.int ls.length tc), some (.ref sp), some (.bool (decide (¬ (is.take (i + 1)).Nodup))), o, none, none] ∧ PI sp is D (i + 1) D4 kvs := by
      rintro _ rfl
      refine .inr (.inr ⟨kvs, p, tp, h1, rfl, by omega, _, _, rfl, DM.le_mut hsp l1, DM.put_same .., Nat.le_trans (stored_length_le ..) (by omega), fun z => ?_⟩)
      rw [valueAt_stored', take_snoc e1, List.mem_append, List.mem_singleton]
      by_cases e : z = p
      · subst e; simp
      · rw [if_neg e, h3 z]; simp [e]
    have hnd : (is.take (i + 1)).Nodup ↔ (is.take i).Nodup ∧ p ∉ is.take i := by
      rw [take_snoc e1, List.nodup_append]
      simp only [List.nodup_cons, List.not_mem_nil, not_false_eq_true, List.nodup_nil, and_self, List.mem_singleton, true_and]
      exact ⟨fun ⟨a, b⟩ => ⟨a, fun hm => b p hm p rfl rfl⟩, fun ⟨a, b⟩ => ⟨a, fun x hx y hy e => b (by rw [← hy, ← e]; exact hx)⟩⟩
    by_cases hm : p ∈ is.take i
    · rw [(h3 p).mpr hm]
      refine i_t (i_t ?_)
      have e : true = decide (¬ (is.take (i + 1)).Nodup) := by
        symm; rw [decide_eq_true_eq, hnd]; exact fun q => q.2 hm
      exact key _ e
    · have e2 : (valueAt kvs p).isSome = false := by
        cases e : (valueAt kvs p).isSome with
        | false => rfl
        | true => exact absurd ((h3 p).mp e) hm
      rw [e2]
      refine i_f (i_f ?_)
      have e : decide (¬ (is.take i).Nodup) = decide (¬ (is.take (i + 1)).Nodup) := by
        rw [decide_eq_decide, hnd]; simp [hm]
      exact key _ e
  · refine hid fun gg hgg => ?_
    obtain ⟨o, kvs, rfl, ⟨l1, h1, h2, h3⟩⟩ := h
    refine hgg ?_
    clear hgg gg
    rw [hi.1, List.take_length]
    dsimp only [sq_picked_labels_5, wpSs, wpS, wpE, wpEs, wpT, wpOr, wpAnd, List.getD_cons_zero, List.getD_cons_succ, List.set_cons_zero, List.set_cons_succ]
    have X' := X.le l1
    refine ⟨_, rfl, ?_⟩
    by_cases hn : is.Nodup
    · rw [decide_eq_false (fun q => q hn)]
      refine i_t (i_att0 X'.rv ?_)
      refine i_comp0 (hp.le l1) hbig (fun i y D2 => ∃ p, is[i]? = some p ∧ y = ls.getD p.toNat .none) (fun i y D2 D3 _ h => h) (fun i v D2 kk l2 hv hk => ?_) fun a o2 D2 ha ha1 l2 h4 h5 h6 => ?_
      · refine hid fun gg hgg => ?_
        obtain ⟨p, tp, e1, rfl⟩ := hi.of hv
        refine hgg ?_
        clear hgg gg
        obtain ⟨p0, p1⟩ := hr p (List.mem_of_getElem? e1)
        have hlt : p.toNat < ls.length := by omega
        dsimp only [sb_picked_labels_1, wpE, wpEs, List.getD_cons_zero, List.getD_cons_succ, List.set_cons_zero, List.set_cons_succ]
        have e2 : ls[p.toNat]? = some ls[p.toNat] := by simp [hlt]
        exact i_att1 (X'.rv.le l2) (i_item_l (X'.rl.le l2) X.rb p0 e2 (hk _ _ (DM.le.refl _) ⟨p, e1, (getD_of e2).symm⟩))
      · have eo : o2 = pickV ls is := List.ext_getElem? fun i => by
          cases e : o2[i]? with
          | some y => obtain ⟨p, e3, rfl⟩ := h6 i y e; rw [pickV_get e3]
          | none =>
            have h7 := List.getElem?_eq_none_iff.mp e
            rw [h5, hi.1] at h7
            exact (List.getElem?_eq_none_iff.mpr (by simp [pickV]; exact h7)).symm
        subst eo
        generalize D2.put a (.lst (pickV ls is)) = D3 at *
        refine i_vec2 rfl rfl fun x D4 hx l4 hv4 => ?_
        exact ⟨(l1.trans l2).trans l4, x, a, t3, lk, _, rfl, hv4, h4.le l4, by simp [pickV], .inl ⟨hn, rfl, rfl⟩⟩
    · rw [decide_eq_true hn]
      refine i_f ?_
      dsimp only [sq_picked_labels_6, wpSs, wpS, wpE, wpEs, wpT, wpOr, wpAnd, List.getD_cons_zero, List.getD_cons_succ, List.set_cons_zero, List.set_cons_succ]
      refine i_call (c_row_names (h0.le l1) hL) fun v D2 l2 e => ?_
      refine hid fun gg hgg => ?_
      obtain ⟨tx, ws, rfl, _, h4, h5⟩ := e
      refine hgg ?_
      clear hgg gg
      dsimp only [sq_picked_labels_7, sq_picked_labels_8, wpSs, wpS, wpE, wpEs, wpT, wpOr, wpAnd, List.getD_cons_zero, List.getD_cons_succ, List.set_cons_zero, List.set_cons_succ]
      refine ⟨by simp, fun fp hfp => ?_⟩
      have l3 := DM.le_put (c := .lst []) hfp
      have wl : ws.length = ls.length := by rw [h5.1, hL.len]
      refine i_for0 (vs := ps) (hp.le ((l1.trans l2).trans l3)).ls hbig
        (fun i V' D' => ∃ o fo, V' = [some (.ref f), some (.ref pl), some (.ref rv), some (.int ls.length tc), some (.ref sp), some (.bool true), o, some (.ref tx), some (.ref fp)] ∧ D2.le D' ∧ D' fp = some (.lst fo) ∧ Strs fo ((pickS ss is).take i))
        ⟨o, [], rfl, l3, DM.put_same .., Strs.nil⟩ (fun i V' D' h => by obtain ⟨o, fo, rfl, l4, _⟩ := h; exact (hp.le ((l1.trans l2).trans l4)).ls) (fun i V' D' v hv h => ?_) fun V' D' h => ?_
      · refine hid fun gg hgg => ?_
        obtain ⟨o, fo, rfl, l4, q1, q2⟩ := h
        refine hgg ?_
        clear hgg gg
        refine hid fun gg hgg => ?_
        obtain ⟨p, tp, e1, rfl⟩ := hi.of hv
        refine hgg ?_
        clear hgg gg
        obtain ⟨p0, p1⟩ := hr p (List.mem_of_getElem? e1)
        have hlt : p.toNat < ss.length := by rw [← hL.len]; omega
        have e2 : ss[p.toNat]? = some ss[p.toNat] := by simp [hlt]
        obtain ⟨tt, e3⟩ := h5.2 _ _ e2
        have fl : fo.length ≤ big := by
          rw [q2.1, List.length_take]
          exact Nat.le_trans (Nat.min_le_right _ _) (by simp [pickS]; exact Nat.le_trans isl (by decide))
        dsimp only [sl_picked_labels_0, wpSs, wpS, wpE, wpEs, wpT, wpOr, wpAnd, List.getD_cons_zero, List.getD_cons_succ, List.set_cons_zero, List.set_cons_succ]
        refine ⟨fp, fo, rfl, q1, i_is_int (i_f (i_ge ?_))⟩
        rw [decide_eq_false (by omega)]
        refine i_f (i_f (i_item_l (h4.le l4) (by rw [wl]; exact X.rb) p0 e3 ⟨fo, q1, fl, ?_⟩))
        refine ⟨_, _, rfl, DM.le_mut hfp l4, DM.put_same .., ?_⟩
        have := pickS_get (vs := ss) e1
        rw [getD_of e2] at this
        rw [take_snoc this]
        exact q2.snoc
      · refine hid fun gg hgg => ?_
        obtain ⟨o, fo, rfl, l4, q1, q2⟩ := h
        refine hgg ?_
        clear hgg gg
        have e9 : ps.length = (pickS ss is).length := by simp [pickS, hi.1]
        rw [e9, List.take_length] at q2
        obtain ⟨u1, u2⟩ := hu hn
        dsimp only [sq_picked_labels_9, wpSs, wpS, wpE, wpEs, wpT, wpOr, wpAnd, List.getD_cons_zero, List.getD_cons_succ, List.set_cons_zero, List.set_cons_succ]
        intro t6
        refine i_call (c_make_unique q1 q2 u1 (by rw [← e9]; exact hb) u2) fun v D5 l5 e => ?_
        refine hid fun gg hgg => ?_
        obtain ⟨a, w2, rfl, q3, q4⟩ := e
        refine hgg ?_
        clear hgg gg
        have w2l : w2.length = is.length := by rw [q4.1, u1.1, ← e9, hi.1]
        refine i_call (c_character q3 (by rw [w2l]; exact Nat.le_trans isl (by decide))) fun v D6 l6 e => ?_
        refine hid fun gg hgg => ?_
        obtain ⟨x, i2, t7, rfl, _, q5, q6⟩ := e
        refine hgg ?_
        clear hgg gg
        exact ⟨((((l1.trans l2).trans l4).trans l5).trans l6), x, i2, t7, kC, w2, rfl, q5, q6, w2l, .inr ⟨hn, rfl, q4⟩⟩
end contracts
end Mine

namespace Mine

noncomputable def ColD.pick (c : ColD) (is : List Int) : ColD := { c with vs := pickV c.vs is }
noncomputable def pickC (cols : List ColD) (is : List Int) : List ColD := is.map fun p => cols.getD p.toNat ⟨kI, [], none⟩
theorem pickC_get {cols : List ColD} {is : List Int} {i : Nat} {p : Int} (h : is[i]? = some p) : (pickC cols is)[i]? = some (cols.getD p.toNat ⟨kI, [], none⟩) := by
  unfold pickC; rw [List.getElem?_map, h]; rfl
theorem cols_pick {D : DM} {cs : List Value} {cols : List ColD} {is : List Int} (h : ColsAt D cs cols) (hr : InR is cols.length) : ColsAt D (pickV cs is) (pickC cols is) := by
  refine ⟨by simp [pickV, pickC], fun i c hc => ?_⟩
  unfold pickC at hc
  rw [List.getElem?_map] at hc
  obtain ⟨p, hp, rfl⟩ := Option.map_eq_some_iff.mp hc
  obtain ⟨p0, p1⟩ := hr p (List.mem_of_getElem? hp)
  have hlt : p.toNat < cols.length := by omega
  have e : cols[p.toNat]? = some cols[p.toNat] := by simp [hlt]
  obtain ⟨x, e1, e2⟩ := h.2 _ _ e
  exact ⟨x, by rw [pickV_get hp, getD_of e1], by rw [getD_of e]; exact e2⟩

section contracts
variable {b : Bx} {D : DM}

theorem c_pick_rows {f pl : Addr} {cs nms ps : List Value} {lk : Str} {ls : List Value} {ss nss out : List Str} {cols : List ColD} {is : List Int} (h : FrameAt D f cs nms lk ls) (hc : ColsAt D cs cols) (hn : Strs nms nss) (hL : LabAt lk ls ss)
    (hp : L D pl ps) (hi : Ints ps is) (hr : InR is ls.length) (hb : ps.length ≤ 9) (hcb : cs.length ≤ 900) (hnb : nms.length ≤ 900) (hcl : ∀ c ∈ cols, c.vs.length = ls.length) (hu : ¬ is.Nodup → UStep (pickS ss is) out ∧ ∀ s ∈ pickS ss is, s.length ≤ 100) :
    Calls (GG b) 155 455 [.ref f, .ref pl] D fun v D' => D.le D' ∧ ∃ g cs' lk' ls', v = .ref g ∧ FrameAt D' g cs' nms lk' ls' ∧ ColsAt D' cs' (cols.map (·.pick is)) ∧ ls'.length = is.length ∧
      ((is.Nodup ∧ lk' = lk ∧ ls' = pickV ls is) ∨ (¬ is.Nodup ∧ lk' = kC ∧ Strs ls' out)) := by
  have h0 := h
  refine hid fun gg hgg => ?_
  obtain ⟨il, da, nv, nl, cv, cl, rv, rl, t, t1, t2, t3, t4, X⟩ := h
  refine hgg ?_
  clear hgg gg
  refine enterG (n := 124) (vs := [_, _]) (V := [some _, some _, none, none]) ck_pick_rows factsT bd_pick_rows ?_
  dsimp only [sm_pick_rows, wpSs, wpS, wpE, wpEs, wpT, wpOr, wpAnd, List.getD_cons_zero, List.getD_cons_succ, List.set_cons_zero, List.set_cons_succ]
  have isl : is.length ≤ 9 := hi.1 ▸ hb
  refine i_att1 X.v ?_
  refine i_comp0 X.i X.cb (fun i y D' => ∃ x c, y = .ref x ∧ cols[i]? = some c ∧ ColAt D' x c.kd (pickV c.vs is) c.fa) (fun i y D' D'' l h => by obtain ⟨x, c, e1, e2, e3⟩ := h; exact ⟨x, c, e1, e2, e3.le l⟩) (fun i v D' kk l hv hk => ?_) fun a o2 D2 ha ha1 l1 h4 h5 h6 => ?_
  · refine hid fun gg hgg => ?_
    obtain ⟨x, c, rfl, e1, e2⟩ := hc.of hv
    refine hgg ?_
    clear hgg gg
    dsimp only [sb_pick_rows_0, wpE, wpEs, List.getD_cons_zero, List.getD_cons_succ, List.set_cons_zero, List.set_cons_succ]
    refine i_call (c_pick_items (e2.le l) (hp.le l) hi (by rw [hcl c (List.mem_of_getElem? e1)]; exact hr) (by omega)) fun v D3 l3 e => ?_
    obtain ⟨y, rfl, e3⟩ := e
    exact hk _ _ l3 ⟨y, c, rfl, e1, e3⟩
  · have hcs : ColsAt (D2.put a (.lst o2)) o2 (cols.map (·.pick is)) := by
      refine ColsAt.mk' (by rw [h5, hc.1, List.length_map]) fun i v hv => ?_
      refine hid fun gg hgg => ?_
      obtain ⟨x, c, e1, e2, e3⟩ := h6 i v hv
      refine hgg ?_
      clear hgg gg
      exact ⟨x, c.pick is, e1, by rw [List.getElem?_map, e2]; rfl, e3⟩
    generalize D2.put a (.lst o2) = D3 at *
    refine i_call (c_column_names (h0.le l1) hn) fun v D4 l4 e => ?_
    refine hid fun gg hgg => ?_
    obtain ⟨na, rfl, _, q1⟩ := e
    refine hgg ?_
    clear hgg gg
    refine i_call (c_picked_labels (h0.le (l1.trans l4)) hL (hp.le (l1.trans l4)) hi hr hb hu) fun v D5 l5 e => ?_
    refine hid fun gg hgg => ?_
    obtain ⟨rv', rl', t', lk', ls', rfl, q2, q3, q4, q5⟩ := e
    refine hgg ?_
    clear hgg gg
    refine i_call (c_new_frame (h4.le (l4.trans l5)) (hcs.le (l4.trans l5)) (q1.le l5) q2 q3 (by rw [h5]; omega) (by omega) (by omega)) fun v D6 l6 e => ?_
    obtain ⟨g, rfl, q6⟩ := e
    exact ⟨((l1.trans l4).trans l5).trans l6, g, o2, lk', ls', rfl, q6, hcs.le ((l4.trans l5).trans l6), q4, q5⟩

theorem c_row_places {f x rl : Addr} {cs nms vs : List Value} {lk : Str} {ls : List Value} {ss : List Str} {js : List Int} {t : Tok} {at_ : Value} (h : FrameAt D f cs nms lk ls) (hL : LabAt lk ls ss)
    (hv : VecAt D x (.str kI t) (.ref rl) at_) (hl : L D rl vs) (hb : vs.length ≤ 1000) (hi : Ints vs js) (hp : ∀ i ∈ js, 0 < i) :
    Calls (GG b) 124 469 [.ref f, .ref x] D fun v D' => D.le D' ∧ ∃ p ps, v = .ref p ∧ L D' p ps ∧ Ints ps (js.map (· - 1)) := by
  refine enterG (n := 93) (vs := [_, _]) (V := [some _, some _, none]) ck_row_places factsT bd_row_places ?_
  dsimp only [sm_row_places, wpSs, wpS, wpE, wpEs, wpT, wpOr, wpAnd, List.getD_cons_zero, List.getD_cons_succ, List.set_cons_zero, List.set_cons_succ]
  refine i_call (c_frame_rows h) fun v D1 l1 e => ?_
  obtain ⟨⟨t1, rfl⟩, rfl⟩ := e
  refine i_call (c_is_absent1 hv) fun v D2 l2 e => ?_
  obtain ⟨rfl, rfl⟩ := e
  refine ⟨false, rfl, i_f (i_call (c_row_names h hL) fun v D3 l3 e => ?_)⟩
  refine hid fun gg hgg => ?_
  obtain ⟨a, ws, rfl, _, q1, q2⟩ := e
  refine hgg ?_
  clear hgg gg
  refine i_call (c_positions (hv.le l3) (hl.le l3) hb hi hp) fun v D4 l4 e => ?_
  refine hid fun gg hgg => ?_
  obtain ⟨tp, p, out, rfl, q3, _, q5, q6⟩ := e
  refine hgg ?_
  clear hgg gg
  intro t2
  exact i_item_tup q3 (by simp [big]) (Int.le_refl 0) (v := .ref p) rfl ⟨l3.trans l4, p, out, rfl, q5, q6⟩

theorem c_col_places0 {f : Addr} {cs nms : List Value} {lk : Str} {ls : List Value} (h : FrameAt D f cs nms lk ls) (hb : cs.length ≤ 900) :
    Calls (GG b) 155 476 [.ref f, .none] D fun v D' => D.le D' ∧ ∃ p ps, v = .ref p ∧ L D' p ps ∧ Ints ps (upto 0 cs.length) := by
  refine hid fun gg hgg => ?_
  obtain ⟨il, da, nv, nl, cv, cl, rv, rl, t, t1, t2, t3, t4, X⟩ := h
  refine hgg ?_
  clear hgg gg
  refine enterG (n := 124) (vs := [_, _]) (V := [some _, some _, none, none, none]) ck_column_places factsT bd_column_places ?_
  dsimp only [sm_column_places, wpSs, wpS, wpE, wpEs, wpT, wpOr, wpAnd, List.getD_cons_zero, List.getD_cons_succ, List.set_cons_zero, List.set_cons_succ]
  refine i_att1 X.v (i_len X.i X.cb fun t1 => i_call c_is_absent0 fun v D1 l1 e => ?_)
  obtain ⟨rfl, rfl⟩ := e
  refine ⟨true, rfl, i_t (i_range1 (by omega) (by omega) fun a ha => i_list_rng (DM.put_same ..) (by omega) fun a2 vs ha2 hv => ?_)⟩
  have e : ((cs.length : Int) - 0).toNat = cs.length := by omega
  rw [e] at hv
  exact ⟨(DM.le_put ha).trans (DM.le_put ha2), a2, vs, rfl, DM.put_same .., hv⟩

theorem c_col_places1 {f x rl : Addr} {cs nms vs : List Value} {lk : Str} {ls : List Value} {nss : List Str} {js : List Int} {t : Tok} {at_ : Value} (h : FrameAt D f cs nms lk ls) (hn : Strs nms nss)
    (hv : VecAt D x (.str kI t) (.ref rl) at_) (hl : L D rl vs) (hb : vs.length ≤ 900) (hi : Ints vs js) (hp : ∀ i ∈ js, 0 < i ∧ i ≤ cs.length) :
    Calls (GG b) 155 476 [.ref f, .ref x] D fun v D' => D.le D' ∧ ∃ p ps, v = .ref p ∧ L D' p ps ∧ Ints ps (js.map (· - 1)) := by
  have h0 := h
  refine hid fun gg hgg => ?_
  obtain ⟨il, da, nv, nl, cv, cl, rv, rl', t0, t1, t2, t3, t4, X⟩ := h
  refine hgg ?_
  clear hgg gg
  refine enterG (n := 124) (vs := [_, _]) (V := [some _, some _, none, none, none]) ck_column_places factsT bd_column_places ?_
  dsimp only [sm_column_places, wpSs, wpS, wpE, wpEs, wpT, wpOr, wpAnd, List.getD_cons_zero, List.getD_cons_succ, List.set_cons_zero, List.set_cons_succ]
  refine i_att1 X.v (i_len X.i X.cb fun t1 => i_call (c_is_absent1 hv) fun v D1 l1 e => ?_)
  obtain ⟨rfl, rfl⟩ := e
  refine ⟨false, rfl, i_f (i_call (c_column_names h0 hn) fun v D3 l3 e => ?_)⟩
  refine hid fun gg hgg => ?_
  obtain ⟨a, rfl, _, q1⟩ := e
  refine hgg ?_
  clear hgg gg
  refine i_call (c_positions (hv.le l3) (hl.le l3) (by omega) hi fun i hi => (hp i hi).1) fun v D4 l4 e => ?_
  refine hid fun gg hgg => ?_
  obtain ⟨tp, p, out, rfl, q3, _, q5, q6⟩ := e
  refine hgg ?_
  clear hgg gg
  intro t2
  refine i_item_tup q3 (by simp [big]) (Int.le_refl 0) (v := .ref p) rfl ?_
  have ol : out.length ≤ big := by rw [q6.1, List.length_map, ← hi.1]; exact Nat.le_trans hb (by decide)
  refine i_for0 (vs := out) q5.ls ol (fun i V' D' => ∃ o, V' = [some (.ref f), some (.ref x), some (.int cs.length t1), some (.ref p), o] ∧ D' = D4) ⟨none, rfl, rfl⟩ (fun i V' D' h => by obtain ⟨o, _, rfl⟩ := h; exact q5.ls) (fun i V' D' v hv2 h => ?_) fun V' D' h => ?_
  · obtain ⟨o, rfl, rfl⟩ := h
    refine hid fun gg hgg => ?_
    obtain ⟨z, tz, e1, rfl⟩ := q6.of hv2
    refine hgg ?_
    clear hgg gg
    rw [List.getElem?_map] at e1
    obtain ⟨j, e2, rfl⟩ := Option.map_eq_some_iff.mp e1
    obtain ⟨j0, j1⟩ := hp j (List.mem_of_getElem? e2)
    dsimp only [sl_column_places_0, wpSs, wpS, wpE, wpEs, wpT, wpOr, wpAnd, List.getD_cons_zero, List.getD_cons_succ, List.set_cons_zero, List.set_cons_succ]
    refine i_is_int (i_f (i_ge ?_))
    rw [decide_eq_false (by omega)]
    exact i_f (i_f ⟨_, rfl, rfl⟩)
  · obtain ⟨o, rfl, rfl⟩ := h
    exact ⟨l3.trans l4, p, out, rfl, q5, q6⟩

theorem c_select_columns {f : Addr} {jv : Value} {cs nms : List Value} {lk : Str} {ls : List Value} {nss : List Str} {cols : List ColD} {is : List Int} (h : FrameAt D f cs nms lk ls) (hc : ColsAt D cs cols) (hn : Strs nms nss)
    (hj : Calls (GG b) 155 476 [.ref f, jv] D fun v D' => D.le D' ∧ ∃ p ps, v = .ref p ∧ L D' p ps ∧ Ints ps is) (hr : InR is cs.length) (hnl : nss.length = cs.length) (hil : is.length ≤ 9) (hnd : (pickS nss is).Nodup) (hsl : ∀ s ∈ pickS nss is, s.length ≤ 100) (hlb : ls.length ≤ 900) :
    Calls (GG b) 186 481 [.ref f, jv] D fun v D' => D.le D' ∧ ∃ g nms', v = .ref g ∧ FrameAt D' g (pickV cs is) nms' lk ls ∧ ColsAt D' (pickV cs is) (pickC cols is) ∧ Strs nms' (pickS nss is) := by
  have h0 := h
  refine hid fun gg hgg => ?_
  obtain ⟨il, da, nv, nl, cv, cl, rv, rl, t0, t1, t2, t3, t4, X⟩ := h
  refine hgg ?_
  clear hgg gg
  refine enterG (n := 155) (vs := [_, _]) (V := [some _, some _, none, none, none, none]) ck_select_columns factsT bd_select_columns ?_
  dsimp only [sm_select_columns, wpSs, wpS, wpE, wpEs, wpT, wpOr, wpAnd, List.getD_cons_zero, List.getD_cons_succ, List.set_cons_zero, List.set_cons_succ]
  refine i_call hj fun v D1 l1 e => ?_
  refine hid fun gg hgg => ?_
  obtain ⟨p, ps, rfl, hp, hi⟩ := e
  refine hgg ?_
  clear hgg gg
  have pl9 : ps.length ≤ 9 := by rw [hi.1]; exact hil
  have pbig : ps.length ≤ big := Nat.le_trans pl9 (by decide)
  refine i_call (c_column_names (h0.le l1) hn) fun v D2 l2 e => ?_
  refine hid fun gg hgg => ?_
  obtain ⟨na, rfl, _, hna⟩ := e
  refine hgg ?_
  clear hgg gg
  have l12 := l1.trans l2
  refine i_comp0 (hp.le l2) pbig (fun i y D' => ∃ q, is[i]? = some q ∧ y = nms.getD q.toNat .none) (fun i y D' D'' _ h => h) (fun i v D' kk l hv hk => ?_) fun a o2 D3 ha ha1 l3 h4 h5 h6 => ?_
  · refine hid fun gg hgg => ?_
    obtain ⟨q, tq, e1, rfl⟩ := hi.of hv
    refine hgg ?_
    clear hgg gg
    obtain ⟨q0, q1⟩ := hr q (List.mem_of_getElem? e1)
    have hlt : q.toNat < nms.length := by rw [hn.1, hnl]; omega
    have e2 : nms[q.toNat]? = some nms[q.toNat] := by simp [hlt]
    dsimp only [sb_select_columns_1, wpE, wpEs, List.getD_cons_zero, List.getD_cons_succ, List.set_cons_zero, List.set_cons_succ]
    exact i_item_l (hna.le l) X.nb q0 e2 (hk _ _ (DM.le.refl _) ⟨q, e1, (getD_of e2).symm⟩)
  · have eo : o2 = pickV nms is := List.ext_getElem? fun i => by
      cases e : o2[i]? with
      | some y => obtain ⟨p, e3, rfl⟩ := h6 i y e; rw [pickV_get e3]
      | none =>
        have h7 := List.getElem?_eq_none_iff.mp e
        rw [h5, hi.1] at h7
        exact (List.getElem?_eq_none_iff.mpr (by simp [pickV]; exact h7)).symm
    subst eo
    generalize D3.put a (.lst (pickV nms is)) = D4 at *
    have hsp := strs_pick hn (by rw [hnl]; exact hr)
    intro t5
    refine i_call (c_make_unique h4 hsp (ustep_nodup hnd) (by simp [pickS]; exact hil) hsl) fun v D5 l5 e => ?_
    refine hid fun gg hgg => ?_
    obtain ⟨ua, us, rfl, hua, hus⟩ := e
    refine hgg ?_
    clear hgg gg
    have l15 := (l12.trans l3).trans l5
    refine i_comp0 (hp.le ((l2.trans l3).trans l5)) pbig (fun i y D' => ∃ q, is[i]? = some q ∧ y = cs.getD q.toNat .none) (fun i y D' D'' _ h => h) (fun i v D' kk l hv hk => ?_) fun a3 o3 D6 ha3 ha4 l6 h7 h8 h9 => ?_
    · refine hid fun gg hgg => ?_
      obtain ⟨q, tq, e1, rfl⟩ := hi.of hv
      refine hgg ?_
      clear hgg gg
      obtain ⟨q0, q1⟩ := hr q (List.mem_of_getElem? e1)
      have hlt : q.toNat < cs.length := by omega
      have e2 : cs[q.toNat]? = some cs[q.toNat] := by simp [hlt]
      dsimp only [sb_select_columns_0, wpE, wpEs, List.getD_cons_zero, List.getD_cons_succ, List.set_cons_zero, List.set_cons_succ]
      exact i_att1 (X.v.le (l15.trans l)) (i_item_l (X.i.le (l15.trans l)) X.cb q0 e2 (hk _ _ (DM.le.refl _) ⟨q, e1, (getD_of e2).symm⟩))
    · have eo : o3 = pickV cs is := List.ext_getElem? fun i => by
        cases e : o3[i]? with
        | some y => obtain ⟨p, e3, rfl⟩ := h9 i y e; rw [pickV_get e3]
        | none =>
          have h7 := List.getElem?_eq_none_iff.mp e
          rw [h8, hi.1] at h7
          exact (List.getElem?_eq_none_iff.mpr (by simp [pickV]; exact h7)).symm
      subst eo
      generalize D6.put a3 (.lst (pickV cs is)) = D7 at *
      have l17 := l15.trans l6
      have X' := X.le l17
      have hcp := cols_pick (hc.le l17) (by rw [← hc.1]; exact hr)
      refine i_att2 X'.v fun t6 => i_item_sd (frX_row X') (v := .ref rv) (by rfl) ?_
      refine i_call (c_new_frame h7 hcp (hua.le l6) X'.rv X'.rl (by simp [pickV]; omega) (by rw [hus.1]; simp [pickS]; omega) (by omega)) fun v D8 l8 e => ?_
      obtain ⟨g, rfl, q6⟩ := e
      exact ⟨l17.trans l8, g, us, rfl, q6, hcp.le l8, hus⟩

theorem c_order_frame {f pl : Addr} {P : Value → DM → Prop} (h : Calls (GG b) 155 455 [.ref f, .ref pl] D fun v D' => D.le D' ∧ P v D') : Calls (GG b) 186 516 [.ref f, .ref pl] D fun v D' => D.le D' ∧ P v D' := by
  refine enterG (n := 155) (vs := [_, _]) (V := [some _, some _]) ck_order_frame factsT bd_order_frame ?_
  dsimp only [sm_order_frame, wpSs, wpS, wpE, wpEs, wpT, wpOr, wpAnd, List.getD_cons_zero, List.getD_cons_succ, List.set_cons_zero, List.set_cons_succ]
  exact i_call h fun v D' l e => ⟨l, e⟩

theorem c_head_places {n w : Nat} {t t' : Tok} (hn : n ≤ 900) : Calls (GG b) 31 495 [.int n t, .int w t'] D fun v D' => D.le D' ∧ ∃ p ps, v = .ref p ∧ L D' p ps ∧ Ints ps (upto 0 (min n w)) := by
  refine enterG (n := 0) (vs := [_, _]) (V := [some _, some _]) ck_head_places factsT bd_head_places ?_
  dsimp only [sm_head_places, wpSs, wpS, wpE, wpEs, wpT, wpOr, wpAnd, List.getD_cons_zero, List.getD_cons_succ, List.set_cons_zero, List.set_cons_succ]
  intro t1
  refine i_lt ?_
  rw [decide_eq_false (by omega)]
  refine i_f fun t2 => i_range1 (by omega) (by omega) fun a ha => i_list_rng (DM.put_same ..) (by omega) fun a2 vs ha2 hv => ?_
  have e : (min (n : Int) (w : Int) - 0).toNat = min n w := by omega
  rw [e] at hv
  exact ⟨(DM.le_put ha).trans (DM.le_put ha2), a2, vs, rfl, DM.put_same .., hv⟩

theorem c_head_frame {f : Addr} {cs nms : List Value} {lk : Str} {ls : List Value} {w : Nat} {t : Tok} {P : Value → DM → Prop} (h : FrameAt D f cs nms lk ls) (hb : ls.length ≤ 900)
    (hP : ∀ D1 p ps, D.le D1 → L D1 p ps → Ints ps (upto 0 (min ls.length w)) → Calls (GG b) 155 455 [.ref f, .ref p] D1 fun v D' => D1.le D' ∧ P v D') : Calls (GG b) 186 502 [.ref f, .int w t] D fun v D' => D.le D' ∧ P v D' := by
  refine enterG (n := 155) (vs := [_, _]) (V := [some _, some _]) ck_head_frame factsT bd_head_frame ?_
  dsimp only [sm_head_frame, wpSs, wpS, wpE, wpEs, wpT, wpOr, wpAnd, List.getD_cons_zero, List.getD_cons_succ, List.set_cons_zero, List.set_cons_succ]
  refine i_call (c_frame_rows h) fun v D1 l1 e => ?_
  obtain ⟨⟨t1, rfl⟩, rfl⟩ := e
  refine i_call (c_head_places hb) fun v D2 l2 e => ?_
  refine hid fun gg hgg => ?_
  obtain ⟨p, ps, rfl, q1, q2⟩ := e
  refine hgg ?_
  clear hgg gg
  exact i_call (hP D2 p ps l2 q1 q2) fun v D' l e => ⟨l2.trans l, e⟩

theorem c_tail_frame {f : Addr} {cs nms : List Value} {lk : Str} {ls : List Value} {w : Nat} {t : Tok} {P : Value → DM → Prop} (h : FrameAt D f cs nms lk ls) (hb : ls.length ≤ 900) (hw : w ≤ ls.length)
    (hP : ∀ D1 p ps, D.le D1 → L D1 p ps → Ints ps (upto ((ls.length - w : Nat) : Int) w) → Calls (GG b) 155 455 [.ref f, .ref p] D1 fun v D' => D1.le D' ∧ P v D') : Calls (GG b) 186 509 [.ref f, .int w t] D fun v D' => D.le D' ∧ P v D' := by
  refine enterG (n := 155) (vs := [_, _]) (V := [some _, some _, none, none]) ck_tail_frame factsT bd_tail_frame ?_
  dsimp only [sm_tail_frame, wpSs, wpS, wpE, wpEs, wpT, wpOr, wpAnd, List.getD_cons_zero, List.getD_cons_succ, List.set_cons_zero, List.set_cons_succ]
  refine i_call (c_frame_rows h) fun v D1 l1 e => ?_
  obtain ⟨⟨t1, rfl⟩, rfl⟩ := e
  intro t2
  refine i_lt ?_
  rw [decide_eq_false (by omega)]
  refine i_f fun t3 t4 t5 => ?_
  have e : max ((ls.length : Int) - (w : Int)) 0 = ((ls.length - w : Nat) : Int) := by omega
  rw [e]
  refine i_range2 (by omega) (by omega) (by omega) (by omega) fun a ha => i_list_rng (DM.put_same ..) (by omega) fun a2 vs ha2 hv => ?_
  have e2 : ((ls.length : Int) - ((ls.length - w : Nat) : Int)).toNat = w := by omega
  rw [e2] at hv
  have l2 := (DM.le_put (c := .rng ((ls.length - w : Nat) : Int) ls.length) ha).trans (DM.le_put (c := .lst vs) ha2)
  exact i_call (hP _ a2 vs l2 (DM.put_same ..) hv) fun v D' l e => ⟨l2.trans l, e⟩
end contracts
end Mine

namespace Mine

theorem i_notin_strs {D : DM} {l : Addr} {vs : List Value} {ss : List Str} {s : Str} {t : Tok} {P : Bool → Prop} (hl : L D l vs) (hs : Strs vs ss) (h : P (!decide (s ∈ ss))) : ∃ r, cmpR D .NotIn (.str s t) (.ref l) r ∧ P r :=
  ⟨_, .inl ⟨vs, hl.ls, (any_strs hs s t).1, by rw [Bool.not_not]; exact (any_strs hs s t).2.symm⟩, h⟩

noncomputable def sq_subset_frame_4 : Ss := .cons (.ret (.v 4)) .nil
noncomputable def sq_subset_frame_3 : Ss := .cons (.ite (.and (.cons (.e (.v 3)) (.cons (.cmp .Eq (.call (.own 379) (.cons (.v 4) .nil)) (.int 1)) .nil))) (.cons (.set 6 (.call .vec (.cons (.str "list") (.cons (.call .list (.cons (.att (.v 4) 1) .nil)) .nil)))) (.cons (.satt (.v 6) 2 (.dct ["names"] (.cons (.call (.own 196) (.cons (.call (.own 384) (.cons (.v 4) .nil)) .nil)) .nil))) (.cons (.ret (.v 6)) .nil))) .nil) sq_subset_frame_4
noncomputable def sq_subset_frame_2 : Ss := .cons (.ite (.and (.cons (.cmp .Eq (.call .len (.cons (.att (.v 4) 1) .nil)) (.int 1)) (.cons (.or (.cons (.e (.v 3)) (.cons (.and (.cons (.cmp .Is (.v 3) .none) (.cons (.nt (.e (.call (.own 462) (.cons (.v 2) .nil)))) .nil))) .nil))) .nil))) (.cons (.ret (.idx (.att (.v 4) 1) (.int 0))) .nil) .nil) sq_subset_frame_3
noncomputable def sq_subset_frame_1 : Ss := .cons (.ite (.nt (.e (.call (.own 462) (.cons (.v 1) .nil)))) (.cons (.set 5 (.call (.own 469) (.cons (.v 0) (.cons (.v 1) .nil)))) (.cons (.ite (.and (.cons (.cmp .Eq (.call .len (.cons (.att (.v 4) 1) .nil)) (.int 1)) (.cons (.or (.cons (.cmp .Is (.v 3) .none) (.cons (.e (.v 3)) .nil))) .nil))) (.cons (.ret (.call (.own 412) (.cons (.idx (.att (.v 4) 1) (.int 0)) (.cons (.v 5) .nil)))) .nil) .nil) (.cons (.set 4 (.call (.own 455) (.cons (.v 4) (.cons (.v 5) .nil)))) .nil))) .nil) sq_subset_frame_2
noncomputable def sq_subset_frame_0 : Ss := .cons (.set 4 (.call (.own 481) (.cons (.v 0) (.cons (.v 2) .nil)))) sq_subset_frame_1

noncomputable def sq_is_frame_4 : Ss := .cons (.ret (.bool true)) .nil
noncomputable def sq_is_frame_3 : Ss := .cons (.for_ 0 2 (.att (.v 0) 1) sl_is_frame_0) sq_is_frame_4
noncomputable def sq_is_frame_2 : Ss := .cons (.ite (.and (.cons (.cmp .Gt (.call .len (.cons (.att (.v 0) 1) .nil)) (.int 0)) (.cons (.or (.cons (.cmp .Is (.v 1) .none) (.cons (.cmp .NotEq (.call .len (.cons (.v 1) .nil)) (.call .len (.cons (.att (.v 0) 1) .nil))) .nil))) .nil))) (.cons (.ret (.bool false)) .nil) .nil) sq_is_frame_3
noncomputable def sq_is_frame_1 : Ss := .cons (.set 1 (.call (.own 248) (.cons (.v 0) .nil))) sq_is_frame_2
noncomputable def sq_is_frame_0 : Ss := .cons (.ite (.or (.cons (.cmp .NotEq (.att (.v 0) 0) (.str "list")) (.cons (.cmp .NotIn (.str "data.frame") (.call (.own 267) (.cons (.v 0) .nil))) (.cons (.cmp .NotIn (.str "row.names") (.att (.v 0) 2)) .nil)))) (.cons (.ret (.bool false)) .nil) .nil) sq_is_frame_1
section contracts
variable {b : Bx} {D : DM}

theorem c_is_frame {f : Addr} {cs nms : List Value} {lk : Str} {ls : List Value} {cols : List ColD} (h : FrameAt D f cs nms lk ls) (hc : ColsAt D cs cols) (hn : nms.length = cs.length) (hcl : ∀ c ∈ cols, c.vs.length = ls.length) :
    Calls (GG b) 124 360 [.ref f] D fun v D' => D.le D' ∧ (v = .bool true) := by
  have h0 := h
  refine hid fun gg hgg => ?_
  obtain ⟨il, da, nv, nl, cv, cl, rv, rl, t, t1, t2, t3, t4, X⟩ := h
  refine hgg ?_
  clear hgg gg
  refine enterG (n := 93) (vs := [_]) (V := [some _, none, none]) ck_is_frame factsT bd_is_frame ?_
  show wpSs _ _ sq_is_frame_0 _ _ _
  dsimp only [sq_is_frame_0, wpSs, wpS, wpE, wpEs, wpT, wpOr, wpAnd, List.getD_cons_zero, List.getD_cons_succ, List.set_cons_zero, List.set_cons_succ]
  refine i_att0 X.v fun t5 => i_nes true (i_f fun t6 => i_call (c_class_frame h0) fun v D1 l1 e => ?_)
  refine hid fun gg hgg => ?_
  obtain ⟨a, t7, rfl, _, q1⟩ := e
  refine hgg ?_
  clear hgg gg
  refine i_notin_strs (ss := [Str.ofString "data.frame"]) q1 (Strs.nil.snoc (t := t7)) ?_
  have e : decide (Str.ofString "data.frame" ∈ [Str.ofString "data.frame"]) = true := by simp
  rw [e]
  refine i_f fun t8 => i_att2 (X.v.le l1) (i_notin_sd (frX_row (X.le l1)) (i_f (i_f ?_)))
  dsimp only [sq_is_frame_1, wpSs, wpS, wpE, wpEs, wpT, wpOr, wpAnd, List.getD_cons_zero, List.getD_cons_succ, List.set_cons_zero, List.set_cons_succ]
  refine i_call (c_names_frame (h0.le l1)) fun v D2 l2 e => ?_
  refine hid fun gg hgg => ?_
  obtain ⟨na, rfl, _, q2⟩ := e
  refine hgg ?_
  clear hgg gg
  have l12 := l1.trans l2
  dsimp only [sq_is_frame_2, wpSs, wpS, wpE, wpEs, wpT, wpOr, wpAnd, List.getD_cons_zero, List.getD_cons_succ, List.set_cons_zero, List.set_cons_succ]
  refine i_att1 (X.v.le l12) (i_len (X.i.le l12) X.cb fun t9 t10 => i_gt ?_)
  have tail : wpSs (GG b) 93 sq_is_frame_3 [some (.ref f), some (.ref na), none] D2 fun fl V' D' => D.le D' ∧ flowV fl = .bool true := by
    dsimp only [sq_is_frame_3, sq_is_frame_4, wpSs, wpS, wpE, wpEs, wpT, wpOr, wpAnd, List.getD_cons_zero, List.getD_cons_succ, List.set_cons_zero, List.set_cons_succ]
    refine i_att1 (X.v.le l12) ?_
    refine i_for0 (vs := cs) (X.i.le l12).ls X.cb (fun i V' D' => ∃ o, V' = [some (.ref f), some (.ref na), o] ∧ D.le D') ⟨none, rfl, l12⟩ (fun i V' D' h => by obtain ⟨o, _, l⟩ := h; exact (X.i.le l).ls) (fun i V' D' v hv h => ?_) fun V' D' h => ?_
    · obtain ⟨o, rfl, l3⟩ := h
      refine hid fun gg hgg => ?_
      obtain ⟨x, c, rfl, e1, hk, hvb, il', tt, at_, hv', hil, hf⟩ := hc.of hv
      refine hgg ?_
      clear hgg gg
      dsimp only [sl_is_frame_0, wpSs, wpS, wpE, wpEs, wpT, wpOr, wpAnd, List.getD_cons_zero, List.getD_cons_succ, List.set_cons_zero, List.set_cons_succ]
      refine i_call (c_is_vector (hv'.le l3)) fun v D4 l4 e => ?_
      obtain ⟨rfl, rfl⟩ := e
      refine ⟨true, rfl, i_f (i_att1 (hv'.le l3) (i_len (hil.le l3) hvb fun t11 => i_call (c_frame_rows (h0.le l3)) fun v D5 l5 e => ?_))⟩
      obtain ⟨⟨t12, rfl⟩, rfl⟩ := e
      refine i_ne (r := true) (by rw [hcl c (List.mem_of_getElem? e1)]; simp [aeq_ii, aeq_ss]) (i_f (i_f ⟨_, rfl, l3⟩))
    · obtain ⟨o, rfl, l3⟩ := h
      exact ⟨l3, rfl⟩
  cases hd : decide ((0 : Int) < (cs.length : Int)) with
  | false => exact i_f (i_f tail)
  | true =>
    refine i_t (i_is_ref (i_f (i_len q2 X.nb fun t11 => i_att1 (X.v.le l12) (i_len (X.i.le l12) X.cb fun t12 => i_ne (r := true) (by rw [hn]; simp [aeq_ii, aeq_ss]) (i_f (i_f (i_f tail)))))))

theorem len_one (n : Nat) (t5 t6 : Tok) : aeq (.int n t5) (.int 1 t6) = some (decide (n = 1)) := by
  show some ((n : Int) == 1) = _
  by_cases e : n = 1
  · rw [e]; rfl
  · have : ¬ ((n : Int) = 1) := by omega
    simp [e, this]
theorem sub_tail3 {f g : Addr} {x jv : Value} {o5 o6 : Option Value} {k : Flow → Vs → DM → Prop} (h : k (.ret (.ref g)) [some (.ref f), some x, some jv, some (.bool false), some (.ref g), o5, o6] D) :
    wpSs (GG b) 186 sq_subset_frame_3 [some (.ref f), some x, some jv, some (.bool false), some (.ref g), o5, o6] D k := by
  dsimp only [sq_subset_frame_3, sq_subset_frame_4, wpSs, wpS, wpE, wpEs, wpT, wpOr, wpAnd, List.getD_cons_zero, List.getD_cons_succ, List.set_cons_zero, List.set_cons_succ]
  exact ⟨false, rfl, i_f (i_f h)⟩
theorem sub_tail {f g : Addr} {x jv : Value} {o5 o6 : Option Value} {k : Flow → Vs → DM → Prop} {cs nms : List Value} {lk : Str} {ls : List Value} (hfr : FrameAt D g cs nms lk ls)
    (h : k (.ret (.ref g)) [some (.ref f), some x, some jv, some (.bool false), some (.ref g), o5, o6] D) :
    wpSs (GG b) 186 sq_subset_frame_2 [some (.ref f), some x, some jv, some (.bool false), some (.ref g), o5, o6] D k := by
  refine hid fun gg hgg => ?_
  obtain ⟨il, da, nv, nl, cv, cl, rv, rl, t, t1, t2, t3, t4, X⟩ := hfr
  refine hgg ?_
  clear hgg gg
  have tail := sub_tail3 (b := b) (D := D) h
  dsimp only [sq_subset_frame_2, wpSs, wpS, wpE, wpEs, wpT, wpOr, wpAnd, List.getD_cons_zero, List.getD_cons_succ, List.set_cons_zero, List.set_cons_succ]
  refine i_att1 X.v (i_len X.i X.cb fun t5 t6 => i_eq (len_one _ _ _) ?_)
  cases hd : decide (cs.length = 1) with
  | false => exact i_f (i_f tail)
  | true => exact i_t ⟨false, rfl, i_f (i_is_bool (i_f (i_f (i_f (i_f tail)))))⟩

theorem c_subset0 {f : Addr} {jv : Value} {P : Addr → DM → Prop} (hP : ∀ g D', P g D' → ∃ cs nms lk ls, FrameAt D' g cs nms lk ls)
    (hs : Calls (GG b) 186 481 [.ref f, jv] D fun v D' => D.le D' ∧ ∃ g, v = .ref g ∧ P g D') : Calls (GG b) 217 488 [.ref f, .none, jv, .bool false] D fun v D' => D.le D' ∧ ∃ g, v = .ref g ∧ P g D' := by
  refine enterG (n := 186) (vs := [_, _, _, _]) (V := [some _, some _, some _, some _, none, none, none]) ck_subset_frame factsT bd_subset_frame ?_
  show wpSs _ _ sq_subset_frame_0 _ _ _
  dsimp only [sq_subset_frame_0, sq_subset_frame_1, wpSs, wpS, wpE, wpEs, wpT, wpOr, wpAnd, List.getD_cons_zero, List.getD_cons_succ, List.set_cons_zero, List.set_cons_succ]
  refine i_call hs fun v D1 l1 e => ?_
  obtain ⟨g, rfl, hg⟩ := e
  refine hid fun gg hgg => ?_
  obtain ⟨cs, nms, lk, ls, hfr⟩ := hP g D1 hg
  refine hgg ?_
  clear hgg gg
  refine i_call c_is_absent0 fun v D2 l2 e => ?_
  obtain ⟨rfl, rfl⟩ := e
  exact ⟨true, rfl, i_f (sub_tail hfr ⟨l1, g, rfl, hg⟩)⟩

theorem c_subset1 {f x : Addr} {jv it at_ : Value} {t : Tok} {is : List Int} {P P2 : Addr → DM → Prop} (hP : ∀ g D', P g D' → ∃ cs nms lk ls, FrameAt D' g cs nms lk ls) (hP2 : ∀ g D', P2 g D' → ∃ cs nms lk ls, FrameAt D' g cs nms lk ls) (hm : ∀ g D' D'', D'.le D'' → P g D' → P g D'')
    (hv : VecAt D x (.str kI t) it at_)
    (hs : Calls (GG b) 186 481 [.ref f, jv] D fun v D' => D.le D' ∧ ∃ g, v = .ref g ∧ P g D')
    (hr : ∀ D1, D.le D1 → Calls (GG b) 124 469 [.ref f, .ref x] D1 fun v D' => D1.le D' ∧ ∃ p ps, v = .ref p ∧ L D' p ps ∧ Ints ps is)
    (hp : ∀ D1 g p ps, D.le D1 → P g D1 → L D1 p ps → Ints ps is → Calls (GG b) 155 455 [.ref g, .ref p] D1 fun v D' => D1.le D' ∧ ∃ g', v = .ref g' ∧ P2 g' D') :
    Calls (GG b) 217 488 [.ref f, .ref x, jv, .bool false] D fun v D' => D.le D' ∧ ∃ g, v = .ref g ∧ P2 g D' := by
  refine enterG (n := 186) (vs := [_, _, _, _]) (V := [some _, some _, some _, some _, none, none, none]) ck_subset_frame factsT bd_subset_frame ?_
  show wpSs _ _ sq_subset_frame_0 _ _ _
  dsimp only [sq_subset_frame_0, sq_subset_frame_1, wpSs, wpS, wpE, wpEs, wpT, wpOr, wpAnd, List.getD_cons_zero, List.getD_cons_succ, List.set_cons_zero, List.set_cons_succ]
  refine i_call hs fun v D1 l1 e => ?_
  obtain ⟨g, rfl, hg⟩ := e
  refine i_call (c_is_absent1 (hv.le l1)) fun v D2 l2 e => ?_
  obtain ⟨rfl, rfl⟩ := e
  refine ⟨false, rfl, i_t (i_call (hr D2 l1) fun v D3 l3 e => ?_)⟩
  refine hid fun gg hgg => ?_
  obtain ⟨p, ps, rfl, q1, q2⟩ := e
  refine hgg ?_
  clear hgg gg
  have hg3 := hm _ _ _ l3 hg
  refine hid fun gg hgg => ?_
  obtain ⟨cs, nms, lk, ls, hfr⟩ := hP g D3 hg3
  refine hgg ?_
  clear hgg gg
  refine hid fun gg hgg => ?_
  obtain ⟨il, da, nv, nl, cv, cl, rv, rl, t0, t1, t2, t3, t4, X⟩ := hfr
  refine hgg ?_
  clear hgg gg
  have fin : ∀ D4, D3.le D4 → ∀ g', P2 g' D4 → ∀ k : Flow → Vs → DM → Prop, (k (.ret (.ref g')) [some (.ref f), some (.ref x), some jv, some (.bool false), some (.ref g'), some (.ref p), none] D4) →
      wpSs (GG b) 186 sq_subset_frame_2 [some (.ref f), some (.ref x), some jv, some (.bool false), some (.ref g'), some (.ref p), none] D4 k := fun D4 l4 g' hg' k hk => by
    refine hid fun gg hgg => ?_
    obtain ⟨cs', nms', lk', ls', hfr'⟩ := hP2 g' D4 hg'
    refine hgg ?_
    clear hgg gg
    exact sub_tail hfr' hk
  refine i_att1 X.v (i_len X.i X.cb fun t5 t6 => i_eq (len_one _ _ _) ?_)
  cases hd : decide (cs.length = 1) with
  | false =>
    refine i_f (i_f (i_call (hp D3 g p ps (l1.trans l3) hg3 q1 q2) fun v D4 l4 e => ?_))
    obtain ⟨g', rfl, hg'⟩ := e
    exact fin D4 l4 g' hg' _ ⟨(l1.trans l3).trans l4, g', rfl, hg'⟩
  | true =>
    refine i_t (i_is_bool (i_f ⟨false, rfl, i_f (i_f (i_f (i_call (hp D3 g p ps (l1.trans l3) hg3 q1 q2) fun v D4 l4 e => ?_)))⟩))
    obtain ⟨g', rfl, hg'⟩ := e
    exact fin D4 l4 g' hg' _ ⟨(l1.trans l3).trans l4, g', rfl, hg'⟩
end contracts
end Mine

namespace Mine

/-- the script's reader: at most n taken -/
noncomputable def StA0 (D : DM) (st r : Addr) (n : Nat) : Prop := ∃ row is at_ t, (D st = some (.lst [.ref r, .int at_ t]) ∨ D st = some (.mls [.ref r, .int at_ t])) ∧ L D r row ∧ r ≠ st ∧ Ints row is ∧ row.length ≤ 40 ∧ 0 ≤ at_ ∧ at_ ≤ n
/-- the same, once it has been stored into -/
noncomputable def StAt (D : DM) (st r : Addr) (n : Nat) : Prop := ∃ row is at_ t, D st = some (.mls [.ref r, .int at_ t]) ∧ L D r row ∧ r ≠ st ∧ Ints row is ∧ row.length ≤ 40 ∧ 0 ≤ at_ ∧ at_ ≤ n
theorem StAt.le {D D' : DM} {st r : Addr} {n : Nat} (h : StAt D st r n) (l : D.le D') : StAt D' st r n := by
  refine hid fun gg hgg => ?_
  obtain ⟨row, is, at_, t, h1, h2, h3, h4⟩ := h
  refine hgg ?_
  clear hgg gg
  exact ⟨row, is, at_, t, l _ _ h1, h2.le l, h3, h4⟩
theorem StAt.st0 {D : DM} {st r : Addr} {n : Nat} (h : StAt D st r n) : StA0 D st r n := by
  refine hid fun gg hgg => ?_
  obtain ⟨row, is, at_, t, h1, h⟩ := h
  refine hgg ?_
  clear hgg gg
  exact ⟨row, is, at_, t, .inr h1, h⟩
theorem StAt.mono {D : DM} {st r : Addr} {n m : Nat} (h : StAt D st r n) (hm : n ≤ m) : StAt D st r m := by
  refine hid fun gg hgg => ?_
  obtain ⟨row, is, at_, t, h1, h2, h3, h4, h5, h6, h7⟩ := h
  refine hgg ?_
  clear hgg gg
  exact ⟨row, is, at_, t, h1, h2, h3, h4, h5, h6, by omega⟩
/-- no object of the class, no attributes' table stands there -/
noncomputable def Flat (D : DM) (a : Addr) : Prop := (∀ d, D a ≠ some (.ins d)) ∧ (∀ fs, D a ≠ some (.vdc fs)) ∧ (∀ kvs, D a ≠ some (.ds kvs)) ∧ (∀ vs, D a ≠ some (.lst vs))
theorem StAt.flat {D : DM} {st r : Addr} {n : Nat} (h : StAt D st r n) : Flat D st := by
  refine hid fun gg hgg => ?_
  obtain ⟨row, is, at_, t, h1, _⟩ := h
  refine hgg ?_
  clear hgg gg
  exact ⟨fun d e => (by rw [h1] at e; cases e), fun d e => (by rw [h1] at e; cases e), fun d e => (by rw [h1] at e; cases e), fun d e => (by rw [h1] at e; cases e)⟩
theorem VecAt.delF {D : DM} {x a : Addr} {kd it at_ : Value} (h : VecAt D x kd it at_) (ha : Flat D a) : VecAt (D.del a) x kd it at_ := by
  refine hid fun gg hgg => ?_
  obtain ⟨d, u, w, h1, h2⟩ := h
  refine hgg ?_
  clear hgg gg
  exact ⟨d, u, w, by rw [DM.del_ne _ (fun q => by rw [q] at h1; exact ha.1 _ h1)]; exact h1, by rw [DM.del_ne _ (fun q => by rw [q] at h2; exact ha.2.1 _ h2)]; exact h2⟩

theorem L.delF {D : DM} {l a : Addr} {vs : List Value} (h : L D l vs) (ha : Flat D a) : L (D.del a) l vs := by
  have h' : D l = _ := h
  show (D.del a) l = _
  rw [DM.del_ne _ (fun q => by rw [q] at h'; exact ha.2.2.2 _ h')]; exact h
theorem FacAt.delF {D : DM} {a : Addr} {at_ : Value} {fa : Option (Addr × Addr × Addr × Addr)} (h : FacAt D at_ fa) (ha : Flat D a) : FacAt (D.del a) at_ fa := by
  cases fa with
  | none => exact h
  | some q => obtain ⟨da, t1, t2, e, h1, h2, h3⟩ := h; exact ⟨da, t1, t2, e, by rw [DM.del_ne _ (fun q => by rw [q] at h1; exact ha.2.2.1 _ h1)]; exact h1, h2.delF ha, h3.delF ha⟩
theorem ColAt.delF {D : DM} {x a : Addr} {kd : Str} {vs : List Value} {fa : Option (Addr × Addr × Addr × Addr)} (h : ColAt D x kd vs fa) (ha : Flat D a) : ColAt (D.del a) x kd vs fa := by
  refine hid fun gg hgg => ?_
  obtain ⟨h1, h2, il, t, at_, h3, h4, h5⟩ := h
  refine hgg ?_
  clear hgg gg
  exact ⟨h1, h2, il, t, at_, h3.delF ha, h4.delF ha, h5.delF ha⟩
theorem ColsAt.delF {D : DM} {a : Addr} {cs : List Value} {cols : List ColD} (h : ColsAt D cs cols) (ha : Flat D a) : ColsAt (D.del a) cs cols :=
  ⟨h.1, fun i c e => by obtain ⟨x, e1, e2⟩ := h.2 i c e; exact ⟨x, e1, e2.delF ha⟩⟩
theorem FrameAt.delF {D : DM} {f a : Addr} {cs nms : List Value} {lk : Str} {ls : List Value} (h : FrameAt D f cs nms lk ls) (ha : Flat D a) : FrameAt (D.del a) f cs nms lk ls := by
  refine hid fun gg hgg => ?_
  obtain ⟨il, da, nv, nl, cv, cl, rv, rl, t, t1, t2, t3, t4, X⟩ := h
  refine hgg ?_
  clear hgg gg
  exact ⟨il, da, nv, nl, cv, cl, rv, rl, t, t1, t2, t3, t4, X.v.delF ha, X.i.delF ha, by rw [DM.del_ne _ (fun q => by have := X.d; rw [q] at this; exact ha.2.2.1 _ this)]; exact X.d, X.nv.delF ha, X.nl.delF ha, X.cv.delF ha, X.cl.delF ha, X.rv.delF ha, X.rl.delF ha, X.cb, X.nb, X.rb⟩
theorem veq_list {D : DM} {d : Nat} {a b : Addr} {xs ys : List Value} (hx : LsAt D a xs) (hy : LsAt D b ys) (hl : xs.length = ys.length)
    (h : ∀ (i : Nat) (x y : Value), xs[i]? = some x → ys[i]? = some y → x = y ∨ aeq x y = some true ∨ Veq D d x y true) : Veq D (d + 1) (.ref a) (.ref b) true := by
  refine .inr (.inl ⟨a, b, xs, ys, rfl, rfl, hx, hy, .inr ⟨hl, fun _ => true, ?_, fun i x y e1 e2 => ?_⟩⟩)
  · symm; rw [List.all_eq_true]; exact fun _ _ => rfl
  · rcases h i x y e1 e2 with e | e | e
    · exact .inl ⟨e, rfl⟩
    · exact .inr (.inr e)
    · by_cases q : x = y
      · exact .inl ⟨q, rfl⟩
      · exact .inr (.inl ⟨q, e⟩)
theorem veq_len {D : DM} {d : Nat} {a b : Addr} {xs ys : List Value} (hx : LsAt D a xs) (hy : LsAt D b ys) (hl : xs.length ≠ ys.length) : Veq D (d + 1) (.ref a) (.ref b) false :=
  .inr (.inl ⟨a, b, xs, ys, rfl, rfl, hx, hy, .inl ⟨hl, rfl⟩⟩)
theorem i_eqv {D : DM} {d : Nat} {x y : Value} {r : Bool} {P : Bool → Prop} (hd : d ≤ 8) (e : Veq D d x y r) (h : P r) : ∃ r, cmpR D .Eq x y r ∧ P r := ⟨r, ⟨d, hd, e⟩, h⟩
theorem i_nev {D : DM} {d : Nat} {x y : Value} {r : Bool} {P : Bool → Prop} (hd : d ≤ 8) (e : Veq D d x y r) (h : P (!r)) : ∃ r, cmpR D .NotEq x y r ∧ P r := ⟨!r, ⟨d, hd, by rw [Bool.not_not]; exact e⟩, h⟩

section contracts
variable {b : Bx} {D : DM}

theorem c_law_take {st r : Addr} {n : Nat} {m : Int} {tm : Tok} (h : StA0 D st r n) (hn : n ≤ 5000) (hm : 0 < m) :
    Calls (GG b) 31 523 [.ref st, .int m tm] D fun v D' => (D.del st).le (D'.del st) ∧ StAt D' st r (n + 1) ∧ ∃ j t, v = .int j t ∧ 0 ≤ j ∧ j < m := by
  refine hid fun gg hgg => ?_
  obtain ⟨row, is, at_, ta, h1, h2, h3, h4, h5, h6, h7⟩ := h
  refine hgg ?_
  clear hgg gg
  refine enterG (n := 0) (vs := [_, _]) (V := [some _, some _, none, none]) ck_law_take factsT bd_law_take ?_
  dsimp only [sm_law_take, wpSs, wpS, wpE, wpEs, wpT, wpOr, wpAnd, List.getD_cons_zero, List.getD_cons_succ, List.set_cons_zero, List.set_cons_succ]
  have hls : LsAt D st [.ref r, .int at_ ta] := by rcases h1 with e | e <;> exact ⟨_, e, rfl⟩
  refine ⟨st, _, rfl, hls, rfl, ?_⟩
  dsimp only [setAll, List.getD_cons_zero, List.getD_cons_succ, List.set_cons_zero, List.set_cons_succ]
  intro t1 t2 t3
  refine .inl ⟨_, 1, t3, h1, rfl, by decide, by simp, by simp [big], ?_⟩
  have e1 : ([Value.ref r, Value.int at_ ta].set (1 : Int).toNat (.int (at_ + 1) t2)) = [.ref r, .int (at_ + 1) t2] := rfl
  rw [e1]
  have hrow : L (D.put st (.mls [.ref r, .int (at_ + 1) t2])) r row := by
    show (D.put st _) r = _
    rw [DM.put_ne _ _ h3]; exact h2
  have hst : (D.put st (.mls [.ref r, .int (at_ + 1) t2])) st = some (.mls [.ref r, .int (at_ + 1) t2]) := DM.put_same ..
  have hdel : ((D.put st (.mls [.ref r, .int (at_ + 1) t2])).del st) = D.del st := DM.del_put ..
  generalize D.put st (.mls [.ref r, .int (at_ + 1) t2]) = D1 at *
  have post : ∀ D2, D1.le D2 → (D.del st).le (D2.del st) ∧ StAt D2 st r (n + 1) := fun D2 l => ⟨by rw [← hdel]; exact DM.del_mono l, row, is, at_ + 1, t2, l _ _ hst, hrow.le l, h3, h4, h5, by omega, by omega⟩
  refine ⟨by simp, fun a ha => ?_⟩
  have l1 := DM.le_put (c := .lst []) ha
  have hbig : row.length ≤ big := Nat.le_trans h5 (by decide)
  have hea : L (D1.put a (.lst [])) a [] := DM.put_same ..
  obtain ⟨p1, p2⟩ := post _ l1
  have hrow2 := hrow.le l1
  generalize D1.put a (.lst []) = D2 at *
  by_cases hz : row.length = 0
  · refine i_eqv (d := 1) (by decide) (veq_list hrow2.ls hea.ls (by simpa using hz) fun i x y e1 e2 => by simp at e2) (i_t fun t4 => ?_)
    exact ⟨p1, p2, 0, t4, rfl, Int.le_refl 0, hm⟩
  · refine i_eqv (d := 1) (by decide) (veq_len hrow2.ls hea.ls (by simpa using hz)) (i_f ?_)
    have hlen : (0 : Int) < (row.length : Int) := by omega
    refine i_len hrow2 hbig fun t4 => ⟨by omega, fun t5 => ?_⟩
    have k0 : 0 ≤ at_.fmod (row.length : Int) := Int.fmod_nonneg_of_pos _ hlen
    have k1 : at_.fmod (row.length : Int) < (row.length : Int) := Int.fmod_lt_of_pos _ hlen
    have hlt : (at_.fmod (row.length : Int)).toNat < row.length := by omega
    have e2 : row[(at_.fmod (row.length : Int)).toNat]? = some row[(at_.fmod (row.length : Int)).toNat] := by simp [hlt]
    refine hid fun gg hgg => ?_
    obtain ⟨z, tz, _, ez⟩ := h4.of e2
    refine hgg ?_
    clear hgg gg
    refine i_item_l hrow2 hbig k0 e2 ?_
    rw [ez]
    intro t6 t7
    refine i_len hrow2 hbig fun t8 => ⟨by omega, fun t9 => ?_⟩
    have f0 : 0 ≤ at_.fdiv (row.length : Int) := Int.fdiv_nonneg h6 (by omega)
    have f1 : at_.fdiv (row.length : Int) ≤ at_ := by
      rw [Int.fdiv_eq_ediv_of_nonneg _ (by omega)]
      exact Int.ediv_le_self _ h6
    refine ⟨f0, by omega, by decide, fun t10 => ⟨?_, fun t11 => ⟨by omega, fun t12 => ?_⟩⟩⟩
    · exact Int.ne_of_gt (Int.pow_pos (by decide))
    · exact ⟨p1, p2, _, t12, rfl, Int.fmod_nonneg_of_pos _ hm, Int.fmod_lt_of_pos _ hm⟩

/-- what a column tells: its kind, its items, a factor's levels and class -/
noncomputable def LevAt (D : DM) (lev : Value) : Option (Addr × Addr × Addr × Addr) → Prop
  | none => lev = .none
  | some (_, _, li, ci) => ∃ q, lev = .ref q ∧ L D q [.ref li, .ref ci]
theorem LevAt.le {D D' : DM} {lev : Value} {fa : Option (Addr × Addr × Addr × Addr)} (h : LevAt D lev fa) (l : D.le D') : LevAt D' lev fa := by
  cases fa with
  | none => exact h
  | some q => obtain ⟨q, e, h1⟩ := h; exact ⟨q, e, h1.le l⟩
noncomputable def ToldAt (D : DM) (a : Addr) (c : ColD) : Prop := ∃ t il lev, L D a [.str c.kd t, .ref il, lev] ∧ L D il c.vs ∧ LevAt D lev c.fa
theorem ToldAt.le {D D' : DM} {a : Addr} {c : ColD} (h : ToldAt D a c) (l : D.le D') : ToldAt D' a c := by
  refine hid fun gg hgg => ?_
  obtain ⟨t, il, lev, h1, h2, h3⟩ := h
  refine hgg ?_
  clear hgg gg
  exact ⟨t, il, lev, h1.le l, h2.le l, h3.le l⟩

theorem c_law_told {x : Addr} {c : ColD} (h : ColAt D x c.kd c.vs c.fa) : Calls (GG b) 31 535 [.ref x] D fun v D' => D.le D' ∧ ∃ a, v = .ref a ∧ ToldAt D' a c := by
  refine hid fun gg hgg => ?_
  obtain ⟨hk, hvb, il, t, at_, hv, hil, hf⟩ := h
  refine hgg ?_
  clear hgg gg
  refine enterG (n := 0) (vs := [_]) (V := [some _, none]) ck_law_told factsT bd_law_told ?_
  dsimp only [sm_law_told, wpSs, wpS, wpE, wpEs, wpT, wpOr, wpAnd, List.getD_cons_zero, List.getD_cons_succ, List.set_cons_zero, List.set_cons_succ]
  refine i_att2 hv ?_
  cases hfa : c.fa with
  | none =>
    rw [hfa] at hf
    have e : at_ = .none := hf
    subst e
    refine i_isnot_none (i_f (i_att0 hv (i_att1 hv ⟨by simp, fun a ha => ?_⟩)))
    exact ⟨DM.le_put ha, a, rfl, t, il, .none, DM.put_same .., hil.le (DM.le_put ha), by rw [hfa]; rfl⟩
  | some q =>
    refine hid fun gg hgg => ?_
    obtain ⟨lv, cl, li, ci⟩ := q
    refine hgg ?_
    clear hgg gg
    rw [hfa] at hf
    refine hid fun gg hgg => ?_
    obtain ⟨da, t1, t2, rfl, h1, h2, h3⟩ := hf
    refine hgg ?_
    clear hgg gg
    have hsd : SdAt D da _ := ⟨_, h1, rfl⟩
    refine i_isnot_ref (i_t (i_att2 hv fun t3 => i_item_sd hsd (v := .ref lv) (by rfl) (i_att1 h2 (i_att2 hv fun t4 => i_item_sd hsd (v := .ref cl) (by rfl) (i_att1 h3 ⟨by simp, fun q hq => ?_⟩)))))
    have l1 := DM.le_put (c := .lst [.ref li, .ref ci]) hq
    have hq1 : L (D.put q (.lst [.ref li, .ref ci])) q [.ref li, .ref ci] := DM.put_same ..
    generalize D.put q (.lst [.ref li, .ref ci]) = D1 at *
    refine i_att0 (hv.le l1) (i_att1 (hv.le l1) ⟨by simp, fun a ha => ?_⟩)
    exact ⟨l1.trans (DM.le_put ha), a, rfl, t, il, .ref q, DM.put_same .., hil.le (l1.trans (DM.le_put ha)), by rw [hfa]; exact ⟨q, rfl, hq1.le (DM.le_put ha)⟩⟩

theorem told_veq {a a' : Addr} {c : ColD} {d : Nat} (h : ToldAt D a c) (h' : ToldAt D a' c) : Veq D (d + 3) (.ref a) (.ref a') true := by
  refine hid fun gg hgg => ?_
  obtain ⟨t, il, lev, h1, h2, h3⟩ := h
  refine hgg ?_
  clear hgg gg
  refine hid fun gg hgg => ?_
  obtain ⟨t', il', lev', h1', h2', h3'⟩ := h'
  refine hgg ?_
  clear hgg gg
  refine veq_list h1.ls h1'.ls rfl fun i x y e1 e2 => ?_
  match i with
  | 0 => simp at e1 e2; subst e1 e2; exact .inr (.inl (by simp [aeq_ii, aeq_ss]))
  | 1 =>
    simp at e1 e2; subst e1 e2
    exact .inr (.inr (veq_list h2.ls h2'.ls rfl fun i x y e1 e2 => .inl (by rw [e1] at e2; exact Option.some.inj e2)))
  | 2 =>
    simp at e1 e2; subst e1 e2
    cases hf : c.fa with
    | none => rw [hf] at h3 h3'; rw [show lev = .none from h3, show lev' = .none from h3']; exact .inl rfl
    | some q =>
      refine hid fun gg hgg => ?_
      obtain ⟨lv, cl, li, ci⟩ := q
      refine hgg ?_
      clear hgg gg
      rw [hf] at h3 h3'
      obtain ⟨q, rfl, g1⟩ := h3
      obtain ⟨q', rfl, g2⟩ := h3'
      exact .inr (.inr (veq_list g1.ls g2.ls rfl fun i x y e1 e2 => .inl (by rw [e1] at e2; exact Option.some.inj e2)))
  | (k + 3) => simp at e1
end contracts
end Mine

namespace Mine

theorem StAt.ne {D : DM} {st r : Addr} {n : Nat} (h : StAt D st r n) {a : Addr} (ha : D a = none) : a ≠ st ∧ a ≠ r := by
  refine hid fun gg hgg => ?_
  obtain ⟨row, is, at_, t, h1, h2, _⟩ := h
  refine hgg ?_
  clear hgg gg
  refine ⟨fun q => ?_, fun q => ?_⟩
  · rw [q, h1] at ha; cases ha
  · have h2' : D r = _ := h2
    rw [q, h2'] at ha; cases ha
theorem StAt.put {D : DM} {st r a : Addr} {n : Nat} {c : Cel} (h : StAt D st r n) (h1 : a ≠ st) (h2 : a ≠ r) : StAt (D.put a c) st r n := by
  refine hid fun gg hgg => ?_
  obtain ⟨row, is, at_, t, q1, q2, q3⟩ := h
  refine hgg ?_
  clear hgg gg
  refine ⟨row, is, at_, t, ?_, ?_, q3⟩
  · rw [DM.put_ne _ _ (Ne.symm h1)]; exact q1
  · show (D.put a c) r = _
    rw [DM.put_ne _ _ (Ne.symm h2)]; exact q2
theorem DM.del_put_ne (D : DM) {a st : Addr} (c : Cel) (h : a ≠ st) : (D.put a c).del st = (D.del st).put a c := by
  funext q
  by_cases h1 : q = st
  · subst h1; rw [DM.del_same, DM.put_ne _ _ (Ne.symm h), DM.del_same]
  · rw [DM.del_ne _ h1]
    by_cases h2 : q = a
    · subst h2; rw [DM.put_same, DM.put_same]
    · rw [DM.put_ne _ _ h2, DM.put_ne _ _ h2, DM.del_ne _ h1]
theorem L.delN {D : DM} {l a : Addr} {vs : List Value} (h : L D l vs) (hn : l ≠ a) : L (D.del a) l vs := by
  show (D.del a) l = _
  rw [DM.del_ne _ hn]; exact h
theorem L.ofDel {D : DM} {l a : Addr} {vs : List Value} (h : L (D.del a) l vs) : L D l vs := DM.del_le D a _ _ h

section contracts
variable {b : Bx} {D : DM}

theorem c_integer' {l : Addr} {vs : List Value} (hl : L D l vs) (hb : vs.length ≤ big) :
    Calls (GG b) 31 189 [.ref l] D fun v D' => D.le D' ∧ ∃ x i t, v = .ref x ∧ D i = none ∧ VecAt D' x (.str kI t) (.ref i) .none ∧ L D' i vs := by
  refine enterG (n := 0) (vs := [_]) (V := [some _]) ck_integer factsT bd_integer ?_
  dsimp only [sm_integer, wpSs, wpS, wpE, wpEs, wpT, wpOr, wpAnd, List.getD_cons_zero, List.getD_cons_succ, List.set_cons_zero, List.set_cons_succ]
  intro t
  refine i_list hl hb fun i D1 hi l1 h1 => i_vec2 rfl rfl fun x D2 hx l2 hv => ?_
  exact ⟨l1.trans l2, x, i, t, rfl, hi, hv, h1.le l2⟩
theorem c_character' {l : Addr} {vs : List Value} (hl : L D l vs) (hb : vs.length ≤ big) :
    Calls (GG b) 31 196 [.ref l] D fun v D' => D.le D' ∧ ∃ x i t, v = .ref x ∧ D i = none ∧ VecAt D' x (.str kC t) (.ref i) .none ∧ L D' i vs := by
  refine enterG (n := 0) (vs := [_]) (V := [some _]) ck_character factsT bd_character ?_
  dsimp only [sm_character, wpSs, wpS, wpE, wpEs, wpT, wpOr, wpAnd, List.getD_cons_zero, List.getD_cons_succ, List.set_cons_zero, List.set_cons_succ]
  intro t
  refine i_list hl hb fun i D1 hi l1 h1 => i_vec2 rfl rfl fun x D2 hx l2 hv => ?_
  exact ⟨l1.trans l2, x, i, t, rfl, hi, hv, h1.le l2⟩

theorem i_callM {n m : Nat} {f : Addr} {vs : List Value} {Post k : Value → DM → Prop} (c : Calls (GG b) m f vs D Post) (h : ∀ v D', Post v D' → k v D') (hm : m ≤ n := by decide) : callR (GG b) n (.own f) vs D k :=
  (c.le hm).mono h

noncomputable def sq_law_column_5 : Ss := .cons (.ret (.call .vec (.cons (.str "integer") (.cons (.v 3) (.cons (.dct ["levels", "class"] (.cons (.call (.own 196) (.cons (.lst (.cons (.str "u") (.cons (.str "v") (.cons (.str "w") .nil)))) .nil)) (.cons (.call (.own 196) (.cons (.lst (.cons (.str "factor") .nil)) .nil)) .nil))) .nil))))) .nil
noncomputable def sq_law_column_4 : Ss := .cons (.ite (.cmp .Eq (.v 2) (.int 0)) (.cons (.ret (.call (.own 189) (.cons (.v 3) .nil))) .nil) .nil) sq_law_column_5
noncomputable def sq_law_column_3 : Ss := .cons (.for_ 1 4 (.call .range (.cons (.v 1) .nil)) sl_law_column_0) sq_law_column_4
noncomputable def sq_law_column_2 : Ss := .cons (.set 3 (.lst .nil)) sq_law_column_3
noncomputable def sq_law_column_1 : Ss := .cons (.ite (.cmp .Eq (.v 2) (.int 1)) (.cons (.ret (.call (.own 196) (.cons (.comp 1 4 (.call .range (.cons (.v 1) .nil)) sb_law_column_1) .nil))) .nil) .nil) sq_law_column_2
noncomputable def sq_law_column_0 : Ss := .cons (.set 2 (.call (.own 523) (.cons (.v 0) (.cons (.int 3) .nil)))) sq_law_column_1
theorem c_law_column {st r : Addr} {n rows : Nat} {t : Tok} (h : StAt D st r n) (hn : n ≤ 4000) (hr : rows ≤ 9) :
    Calls (GG b) 62 528 [.ref st, .int rows t] D fun v D' => (D.del st).le (D'.del st) ∧ StAt D' st r (n + 1 + rows) ∧ ∃ (y : Addr) (c : ColD), v = .ref y ∧ ColAt (D'.del st) y c.kd c.vs c.fa ∧ c.vs.length = rows := by
  refine enterG (n := 31) (vs := [_, _]) (V := [some _, some _, none, none, none, none]) ck_law_column factsT bd_law_column ?_
  show wpSs _ _ sq_law_column_0 _ _ _
  dsimp only [sq_law_column_0, wpSs, wpS, wpE, wpEs, wpT, wpOr, wpAnd, List.getD_cons_zero, List.getD_cons_succ, List.set_cons_zero, List.set_cons_succ]
  have hbig : rows ≤ big := Nat.le_trans hr (by decide)
  have hrt : ((rows : Int) - 0).toNat = rows := by omega
  intro t1
  refine i_callM (c_law_take h.st0 (by omega) (by decide)) fun v D1 e => ?_
  refine hid fun gg hgg => ?_
  obtain ⟨e1, e2, j, tj, rfl, j0, j1⟩ := e
  refine hgg ?_
  clear hgg gg
  have fin : ∀ {D2 D3 : DM} {x i : Addr} {t' : Tok} {kd : Str} {at_ : Value} {vs : List Value} {fa : Option (Addr × Addr × Addr × Addr)} , (D.del st).le (D2.del st) → StAt D2 st r (n + 1 + rows) → D2.le D3 → (kd = kI ∨ kd = kC) → VecAt D3 x (.str kd t') (.ref i) at_ → L D3 i vs → i ≠ st → FacAt D3 at_ fa → vs.length = rows →
      (D.del st).le (D3.del st) ∧ StAt D3 st r (n + 1 + rows) ∧ ∃ (y : Addr) (c : ColD), Value.ref x = .ref y ∧ ColAt (D3.del st) y c.kd c.vs c.fa ∧ c.vs.length = rows := by
    intro D2 D3 x i t' kd at_ vs fa g1 g2 g3 g4 g5 g6 g7 g8 g9
    have s3 := g2.le g3
    exact ⟨g1.trans (DM.del_mono g3), s3, x, ⟨kd, vs, fa⟩, rfl, ⟨g4, by rw [g9]; exact hbig, i, t', at_, g5.delF s3.flat, g6.delN g7, g8.delF s3.flat⟩, g9⟩
  dsimp only [sq_law_column_1, wpSs, wpS, wpE, wpEs, wpT, wpOr, wpAnd, List.getD_cons_zero, List.getD_cons_succ, List.set_cons_zero, List.set_cons_succ]
  intro t2
  have dec : ∀ (z : Int) (t3 : Tok), aeq (.int j tj) (.int z t3) = some (decide (j = z)) := fun z t3 => by
    show some (j == z) = _
    by_cases e : j = z
    · simp [e]
    · simp [e]
  refine i_eq (dec _ _) ?_
  by_cases hj1 : j = 1
  · rw [decide_eq_true hj1]
    refine i_t (i_range1 (by omega) (by omega) fun a ha => ?_)
    have la := DM.le_put (c := .rng 0 (rows : Int)) ha
    refine i_comp1I (DM.put_same ..) (by rw [hrt]; exact hbig) (fun i out D' => (D.del st).le (D'.del st) ∧ StAt D' st r (n + 1 + i)) ⟨e1.trans (DM.del_mono la), e2.le la⟩ (fun i out D' t3 hi ho hI => ?_) fun out D' a2 hI ho ha2 => ?_
    · obtain ⟨g1, g2⟩ := hI
      rw [hrt] at hi
      dsimp only [sb_law_column_1, wpE, wpEs, List.getD_cons_zero, List.getD_cons_succ, List.set_cons_zero, List.set_cons_succ]
      intro t4
      refine i_callM (c_law_take g2.st0 (by omega) (by decide)) fun v D2 e => ?_
      refine hid fun gg hgg => ?_
      obtain ⟨q1, q2, j', tj', rfl, j0', j1'⟩ := e
      refine hgg ?_
      clear hgg gg
      have sz : (Str.ofString "abc").cps.size = 3 := by decide
      have hlt : j'.toNat < (Str.ofString "abc").cps.size := by rw [sz]; omega
      exact ⟨j', tj', _, rfl, j0', by omega, Array.getElem?_eq_getElem hlt, fun t' => ⟨g1.trans q1, q2.mono (by omega)⟩⟩
    · obtain ⟨g1, g2⟩ := hI
      rw [hrt] at g2 ho
      have l2 := DM.le_put (c := .lst out) ha2
      have g2' := g2.le l2
      have g1' := g1.trans (DM.del_mono (a := st) l2)
      have hL : L (D'.put a2 (.lst out)) a2 out := DM.put_same ..
      generalize D'.put a2 (.lst out) = D2 at *
      refine i_callM (c_character' hL (by rw [ho]; exact hbig)) fun v D3 e => ?_
      refine hid fun gg hgg => ?_
      obtain ⟨l3, x, i, t3, rfl, hi, hv, hl⟩ := e
      refine hgg ?_
      clear hgg gg
      exact fin (fa := none) g1' g2' l3 (.inr rfl) hv hl (g2'.ne hi).1 rfl ho
  · rw [decide_eq_false hj1]
    refine i_f ?_
    dsimp only [sq_law_column_2, sq_law_column_3, wpSs, wpS, wpE, wpEs, wpT, wpOr, wpAnd, List.getD_cons_zero, List.getD_cons_succ, List.set_cons_zero, List.set_cons_succ]
    refine ⟨by simp, fun ip hip => ?_⟩
    have nip := e2.ne hip
    have lip := DM.le_put (c := .lst []) hip
    have dip : (D.del st) ip = none := by
      refine none_of e1 ?_
      rw [DM.del_ne _ nip.1]; exact hip
    refine i_range1 (by omega) (by omega) fun a ha => ?_
    have la := DM.le_put (c := .rng 0 (rows : Int)) ha
    refine i_for1 (DM.put_same ..) (by rw [hrt]; exact hbig)
      (fun i V' D' => ∃ o o2 out, V' = [some (.ref st), some (.int rows t), some (.int j tj), some (.ref ip), o, o2] ∧ (D.del st).le (D'.del st) ∧ StAt D' st r (n + 1 + i) ∧ D' ip = some (.lst out) ∧ out.length = i)
      ⟨none, none, [], rfl, e1.trans ((DM.del_mono lip).trans (DM.del_mono la)), (e2.le lip).le la, la _ _ (DM.put_same ..), rfl⟩ (fun i V' D' t3 hi hI => ?_) fun V' D' hI => ?_
    · refine hid fun gg hgg => ?_
      obtain ⟨o, o2, out, rfl, g1, g2, g3, g4⟩ := hI
      refine hgg ?_
      clear hgg gg
      rw [hrt] at hi
      dsimp only [sl_law_column_0, wpSs, wpS, wpE, wpEs, wpT, wpOr, wpAnd, List.getD_cons_zero, List.getD_cons_succ, List.set_cons_zero, List.set_cons_succ]
      intro t4
      refine i_callM (c_law_take g2.st0 (by omega) (by decide)) fun v D2 e => ?_
      refine hid fun gg hgg => ?_
      obtain ⟨q1, q2, j', tj', rfl, j0', j1'⟩ := e
      refine hgg ?_
      clear hgg gg
      have g3' : D2 ip = some (.lst out) := by
        have := q1 ip (.lst out) (by rw [DM.del_ne _ nip.1]; exact g3)
        rwa [DM.del_ne _ nip.1] at this
      have done : ∀ y : Value, ∃ vs, D2 ip = some (.lst vs) ∧ vs.length ≤ big ∧ ∃ o o2 out', ([some (.ref st), some (.int rows t), some (.int j tj), some (.ref ip), some (.int (0 + (i : Int)) t3), some (.int j' tj')] : Vs) = [some (.ref st), some (.int rows t), some (.int j tj), some (.ref ip), o, o2] ∧ (D.del st).le ((D2.put ip (.lst (vs ++ [y]))).del st) ∧ StAt (D2.put ip (.lst (vs ++ [y]))) st r (n + 1 + (i + 1)) ∧ (D2.put ip (.lst (vs ++ [y]))) ip = some (.lst out') ∧ out'.length = i + 1 := fun y =>
        ⟨out, g3', by rw [g4]; exact Nat.le_trans (Nat.le_of_lt hi) hbig, _, _, out ++ [y], rfl, by rw [DM.del_put_ne _ _ nip.1]; exact DM.le_mut dip (g1.trans q1), (q2.mono (by omega)).put nip.1 nip.2, DM.put_same .., by simp [g4]⟩
      refine ⟨ip, out, rfl, g3', fun t5 => ?_⟩
      refine i_eq (r := decide (j' = 3)) (by
        show some (j' == 3) = _
        by_cases e : j' = 3
        · simp [e]
        · simp [e]) ?_
      cases hd : decide (j' = 3) with
      | true => exact i_t (done _)
      | false => exact i_f fun t6 t7 => done _
    · refine hid fun gg hgg => ?_
      obtain ⟨o, o2, out, rfl, g1, g2, g3, g4⟩ := hI
      refine hgg ?_
      clear hgg gg
      rw [hrt] at g2 g4
      dsimp only [sq_law_column_4, wpSs, wpS, wpE, wpEs, wpT, wpOr, wpAnd, List.getD_cons_zero, List.getD_cons_succ, List.set_cons_zero, List.set_cons_succ]
      intro t3
      refine i_eq (dec _ _) ?_
      have ob : out.length ≤ big := by rw [g4]; exact hbig
      by_cases hj0 : j = 0
      · rw [decide_eq_true hj0]
        refine i_t (i_callM (c_integer' g3 ob) fun v D3 e => ?_)
        refine hid fun gg hgg => ?_
        obtain ⟨l3, x, i, t4, rfl, hi, hv, hl⟩ := e
        refine hgg ?_
        clear hgg gg
        exact fin (fa := none) g1 g2 l3 (.inl rfl) hv hl (g2.ne hi).1 rfl g4
      · rw [decide_eq_false hj0]
        refine i_f ?_
        dsimp only [sq_law_column_5, wpSs, wpS, wpE, wpEs, wpT, wpOr, wpAnd, List.getD_cons_zero, List.getD_cons_succ, List.set_cons_zero, List.set_cons_succ]
        refine fun t4 t5 t6 t7 => ⟨by simp, fun a1 ha1 => i_call (c_character (DM.put_same ..) (by simp [big])) fun v D3 l3 e => ?_⟩
        refine hid fun gg hgg => ?_
        obtain ⟨lv, li, t8, rfl, _, v8, _⟩ := e
        refine hgg ?_
        clear hgg gg
        intro t9
        refine ⟨by simp, fun a2 ha2 => i_call (c_character (DM.put_same ..) (by simp [big])) fun v D4 l4 e => ?_⟩
        refine hid fun gg hgg => ?_
        obtain ⟨cl, ci, t10, rfl, _, v10, _⟩ := e
        refine hgg ?_
        clear hgg gg
        refine ⟨rfl, fun da hda => ?_⟩
        have l5 := DM.le_put (c := .ds (([ "levels", "class"].map Str.ofString).zip [.ref lv, .ref cl])) hda
        have eda := DM.put_same D4 da (.ds (([ "levels", "class"].map Str.ofString).zip [.ref lv, .ref cl]))
        have l34 := (DM.le_put ha2).trans l4
        generalize D4.put da _ = D5 at *
        have l05 := (((DM.le_put ha1).trans l3).trans l34).trans l5
        refine i_vec3 rfl rfl rfl fun y D6 hy l6 hv6 => ?_
        exact fin (kd := kI) (fa := some (lv, cl, li, ci)) g1 g2 (l05.trans l6) (.inl rfl) hv6 ((l05.trans l6) _ _ g3) nip.1 ⟨da, t8, t10, rfl, l6 _ _ eda, v8.le ((l34.trans l5).trans l6), v10.le (l5.trans l6)⟩ g4
end contracts
end Mine

namespace Mine

/-- a frame: its columns, its names, its rows' labels as told -/
noncomputable def FI (D : DM) (f : Addr) (cols : List ColD) (nss ss : List Str) : Prop := ∃ cs nms lk ls, FrameAt D f cs nms lk ls ∧ ColsAt D cs cols ∧ Strs nms nss ∧ LabAt lk ls ss ∧
  cols.length ≤ 9 ∧ nss.length = cols.length ∧ ss.length ≤ 9 ∧ (∀ c ∈ cols, c.vs.length = ss.length) ∧ nss.Nodup ∧ ∀ s ∈ nss, s.length ≤ 100
theorem FI.le {D D' : DM} {f : Addr} {cols : List ColD} {nss ss : List Str} (h : FI D f cols nss ss) (l : D.le D') : FI D' f cols nss ss := by
  refine hid fun gg hgg => ?_
  obtain ⟨cs, nms, lk, ls, h1, h2, h3⟩ := h
  refine hgg ?_
  clear hgg gg
  exact ⟨cs, nms, lk, ls, h1.le l, h2.le l, h3⟩
theorem FI.fr {D : DM} {f : Addr} {cols : List ColD} {nss ss : List Str} (h : FI D f cols nss ss) : ∃ cs nms lk ls, FrameAt D f cs nms lk ls := by
  refine hid fun gg hgg => ?_
  obtain ⟨cs, nms, lk, ls, h1, _⟩ := h
  refine hgg ?_
  clear hgg gg
  exact ⟨cs, nms, lk, ls, h1⟩

theorem upto_id {α β : Type} (l : List α) (d : α) : ((upto 0 l.length).map fun p => l.getD p.toNat d) = l := by
  refine List.ext_getElem? fun i => ?_
  rw [List.getElem?_map]
  by_cases hi : i < l.length
  · have e : (upto 0 l.length)[i]? = some (i : Int) := by
      unfold upto
      rw [List.getElem?_map, List.getElem?_range hi]
      simp
    rw [e]
    have e2 : l[i]? = some l[i] := by simp [hi]
    rw [e2]
    show some (l.getD (i : Int).toNat d) = _
    rw [Int.toNat_natCast, getD_of e2]
  · have h1 : (upto 0 l.length)[i]? = none := List.getElem?_eq_none_iff.mpr (by rw [upto_len]; omega)
    rw [h1, List.getElem?_eq_none_iff.mpr (by omega)]; rfl
theorem pickV_id (vs : List Value) : pickV vs (upto 0 vs.length) = vs := upto_id (β := Unit) vs _
theorem pickS_id (vs : List Str) : pickS vs (upto 0 vs.length) = vs := upto_id (β := Unit) vs _
theorem pickC_id (vs : List ColD) : pickC vs (upto 0 vs.length) = vs := upto_id (β := Unit) vs _
theorem upto_inr (m : Nat) : InR (upto 0 m) m := fun p hp => by have := upto_mem hp; omega

theorem pickS_nodup {nss : List Str} {is : List Int} (h : nss.Nodup) (hi : is.Nodup) (hr : InR is nss.length) : (pickS nss is).Nodup := by
  unfold pickS List.Nodup
  rw [List.pairwise_map]
  refine List.Pairwise.imp_of_mem (fun {a c} ha hc hne e => ?_) hi
  obtain ⟨a0, a1⟩ := hr a ha
  obtain ⟨c0, c1⟩ := hr c hc
  have la : a.toNat < nss.length := by omega
  have lc : c.toNat < nss.length := by omega
  have ea : nss[a.toNat]? = some nss[a.toNat] := by simp [la]
  have ec : nss[c.toNat]? = some nss[c.toNat] := by simp [lc]
  rw [getD_of ea, getD_of ec] at e
  have : a.toNat = c.toNat := (List.getElem?_inj la h).mp (by rw [ea, ec]; exact congrArg some e)
  exact hne (by omega)
theorem pickS_mem {nss : List Str} {is : List Int} (hr : InR is nss.length) {s : Str} (hs : s ∈ pickS nss is) : s ∈ nss := by
  obtain ⟨p, hp, rfl⟩ := List.mem_map.mp hs
  obtain ⟨p0, p1⟩ := hr p hp
  have la : p.toNat < nss.length := by omega
  have ea : nss[p.toNat]? = some nss[p.toNat] := by simp [la]
  rw [getD_of ea]
  exact List.getElem_mem _
theorem pickC_mem {cols : List ColD} {is : List Int} (hr : InR is cols.length) {c : ColD} (hs : c ∈ pickC cols is) : c ∈ cols := by
  obtain ⟨p, hp, rfl⟩ := List.mem_map.mp hs
  obtain ⟨p0, p1⟩ := hr p hp
  have la : p.toNat < cols.length := by omega
  have ea : cols[p.toNat]? = some cols[p.toNat] := by simp [la]
  rw [getD_of ea]
  exact List.getElem_mem _

noncomputable def zero (figs : List Nat) : List Int := figs.map fun (a : Nat) => (a : Int) - 1
theorem zero_eq (figs : List Nat) : (figs.map fun (a : Nat) => (a : Int)).map (· - 1) = zero figs := by simp [zero]
theorem zero_inr {figs : List Nat} {m : Nat} (h : ∀ a ∈ figs, 1 ≤ a ∧ a ≤ m) : InR (zero figs) m := fun p hp => by
  obtain ⟨a, ha, rfl⟩ := List.mem_map.mp hp
  have := h a ha
  omega
theorem zero_nodup {figs : List Nat} : (zero figs).Nodup ↔ figs.Nodup := by
  unfold zero List.Nodup
  rw [List.pairwise_map]
  exact ⟨fun h => h.imp fun hn e => hn (by rw [e]), fun h => h.imp fun hn e => hn (by omega)⟩

section contracts
variable {b : Bx} {D : DM}

theorem f_pick {f pl : Addr} {cols : List ColD} {nss ss : List Str} {ps : List Value} {is : List Int} (h : FI D f cols nss ss) (hp : L D pl ps) (hi : Ints ps is) (hr : InR is ss.length) (hb : is.length ≤ 9) (hn : is.Nodup) :
    Calls (GG b) 155 455 [.ref f, .ref pl] D fun v D' => D.le D' ∧ ∃ g, v = .ref g ∧ FI D' g (cols.map (·.pick is)) nss (pickS ss is) := by
  refine hid fun gg hgg => ?_
  obtain ⟨cs, nms, lk, ls, h1, h2, h3, h4, h5, h6, h7, h8, h9, h10⟩ := h
  refine hgg ?_
  clear hgg gg
  have e1 : ls.length = ss.length := h4.len
  refine (c_pick_rows (out := []) h1 h2 h3 h4 hp hi (by rw [e1]; exact hr) (by rw [hi.1]; exact hb) (by rw [h2.1]; omega) (by rw [h3.1, h6]; omega) (fun c hc => (h8 c hc).trans e1.symm) (fun q => absurd hn q)).mono fun v D' e => ?_
  refine hid fun gg hgg => ?_
  obtain ⟨l, g, cs', lk', ls', rfl, q1, q2, q3, q4⟩ := e
  refine hgg ?_
  clear hgg gg
  refine ⟨l, g, rfl, cs', nms, lk', ls', q1, q2, h3, ?_, by simp [h5], by simp [h6], by simp [pickS, hb], fun c hc => ?_, h9, h10⟩
  · rcases q4 with ⟨_, rfl, rfl⟩ | ⟨q, _⟩
    · exact labAt_pick h4 hr
    · exact absurd hn q
  · obtain ⟨c', hc', rfl⟩ := List.mem_map.mp hc
    simp [ColD.pick, pickV, pickS]

theorem pickS_labs {figs : List Nat} {m : Nat} (h : ∀ a ∈ figs, 1 ≤ a ∧ a ≤ m) : pickS ((upto 1 m).map strI) (zero figs) = figs.map fun (x : Nat) => strI x := by
  unfold pickS zero
  rw [List.map_map]
  refine List.map_congr_left fun a ha => ?_
  obtain ⟨a0, a1⟩ := h a ha
  have hlt : ((a : Int) - 1).toNat < m := by omega
  have e : (upto 1 m)[((a : Int) - 1).toNat]? = some (a : Int) := by
    unfold upto
    rw [List.getElem?_map, List.getElem?_range hlt]
    show some ((1 : Int) + (((a : Int) - 1).toNat : Int)) = _
    congr 1
    omega
  have e2 : ((upto 1 m).map strI)[((a : Int) - 1).toNat]? = some (strI a) := by rw [List.getElem?_map, e]; rfl
  exact getD_of e2

/-- rows picked, some perhaps twice -/
theorem f_pickR {f pl : Addr} {cols : List ColD} {nss : List Str} {ps : List Value} {figs : List Nat} {R : Nat} (h : FI D f cols nss ((upto 1 R).map strI)) (hp : L D pl ps) (hi : Ints ps (zero figs)) (hs : Small figs) (hR : R ≤ 9) (hf : ∀ a ∈ figs, 1 ≤ a ∧ a ≤ R) :
    Calls (GG b) 155 455 [.ref f, .ref pl] D fun v D' => D.le D' ∧ ∃ g, v = .ref g ∧ FI D' g (cols.map (·.pick (zero figs))) nss (labs figs) := by
  refine hid fun gg hgg => ?_
  obtain ⟨cs, nms, lk, ls, h1, h2, h3, h4, h5, h6, h7, h8, h9, h10⟩ := h
  refine hgg ?_
  clear hgg gg
  have e1 : ls.length = R := by rw [h4.len]; simp [upto_len]
  have hr : InR (zero figs) ((upto 1 R).map strI).length := by simp only [List.length_map, upto_len]; exact zero_inr hf
  have zl : (zero figs).length = figs.length := by simp [zero]
  refine (c_pick_rows (out := labs figs) h1 h2 h3 h4 hp hi (by rw [e1]; exact zero_inr hf) (by rw [hi.1, zl]; exact hs.1) (by rw [h2.1]; omega) (by rw [h3.1, h6]; omega) (fun c hc => (h8 c hc).trans (by simp [upto_len, e1])) (fun q => ?_)).mono fun v D' e => ?_
  · rw [pickS_labs hf]
    refine ⟨ustep_labs hs, fun s hs' => ?_⟩
    obtain ⟨a, ha, rfl⟩ := List.mem_map.mp hs'
    exact Nat.le_trans (strI_len' (hs.2 a ha)) (by decide)
  · refine hid fun gg hgg => ?_
    obtain ⟨l, g, cs', lk', ls', rfl, q1, q2, q3, q4⟩ := e
    refine hgg ?_
    clear hgg gg
    refine ⟨l, g, rfl, cs', nms, lk', ls', q1, q2, h3, ?_, by simp [h5], by simp [h6], by rw [labs_len]; exact hs.1, fun c hc => ?_, h9, h10⟩
    · rcases q4 with ⟨qn, rfl, rfl⟩ | ⟨q, rfl, q'⟩
      · have := labAt_pick h4 hr
        rwa [pickS_labs hf, ← labs_nodup (zero_nodup.mp qn)] at this
      · exact .inr ⟨rfl, q'⟩
    · obtain ⟨c', hc', rfl⟩ := List.mem_map.mp hc
      simp [ColD.pick, pickV, labs_len, zl]

theorem f_sel0 {f : Addr} {cols : List ColD} {nss ss : List Str} (h : FI D f cols nss ss) : Calls (GG b) 186 481 [.ref f, .none] D fun v D' => D.le D' ∧ ∃ g, v = .ref g ∧ FI D' g cols nss ss := by
  refine hid fun gg hgg => ?_
  obtain ⟨cs, nms, lk, ls, h1, h2, h3, h4, h5, h6, h7, h8, h9, h10⟩ := h
  refine hgg ?_
  clear hgg gg
  have e0 : upto 0 cs.length = upto 0 nss.length := by rw [h2.1, h6]
  have e1 : pickS nss (upto 0 cs.length) = nss := by rw [e0]; exact pickS_id nss
  have e2 : pickC cols (upto 0 cs.length) = cols := by rw [h2.1]; exact pickC_id cols
  refine (c_select_columns h1 h2 h3 (c_col_places0 h1 (by rw [h2.1]; omega)) (upto_inr _) (by rw [h6, h2.1]) (by rw [upto_len, h2.1]; exact h5) (by rw [e1]; exact h9) (by rw [e1]; exact h10) (by rw [h4.len]; omega)).mono fun v D' e => ?_
  refine hid fun gg hgg => ?_
  obtain ⟨l, g, nms', rfl, q1, q2, q3⟩ := e
  refine hgg ?_
  clear hgg gg
  rw [e1] at q3
  rw [e2] at q2
  exact ⟨l, g, rfl, _, nms', lk, ls, q1, q2, q3, h4, h5, h6, h7, h8, h9, h10⟩

theorem f_sel1 {f x rl : Addr} {cols : List ColD} {nss ss : List Str} {vs : List Value} {wf : List Nat} {t : Tok} {at_ : Value} (h : FI D f cols nss ss) (hv : VecAt D x (.str kI t) (.ref rl) at_) (hl : L D rl vs) (hi : NatInts vs wf) (hw : ∀ a ∈ wf, 1 ≤ a ∧ a ≤ cols.length) (hwn : wf.Nodup) (hwl : wf.length ≤ 9) :
    Calls (GG b) 186 481 [.ref f, .ref x] D fun v D' => D.le D' ∧ ∃ g, v = .ref g ∧ FI D' g (pickC cols (zero wf)) (pickS nss (zero wf)) ss := by
  refine hid fun gg hgg => ?_
  obtain ⟨cs, nms, lk, ls, h1, h2, h3, h4, h5, h6, h7, h8, h9, h10⟩ := h
  refine hgg ?_
  clear hgg gg
  have zl : (zero wf).length = wf.length := by simp [zero]
  have hr : InR (zero wf) cs.length := by rw [h2.1]; exact zero_inr hw
  have hrn : InR (zero wf) nss.length := by rw [h6]; exact zero_inr hw
  have hcp : Calls (GG b) 155 476 [.ref f, .ref x] D fun v D' => D.le D' ∧ ∃ p ps, v = .ref p ∧ L D' p ps ∧ Ints ps (zero wf) := by
    have := c_col_places1 (b := b) h1 h3 hv hl (by rw [hi.len]; omega) hi (fun i hi => by
      obtain ⟨a, ha, rfl⟩ := List.mem_map.mp hi
      have := hw a ha
      rw [h2.1]; omega)
    rwa [zero_eq] at this
  refine (c_select_columns h1 h2 h3 hcp hr (by rw [h6, h2.1]) (by rw [zl]; exact hwl) (pickS_nodup h9 (zero_nodup.mpr hwn) hrn) (fun s hs => h10 s (pickS_mem hrn hs)) (by rw [h4.len]; omega)).mono fun v D' e => ?_
  refine hid fun gg hgg => ?_
  obtain ⟨l, g, nms', rfl, q1, q2, q3⟩ := e
  refine hgg ?_
  clear hgg gg
  refine ⟨l, g, rfl, _, nms', lk, ls, q1, q2, q3, h4, by simp [pickC, zl, hwl], by simp [pickC, pickS], h7, fun c hc => h8 c (pickC_mem (by rw [← h2.1]; exact hr) hc), pickS_nodup h9 (zero_nodup.mpr hwn) hrn, fun s hs => h10 s (pickS_mem hrn hs)⟩

theorem f_cols {f x rl : Addr} {cols : List ColD} {nss ss : List Str} {vs : List Value} {wf : List Nat} {t : Tok} {at_ : Value} (h : FI D f cols nss ss) (hv : VecAt D x (.str kI t) (.ref rl) at_) (hl : L D rl vs) (hi : NatInts vs wf) (hw : ∀ a ∈ wf, 1 ≤ a ∧ a ≤ cols.length) (hwn : wf.Nodup) (hwl : wf.length ≤ 9) :
    Calls (GG b) 217 488 [.ref f, .none, .ref x, .bool false] D fun v D' => D.le D' ∧ ∃ g, v = .ref g ∧ FI D' g (pickC cols (zero wf)) (pickS nss (zero wf)) ss :=
  c_subset0 (P := fun g D' => FI D' g (pickC cols (zero wf)) (pickS nss (zero wf)) ss) (fun g D' hg => hg.fr) (f_sel1 h hv hl hi hw hwn hwl)

theorem f_rowpl {f x rl : Addr} {cols : List ColD} {nss ss : List Str} {vs : List Value} {figs : List Nat} {t : Tok} {at_ : Value} (h : FI D f cols nss ss) (hv : VecAt D x (.str kI t) (.ref rl) at_) (hl : L D rl vs) (hi : NatInts vs figs) (hf : ∀ a ∈ figs, 1 ≤ a) (hb : figs.length ≤ 9) :
    Calls (GG b) 124 469 [.ref f, .ref x] D fun v D' => D.le D' ∧ ∃ p ps, v = .ref p ∧ L D' p ps ∧ Ints ps (zero figs) := by
  refine hid fun gg hgg => ?_
  obtain ⟨cs, nms, lk, ls, h1, h2, h3, h4, _⟩ := h
  refine hgg ?_
  clear hgg gg
  have := c_row_places (b := b) h1 h4 hv hl (by rw [hi.len]; omega) hi (fun i hi => by
    obtain ⟨a, ha, rfl⟩ := List.mem_map.mp hi
    have := hf a ha
    omega)
  rwa [zero_eq] at this

theorem f_rows {f x rl : Addr} {cols : List ColD} {nss : List Str} {vs : List Value} {figs : List Nat} {R : Nat} {t : Tok} {at_ : Value} (h : FI D f cols nss ((upto 1 R).map strI)) (hv : VecAt D x (.str kI t) (.ref rl) at_) (hl : L D rl vs) (hi : NatInts vs figs) (hs : Small figs) (hR : R ≤ 9) (hf : ∀ a ∈ figs, 1 ≤ a ∧ a ≤ R) :
    Calls (GG b) 217 488 [.ref f, .ref x, .none, .bool false] D fun v D' => D.le D' ∧ ∃ g, v = .ref g ∧ FI D' g (cols.map (·.pick (zero figs))) nss (labs figs) :=
  c_subset1 (is := zero figs) (P := fun g D' => FI D' g cols nss ((upto 1 R).map strI)) (P2 := fun g D' => FI D' g (cols.map (·.pick (zero figs))) nss (labs figs)) (fun g D' hg => hg.fr) (fun g D' hg => hg.fr) (fun g D' D'' l hg => hg.le l) hv (f_sel0 h)
    (fun D1 l => f_rowpl (h.le l) (hv.le l) (hl.le l) hi (fun a ha => (hf a ha).1) hs.1) (fun D1 g p ps l hg hp hi' => f_pickR hg hp hi' hs hR hf)

theorem f_both {f x rl y wl : Addr} {cols : List ColD} {nss : List Str} {vs ws : List Value} {figs wf : List Nat} {R : Nat} {t t' : Tok} {at_ at_' : Value} (h : FI D f cols nss ((upto 1 R).map strI)) (hv : VecAt D x (.str kI t) (.ref rl) at_) (hl : L D rl vs) (hi : NatInts vs figs) (hs : Small figs) (hR : R ≤ 9) (hf : ∀ a ∈ figs, 1 ≤ a ∧ a ≤ R)
    (hv' : VecAt D y (.str kI t') (.ref wl) at_') (hl' : L D wl ws) (hi' : NatInts ws wf) (hw : ∀ a ∈ wf, 1 ≤ a ∧ a ≤ cols.length) (hwn : wf.Nodup) (hwl : wf.length ≤ 9) :
    Calls (GG b) 217 488 [.ref f, .ref x, .ref y, .bool false] D fun v D' => D.le D' ∧ ∃ g, v = .ref g ∧ FI D' g ((pickC cols (zero wf)).map (·.pick (zero figs))) (pickS nss (zero wf)) (labs figs) :=
  c_subset1 (is := zero figs) (P := fun g D' => FI D' g (pickC cols (zero wf)) (pickS nss (zero wf)) ((upto 1 R).map strI)) (P2 := fun g D' => FI D' g ((pickC cols (zero wf)).map (·.pick (zero figs))) (pickS nss (zero wf)) (labs figs)) (fun g D' hg => hg.fr) (fun g D' hg => hg.fr) (fun g D' D'' l hg => hg.le l) hv (f_sel1 h hv' hl' hi' hw hwn hwl)
    (fun D1 l => f_rowpl (h.le l) (hv.le l) (hl.le l) hi (fun a ha => (hf a ha).1) hs.1) (fun D1 g p ps l hg hp hi' => f_pickR hg hp hi' hs hR hf)
end contracts
end Mine

namespace Mine

noncomputable def abc (C : Nat) : List Str := [Str.ofString "a", Str.ofString "b", Str.ofString "c"].take C
noncomputable def rowL (R : Nat) : List Str := (upto 1 R).map strI
theorem rowL_len (R : Nat) : (rowL R).length = R := by simp [rowL, upto_len]

noncomputable def Tolds (D : DM) (bs : List Value) (cols : List ColD) : Prop := bs.length = cols.length ∧ ∀ (i : Nat) (c : ColD), cols[i]? = some c → ∃ a, bs[i]? = some (.ref a) ∧ ToldAt D a c
theorem Tolds.le {D D' : DM} {bs : List Value} {cols : List ColD} (h : Tolds D bs cols) (l : D.le D') : Tolds D' bs cols := ⟨h.1, fun i c e => by obtain ⟨a, e1, e2⟩ := h.2 i c e; exact ⟨a, e1, e2.le l⟩⟩

theorem FI.delF {D : DM} {f a : Addr} {cols : List ColD} {nss ss : List Str} (h : FI D f cols nss ss) (ha : Flat D a) : FI (D.del a) f cols nss ss := by
  refine hid fun gg hgg => ?_
  obtain ⟨cs, nms, lk, ls, h1, h2, h3⟩ := h
  refine hgg ?_
  clear hgg gg
  exact ⟨cs, nms, lk, ls, h1.delF ha, h2.delF ha, h3⟩
structure Bs (D : DM) (st r : Addr) (n R C : Nat) (cols : List ColD) (f nl bl : Addr) : Prop where
  s : StAt D st r n
  R1 : 1 ≤ R
  R4 : R ≤ 4
  C1 : 1 ≤ C
  C3 : C ≤ 3
  hc : cols.length = C
  hv : ∀ c ∈ cols, c.vs.length = R
  f : FI (D.del st) f cols (abc C) (rowL R)
  nl : ∃ nms, L (D.del st) nl nms ∧ Strs nms (abc C)
  bl : ∃ bs, L (D.del st) bl bs ∧ Tolds (D.del st) bs cols
theorem Bs.step {D D' : DM} {st r : Addr} {n n' R C : Nat} {cols : List ColD} {f nl bl : Addr} (h : Bs D st r n R C cols f nl bl) (l : (D.del st).le (D'.del st)) (s : StAt D' st r n') : Bs D' st r n' R C cols f nl bl :=
  ⟨s, h.R1, h.R4, h.C1, h.C3, h.hc, h.hv, h.f.le l, by obtain ⟨x, h1, h2⟩ := h.nl; exact ⟨x, h1.le l, h2⟩, by obtain ⟨x, h1, h2⟩ := h.bl; exact ⟨x, h1.le l, h2.le l⟩⟩
theorem Bs.le {D D' : DM} {st r : Addr} {n R C : Nat} {cols : List ColD} {f nl bl : Addr} (h : Bs D st r n R C cols f nl bl) (l : D.le D') : Bs D' st r n R C cols f nl bl := h.step (DM.del_mono l) (h.s.le l)

theorem tolds_veq {D : DM} {a a' : Addr} {xs ys : List Value} {cols : List ColD} {d : Nat} (h1 : L D a xs) (h2 : L D a' ys) (t1 : Tolds D xs cols) (t2 : Tolds D ys cols) : Veq D (d + 4) (.ref a) (.ref a') true := by
  refine veq_list h1.ls h2.ls (t1.1.trans t2.1.symm) fun i x y e1 e2 => ?_
  have hi := (List.getElem?_eq_some_iff.mp e1).1
  rw [t1.1] at hi
  have e : cols[i]? = some cols[i] := by simp [hi]
  obtain ⟨p, q1, q2⟩ := t1.2 i _ e
  obtain ⟨p', q1', q2'⟩ := t2.2 i _ e
  rw [e1] at q1; rw [e2] at q1'
  cases q1; cases q1'
  exact .inr (.inr (told_veq q2 q2'))
theorem strs_veq {D : DM} {a a' : Addr} {xs ys : List Value} {ss : List Str} {d : Nat} (h1 : L D a xs) (h2 : L D a' ys) (t1 : Strs xs ss) (t2 : Strs ys ss) : Veq D (d + 1) (.ref a) (.ref a') true := by
  refine veq_list h1.ls h2.ls (t1.1.trans t2.1.symm) fun i x y e1 e2 => ?_
  refine hid fun gg hgg => ?_
  obtain ⟨s, t, q1, rfl⟩ := t1.of e1
  refine hgg ?_
  clear hgg gg
  refine hid fun gg hgg => ?_
  obtain ⟨s', t', q2, rfl⟩ := t2.of e2
  refine hgg ?_
  clear hgg gg
  rw [q1] at q2
  cases q2
  exact .inr (.inl (by simp [aeq_ii, aeq_ss]))
theorem same_veq {D : DM} {a a' : Addr} {xs : List Value} {d : Nat} (h1 : L D a xs) (h2 : L D a' xs) : Veq D (d + 1) (.ref a) (.ref a') true :=
  veq_list h1.ls h2.ls rfl fun i x y e1 e2 => .inl (by rw [e1] at e2; exact Option.some.inj e2)
theorem Strs.append {xs ys : List Value} {ss us : List Str} (h1 : Strs xs ss) (h2 : Strs ys us) : Strs (xs ++ ys) (ss ++ us) := by
  refine Strs.mk' (by simp [h1.1, h2.1]) fun i v hv => ?_
  rw [List.getElem?_append] at hv ⊢
  split at hv
  · rename_i hi
    refine hid fun gg hgg => ?_
    obtain ⟨s, t, e1, e2⟩ := h1.of hv
    refine hgg ?_
    clear hgg gg
    exact ⟨s, t, by rw [if_pos (by rw [← h1.1]; exact hi)]; exact e1, e2⟩
  · rename_i hi
    refine hid fun gg hgg => ?_
    obtain ⟨s, t, e1, e2⟩ := h2.of hv
    refine hgg ?_
    clear hgg gg
    exact ⟨s, t, by rw [if_neg (by rw [← h1.1]; exact hi), ← h1.1]; exact e1, e2⟩

section parts
variable {b : Bx} {D : DM}
theorem told_comp {elt : E} (he : elt = sb_law_1) {l : Addr} {cs : List Value} {cols : List ColD} {W : Value → Vs} {K : List Value → DM → Addr → Prop} (hl : L D l cs) (hc : ColsAt D cs cols) (hb : cs.length ≤ 900) (hW : ∀ v, (W v).getD 26 none = some v)
    (h : ∀ a bs D', D' a = none → D.le (D'.put a (.lst bs)) → L (D'.put a (.lst bs)) a bs → Tolds (D'.put a (.lst bs)) bs cols → K bs D' a) :
    srcR D 0 (.ref l) fun m item still start back => 0 < 2 ∧ ∃ I : Nat → List Value → DM → Prop, I 0 [] D ∧ (∀ i out D2, I i out D2 → still D2) ∧
      (∀ i out D2 v, i < m → item i v → out.length = i → I i out D2 → wpE (GG b) 217 elt (W v) D2 fun y D3 => I (i + 1) (out ++ [y]) D3) ∧
      ∀ out D2 a, I m out D2 → out.length = m → D2 a = Option.none → K out D2 a := by
  subst he
  refine i_comp0 hl (Nat.le_trans hb (by decide)) (fun i y D' => ∃ a c, y = .ref a ∧ cols[i]? = some c ∧ ToldAt D' a c) (fun i y D' D'' l h => by obtain ⟨a, c, e1, e2, e3⟩ := h; exact ⟨a, c, e1, e2, e3.le l⟩) (fun i v D' kk l hv hk => ?_) fun a out D' ha ha1 l h1 h2 h3 => ?_
  · refine hid fun gg hgg => ?_
    obtain ⟨x, c, rfl, e1, e2⟩ := hc.of hv
    refine hgg ?_
    clear hgg gg
    dsimp only [sb_law_1, wpE, wpEs]
    rw [hW]
    refine i_call (c_law_told (e2.le l)) fun v D2 l2 e => ?_
    obtain ⟨a, rfl, e3⟩ := e
    exact hk _ _ l2 ⟨a, c, rfl, e1, e3⟩
  · refine h a out D' ha1 l h1 ⟨by rw [h2, hc.1], fun i c hc' => ?_⟩
    have hi := (List.getElem?_eq_some_iff.mp hc').1
    have e : out[i]? = some (out[i]'(by rw [h2, hc.1]; exact hi)) := by simp
    refine hid fun gg hgg => ?_
    obtain ⟨a', c', e1, e2, e3⟩ := h3 i _ e
    refine hgg ?_
    clear hgg gg
    rw [hc'] at e2
    cases e2
    exact ⟨a', by rw [e, e1], e3⟩

theorem str_comp {elt : E} (he : elt = sb_law_10) {l : Addr} {R : Nat} {W : Value → Vs} {K : List Value → DM → Addr → Prop} (hl : D l = some (.rng 0 (R : Int))) (hR : R ≤ 9) (hW : ∀ v, (W v).getD 24 none = some v)
    (h : ∀ a bs D', D' a = none → D.le (D'.put a (.lst bs)) → L (D'.put a (.lst bs)) a bs → Strs bs (rowL R) → K bs D' a) :
    srcR D 1 (.ref l) fun m item still start back => 1 < 2 ∧ ∃ I : Nat → List Value → DM → Prop, I 0 [] D ∧ (∀ i out D2, I i out D2 → still D2) ∧
      (∀ i out D2 v, i < m → item i v → out.length = i → I i out D2 → wpE (GG b) 217 elt (W v) D2 fun y D3 => I (i + 1) (out ++ [y]) D3) ∧
      ∀ out D2 a, I m out D2 → out.length = m → D2 a = Option.none → K out D2 a := by
  subst he
  have hrt : ((R : Int) - 0).toNat = R := by omega
  refine i_comp1I hl (by rw [hrt]; exact Nat.le_trans hR (by decide)) (fun i out D' => D.le D' ∧ Strs out ((rowL R).take i)) ⟨DM.le.refl _, Strs.nil⟩ (fun i out D' t hi ho hI => ?_) fun out D' a hI ho ha => ?_
  · obtain ⟨l1, h1⟩ := hI
    rw [hrt] at hi
    dsimp only [sb_law_10, wpE, wpEs]
    rw [hW]
    intro t1 t2
    refine ⟨by omega, fun t3 => ⟨l1, ?_⟩⟩
    have e : (upto 1 R)[i]? = some (1 + (i : Int)) := by
      unfold upto
      rw [List.getElem?_map, List.getElem?_range hi]; rfl
    have e2 : (rowL R)[i]? = some (strI (1 + (i : Int))) := by unfold rowL; rw [List.getElem?_map, e]; rfl
    rw [take_snoc e2]
    have e3 : (1 : Int) + (0 + (i : Int)) = 1 + i := by omega
    rw [e3]
    exact h1.snoc
  · obtain ⟨l1, h1⟩ := hI
    rw [hrt] at h1 ho
    have e : (rowL R).take R = rowL R := by
      have := List.take_length (l := rowL R)
      rwa [rowL_len] at this
    rw [e] at h1
    exact h a out D' ha (l1.trans (DM.le_put ha)) (DM.put_same ..) h1
end parts

section stages
variable {o0 o1 o2 o3 o4 o5 o6 o7 o8 o9 o10 o11 o12 o13 o14 o15 o16 o17 o18 o19 o20 o21 o22 o23 o24 o25 o26 o27 o28 o29 : Option Value}
variable {b : Bx} {D : DM} {st r f nl bl pl wl : Addr} {n R C : Nat} {cols : List ColD} {tR tC : Tok}

noncomputable abbrev Fin : Flow → Vs → DM → Prop := fun fl _ _ => flowV fl = .bool true

theorem s27 (B : Bs D st r n R C cols f nl bl) : wpSs (GG b) 217 sq_law_27 [o0, some (.ref st), some (.int (R : Nat) tR), some (.int (C : Nat) tC), o4, some (.ref nl), some (.ref f), some (.ref bl), some (.ref pl), some (.ref wl), o10, o11, o12, o13, o14, o15, o16, o17, o18, o19, o20, o21, o22, o23, o24, o25, o26, o27, o28, o29] D Fin := by
  dsimp only [sq_law_27, wpSs, wpS, wpE, wpEs, wpT, wpOr, wpAnd, List.getD_cons_zero, List.getD_cons_succ, List.set_cons_zero, List.set_cons_succ]
  refine hid fun gg hgg => ?_
  obtain ⟨cs, nms, lk, ls, h1, h2, _, _, h5, _⟩ := B.f.le (DM.del_le _ _)
  refine hgg ?_
  clear hgg gg
  obtain ⟨bs, hb1, hb2⟩ := B.bl
  have lD := DM.del_le D st
  refine hid fun gg hgg => ?_
  obtain ⟨il, da, nv, nl', cv, cl, rv, rl, t, t1, t2, t3, t4, X⟩ := h1
  refine hgg ?_
  clear hgg gg
  refine i_att1 X.v (told_comp rfl X.i h2 (by rw [h2.1]; omega) (fun v => rfl) fun a ts D' ha l g1 g2 => ?_)
  generalize D'.put a (.lst ts) = D2 at *
  exact i_eqv (d := 4) (by decide) (tolds_veq g1 (hb1.le (lD.trans l)) g2 (hb2.le (lD.trans l))) rfl

theorem s26 {tp q : Addr} {tcols qcols : List ColD} {nss nss' sst ssr : List Str} (B : Bs D st r n R C cols f nl bl) (ht : FI (D.del st) tp tcols nss sst) (hq : FI (D.del st) q qcols nss' ssr) (hs : sst ++ ssr = rowL R) :
    wpSs (GG b) 217 sq_law_26 [o0, some (.ref st), some (.int (R : Nat) tR), some (.int (C : Nat) tC), o4, some (.ref nl), some (.ref f), some (.ref bl), some (.ref pl), some (.ref wl), o10, o11, o12, o13, o14, o15, o16, o17, o18, o19, o20, o21, some (.ref tp), some (.ref q), o24, o25, o26, o27, o28, o29] D Fin := by
  dsimp only [sq_law_26, wpSs, wpS, wpE, wpEs, wpT, wpOr, wpAnd, List.getD_cons_zero, List.getD_cons_succ, List.set_cons_zero, List.set_cons_succ]
  have lD := DM.del_le D st
  refine hid fun gg hgg => ?_
  obtain ⟨cs, nms, lk, ls, h1, h2, h3, h4, _, _, h7, _⟩ := ht.le lD
  refine hgg ?_
  clear hgg gg
  refine hid fun gg hgg => ?_
  obtain ⟨cs', nms', lk', ls', h1', h2', h3', h4', _, _, h7', _⟩ := hq.le lD
  refine hgg ?_
  clear hgg gg
  refine i_call (c_row_names h1 h4) fun v D1 l1 e => ?_
  refine hid fun gg hgg => ?_
  obtain ⟨a1, w1, rfl, _, g1, g2⟩ := e
  refine hgg ?_
  clear hgg gg
  refine i_call (c_row_names (h1'.le l1) h4') fun v D2 l2 e => ?_
  refine hid fun gg hgg => ?_
  obtain ⟨a2, w2, rfl, _, g3, g4⟩ := e
  refine hgg ?_
  clear hgg gg
  refine ⟨w1, w2, g1.le l2, g3, by rw [g2.1, g4.1]; exact Nat.le_trans (Nat.add_le_add h7 h7') (by decide), fun a3 ha3 => ?_⟩
  have l3 := DM.le_put (c := .lst (w1 ++ w2)) ha3
  have g5 : L (D2.put a3 (.lst (w1 ++ w2))) a3 (w1 ++ w2) := DM.put_same ..
  have g6 := g2.append g4
  rw [hs] at g6
  generalize D2.put a3 (.lst (w1 ++ w2)) = D3 at *
  have R4 := B.R4
  refine i_range1 (by omega) (by omega) fun a4 ha4 => ?_
  have l4 := DM.le_put (c := .rng 0 (R : Int)) ha4
  refine str_comp rfl (DM.put_same ..) (by omega) (fun v => rfl) fun a5 w5 D5 _ l5 g7 g8 => ?_
  generalize D5.put a5 (.lst w5) = D6 at *
  refine i_nev (d := 1) (by decide) (strs_veq (g5.le (l4.trans l5)) g7 g6 g8) (i_f ?_)
  exact s27 (B.le ((((l1.trans l2).trans l3).trans l4).trans l5))

theorem s25 {tp q : Addr} {is1 is2 : List Int} {nss nss' sst ssr : List Str} (B : Bs D st r n R C cols f nl bl) (ht : FI (D.del st) tp (cols.map (·.pick is1)) nss sst) (hq : FI (D.del st) q (cols.map (·.pick is2)) nss' ssr) (hs : sst ++ ssr = rowL R)
    (hp : ∀ c ∈ cols, pickV c.vs is1 ++ pickV c.vs is2 = c.vs) :
    wpSs (GG b) 217 sq_law_25 [o0, some (.ref st), some (.int (R : Nat) tR), some (.int (C : Nat) tC), o4, some (.ref nl), some (.ref f), some (.ref bl), some (.ref pl), some (.ref wl), o10, o11, o12, o13, o14, o15, o16, o17, o18, o19, o20, o21, some (.ref tp), some (.ref q), o24, o25, o26, o27, o28, o29] D Fin := by
  dsimp only [sq_law_25, wpSs, wpS, wpE, wpEs, wpT, wpOr, wpAnd, List.getD_cons_zero, List.getD_cons_succ, List.set_cons_zero, List.set_cons_succ]
  have C3 := B.C3
  have R4 := B.R4
  have hct : ((C : Int) - 0).toNat = C := by omega
  refine i_range1 (by omega) (by omega) fun a ha => ?_
  refine i_for1 (DM.put_same ..) (by rw [hct]; exact Nat.le_trans C3 (by decide)) (fun i V' D' => ∃ o24, V' = [o0, some (.ref st), some (.int (R : Nat) tR), some (.int (C : Nat) tC), o4, some (.ref nl), some (.ref f), some (.ref bl), some (.ref pl), some (.ref wl), o10, o11, o12, o13, o14, o15, o16, o17, o18, o19, o20, o21, some (.ref tp), some (.ref q), o24, o25, o26, o27, o28, o29] ∧ D.le D') ⟨o24, rfl, DM.le_put ha⟩ (fun i V' D' t hi hI => ?_) fun V' D' hI => ?_
  · obtain ⟨o24, rfl, l1⟩ := hI
    rw [hct] at hi
    have lD := (DM.del_le D st).trans l1
    refine hid fun gg hgg => ?_
    obtain ⟨cs, nms, lk, ls, h1, h2, _⟩ := ht.le lD
    refine hgg ?_
    clear hgg gg
    refine hid fun gg hgg => ?_
    obtain ⟨cs', nms', lk', ls', h1', h2', _⟩ := hq.le lD
    refine hgg ?_
    clear hgg gg
    obtain ⟨bs, hb1, hb2⟩ := B.bl
    have hb1 := hb1.le lD
    have hb2 := hb2.le lD
    have hic : i < cols.length := by rw [B.hc]; exact hi
    have e : cols[i]? = some cols[i] := by simp [hic]
    have hm := List.mem_of_getElem? e
    have hlen := B.hv _ hm
    have hpc := hp _ hm
    generalize cols[i] = c at *
    refine hid fun gg hgg => ?_
    obtain ⟨x, e1, hk, hvb, il, t1, at_, hv, hil, hf⟩ := h2.2 i (c.pick is1) (by rw [List.getElem?_map, e]; rfl)
    refine hgg ?_
    clear hgg gg
    refine hid fun gg hgg => ?_
    obtain ⟨x', e1', hk', hvb', il', t1', at_', hv', hil', hf'⟩ := h2'.2 i (c.pick is2) (by rw [List.getElem?_map, e]; rfl)
    refine hgg ?_
    clear hgg gg
    refine hid fun gg hgg => ?_
    obtain ⟨ta, e3, tt, til, lev, e4, e5, e6⟩ := hb2.2 i c e
    refine hgg ?_
    clear hgg gg
    refine hid fun gg hgg => ?_
    obtain ⟨fil, da, nv, nl', cv, cl, rv, rl, t, t1, t2, t3, t4, X⟩ := h1
    refine hgg ?_
    clear hgg gg
    refine hid fun gg hgg => ?_
    obtain ⟨fil', da', nv', nl'', cv', cl', rv', rl', t', t1', t2', t3', t4', X'⟩ := h1'
    refine hgg ?_
    clear hgg gg
    have i0 : (0 : Int) ≤ 0 + (i : Int) := by omega
    have in_ : (0 + (i : Int)).toNat = i := by omega
    dsimp only [sl_law_12, wpSs, wpS, wpE, wpEs, wpT, wpOr, wpAnd, List.getD_cons_zero, List.getD_cons_succ, List.set_cons_zero, List.set_cons_succ]
    refine i_att1 X.v (i_item_l X.i X.cb i0 (by rw [in_]; exact e1) (i_att1 hv (i_att1 X'.v (i_item_l X'.i X'.cb i0 (by rw [in_]; exact e1') (i_att1 hv' ?_)))))
    refine ⟨_, _, hil, hil', ?_, fun a2 ha2 => ?_⟩
    · have e7 : ((c.pick is1).vs ++ (c.pick is2).vs).length = R := by
        show (pickV c.vs is1 ++ pickV c.vs is2).length = R
        rw [hpc]; exact hlen
      rw [List.length_append] at e7
      rw [e7]; exact Nat.le_trans R4 (by decide)
    · have l2 := DM.le_put (c := .lst ((c.pick is1).vs ++ (c.pick is2).vs)) ha2
      have g1 : L (D'.put a2 (.lst ((c.pick is1).vs ++ (c.pick is2).vs))) a2 c.vs := by
        have : (c.pick is1).vs ++ (c.pick is2).vs = c.vs := hpc
        rw [this]; exact DM.put_same ..
      generalize D'.put a2 _ = D2 at *
      refine i_item_l (hb1.le l2) (by rw [hb2.1, B.hc]; exact Nat.le_trans C3 (by decide)) i0 (by rw [in_]; exact e3) fun t5 => i_item_l (v := .ref til) (e4.le l2) (by simp [big]) (by decide) rfl ?_
      exact i_nev (d := 1) (by decide) (same_veq g1 (e5.le l2)) (i_f ⟨_, rfl, l1.trans l2⟩)
  · obtain ⟨o24, rfl, l1⟩ := hI
    exact s26 (B.le l1) (ht.le (DM.del_mono l1)) (hq.le (DM.del_mono l1)) hs

theorem pick_split {α : Type} (vs : List α) (d : α) (M : Nat) (hM : M ≤ vs.length) : ((upto 0 M).map fun p => vs.getD p.toNat d) ++ ((upto (M : Int) (vs.length - M)).map fun p => vs.getD p.toNat d) = vs := by
  refine List.ext_getElem? fun i => ?_
  have one : ∀ (lo : Int) (m i : Nat), i < m → 0 ≤ lo → ((upto lo m).map fun p => vs.getD p.toNat d)[i]? = some (vs.getD (lo.toNat + i) d) := fun lo m i hi hlo => by
    unfold upto
    rw [List.getElem?_map, List.getElem?_map, List.getElem?_range hi]
    show some (vs.getD (lo + (i : Int)).toNat d) = _
    have : (lo + (i : Int)).toNat = lo.toNat + i := by omega
    rw [this]
  rw [List.getElem?_append]
  by_cases h1 : i < M
  · rw [if_pos (by simp [upto_len, h1]), one 0 M i h1 (by decide)]
    have : (0 : Int).toNat + i = i := by simp
    rw [this]
    have e : vs[i]? = some (vs[i]'(by omega)) := by simp [show i < vs.length by omega]
    rw [e, getD_of e]
  · rw [if_neg (by simp [upto_len, h1])]
    have hl : ((upto 0 M).map fun p => vs.getD p.toNat d).length = M := by simp [upto_len]
    rw [hl]
    by_cases h2 : i < vs.length
    · rw [one M (vs.length - M) (i - M) (by omega) (by omega)]
      have : ((M : Nat) : Int).toNat + (i - M) = i := by omega
      rw [this]
      have e : vs[i]? = some vs[i] := by simp [h2]
      rw [e, getD_of e]
    · rw [List.getElem?_eq_none_iff.mpr (by simp [upto_len]; omega), List.getElem?_eq_none_iff.mpr (by omega)]

theorem s22 (B : Bs D st r n R C cols f nl bl) (hn : n ≤ 4000) : wpSs (GG b) 217 sq_law_22 [o0, some (.ref st), some (.int (R : Nat) tR), some (.int (C : Nat) tC), o4, some (.ref nl), some (.ref f), some (.ref bl), some (.ref pl), some (.ref wl), o10, o11, o12, o13, o14, o15, o16, o17, o18, o19, o20, o21, o22, o23, o24, o25, o26, o27, o28, o29] D Fin := by
  have R4 := B.R4
  dsimp only [sq_law_22, sq_law_23, sq_law_24, wpSs, wpS, wpE, wpEs, wpT, wpOr, wpAnd, List.getD_cons_zero, List.getD_cons_succ, List.set_cons_zero, List.set_cons_succ]
  intro t1 t2
  refine i_callM (c_law_take B.s.st0 (by omega) (by omega)) fun v D1 e => ?_
  refine hid fun gg hgg => ?_
  obtain ⟨l1, s1, j, tj, rfl, j0, j1⟩ := e
  refine hgg ?_
  clear hgg gg
  obtain ⟨M, rfl⟩ : ∃ M : Nat, j = (M : Int) := ⟨j.toNat, by omega⟩
  have hM : M ≤ R := by omega
  have B1 := B.step l1 s1
  have hF := B1.f.le (DM.del_le _ _)
  refine hid fun gg hgg => ?_
  obtain ⟨cs, nms, lk, ls, h1, h2, h3, h4, h5, h6, h7, h8, h9, h10⟩ := id hF
  refine hgg ?_
  clear hgg gg
  have el : ls.length = R := by rw [h4.len, rowL_len]
  refine i_call (c_head_frame (P := fun v D' => ∃ g, v = .ref g ∧ FI D' g (cols.map (·.pick (upto 0 M))) (abc C) (pickS (rowL R) (upto 0 M))) (w := M) h1 (by omega) fun D2 p ps l hp hi => ?_) fun v D2 l2 e => ?_
  · rw [el, Nat.min_eq_right hM] at hi
    exact f_pick (hF.le l) hp hi (fun p hp => by have := upto_mem hp; rw [rowL_len]; omega) (by rw [upto_len]; omega) (upto_nodup ..)
  · obtain ⟨tp, rfl, g1⟩ := e
    intro t3
    have e1 : (R : Int) - (M : Int) = ((R - M : Nat) : Int) := by omega
    rw [e1]
    refine i_call (c_tail_frame (P := fun v D' => ∃ g, v = .ref g ∧ FI D' g (cols.map (·.pick (upto (M : Int) (R - M)))) (abc C) (pickS (rowL R) (upto (M : Int) (R - M)))) (w := R - M) (h1.le l2) (by omega) (by omega) fun D3 p ps l hp hi => ?_) fun v D3 l3 e => ?_
    · have e2 : ((ls.length - (R - M) : Nat) : Int) = (M : Int) := by omega
      rw [e2] at hi
      exact f_pick (hF.le (l2.trans l)) hp hi (fun p hp => by have := upto_mem hp; rw [rowL_len]; omega) (by rw [upto_len]; omega) (upto_nodup ..)
    · obtain ⟨q, rfl, g2⟩ := e
      have sF : StAt D3 st r (n + 1) := s1.le (l2.trans l3)
      refine s25 (B1.le (l2.trans l3)) ((g1.le l3).delF sF.flat) (g2.delF sF.flat) ?_ fun c hc => ?_
      · have := pick_split (rowL R) Str.empty M (by rw [rowL_len]; exact hM)
        rw [rowL_len] at this
        exact this
      · have := pick_split c.vs Value.none M (by rw [B.hv c hc]; exact hM)
        rw [B.hv c hc] at this
        exact this
end stages
end Mine

namespace Mine

/-- an order of the rows, and how to go back -/
noncomputable def backOf (o : List Int) (R : Nat) : List Int := (List.range R).map fun (z : Nat) => ((o.idxOf (z : Int) : Nat) : Int)
structure Ord (o : List Int) (R : Nat) : Prop where
  len : o.length = R
  nd : o.Nodup
  rg : InR o R
  all : ∀ z : Nat, z < R → (z : Int) ∈ o
theorem Ord.get {o : List Int} {R : Nat} (h : Ord o R) {z : Nat} (hz : z < R) : o[o.idxOf (z : Int)]? = some (z : Int) := by
  have hm := h.all z hz
  have hi := List.idxOf_lt_length_of_mem hm
  rw [List.getElem?_eq_getElem hi, List.getElem_idxOf]
theorem Ord.lt {o : List Int} {R : Nat} (h : Ord o R) {z : Nat} (hz : z < R) : o.idxOf (z : Int) < R := by
  have := List.idxOf_lt_length_of_mem (h.all z hz)
  rwa [h.len] at this
theorem back_get {o : List Int} {R z : Nat} (hz : z < R) : (backOf o R)[z]? = some ((o.idxOf (z : Int) : Nat) : Int) := by
  unfold backOf
  rw [List.getElem?_map, List.getElem?_range hz]; rfl
theorem back_inr {o : List Int} {R : Nat} (h : Ord o R) : InR (backOf o R) R := fun p hp => by
  unfold backOf at hp
  obtain ⟨z, hz, rfl⟩ := List.mem_map.mp hp
  have := h.lt (List.mem_range.mp hz)
  omega
theorem back_nodup {o : List Int} {R : Nat} (h : Ord o R) : (backOf o R).Nodup := by
  unfold backOf List.Nodup
  rw [List.pairwise_map]
  refine List.Pairwise.imp_of_mem (fun {a c} ha hc hne e => hne ?_) List.nodup_range
  have e1 := h.get (List.mem_range.mp ha)
  have e2 := h.get (List.mem_range.mp hc)
  have e' : o.idxOf (a : Int) = o.idxOf (c : Int) := by omega
  rw [e', e2] at e1
  have := Option.some.inj e1
  omega
theorem pick_back {α : Type} {o : List Int} {R : Nat} (h : Ord o R) (vs : List α) (d : α) (hv : vs.length = R) : ((backOf o R).map fun p => (o.map fun p => vs.getD p.toNat d).getD p.toNat d) = vs := by
  refine List.ext_getElem? fun z => ?_
  rw [List.getElem?_map]
  by_cases hz : z < R
  · rw [back_get hz]
    show some ((o.map fun p => vs.getD p.toNat d).getD ((o.idxOf (z : Int) : Nat) : Int).toNat d) = _
    have e1 := h.get hz
    have e2 : (o.map fun p => vs.getD p.toNat d)[o.idxOf (z : Int)]? = some (vs.getD z d) := by rw [List.getElem?_map, e1]; rfl
    rw [Int.toNat_natCast, getD_of e2]
    have e3 : vs[z]? = some (vs[z]'(by omega)) := by simp [show z < vs.length by omega]
    rw [e3, getD_of e3]
  · rw [List.getElem?_eq_none_iff.mpr (by simp [backOf]; omega), List.getElem?_eq_none_iff.mpr (by omega)]; rfl
theorem back_cols {o : List Int} {R : Nat} (h : Ord o R) {cols : List ColD} (hv : ∀ c ∈ cols, c.vs.length = R) : (cols.map (·.pick o)).map (·.pick (backOf o R)) = cols := by
  rw [List.map_map]
  have : ∀ c ∈ cols, ((fun x : ColD => x.pick (backOf o R)) ∘ fun x : ColD => x.pick o) c = c := fun c hc => by
    show (⟨c.kd, pickV (pickV c.vs o) (backOf o R), c.fa⟩ : ColD) = c
    have e : pickV (pickV c.vs o) (backOf o R) = c.vs := pick_back h c.vs Value.none (hv c hc)
    rw [e]
  rw [List.map_congr_left this, List.map_id'']
  exact fun _ => rfl
theorem back_rows {o : List Int} {R : Nat} (h : Ord o R) : pickS (pickS (rowL R) o) (backOf o R) = rowL R := pick_back h (rowL R) Str.empty (rowL_len R)

theorem erase_perm {α : Type} : ∀ (l : List α) (i : Nat) (h : i < l.length), (l[i] :: l.eraseIdx i).Perm l
  | [], _, h => absurd h (by simp)
  | x :: r, 0, _ => List.Perm.refl _
  | x :: r, i + 1, h => by
    rw [List.eraseIdx_cons_succ, List.getElem_cons_succ]
    exact (List.Perm.swap _ _ _).trans ((erase_perm r i (by simpa using h)).cons x)
theorem Ints.eraseIdx {lv : List Value} {lf : List Int} (h : Ints lv lf) (j : Nat) : Ints (lv.eraseIdx j) (lf.eraseIdx j) := by
  refine ⟨by rw [List.length_eraseIdx, List.length_eraseIdx, h.1], fun i s hs => ?_⟩
  rw [List.getElem?_eraseIdx] at hs ⊢
  split at hs
  · rename_i hi; rw [if_pos hi]; exact h.2 i s hs
  · rename_i hi; rw [if_neg hi]; exact h.2 (i + 1) s hs

section stages
variable {o0 o1 o2 o3 o4 o5 o6 o7 o8 o9 o10 o11 o12 o13 o14 o15 o16 o17 o18 o19 o20 o21 o22 o23 o24 o25 o26 o27 o28 o29 : Option Value}
variable {b : Bx} {D : DM} {st r f nl bl pl wl : Addr} {n R C : Nat} {cols : List ColD} {tR tC : Tok}

theorem s21 {gb : Addr} (B : Bs D st r n R C cols f nl bl) (hn : n ≤ 4000) (hg : FI (D.del st) gb cols (abc C) (rowL R)) : wpSs (GG b) 217 sq_law_21 [o0, some (.ref st), some (.int (R : Nat) tR), some (.int (C : Nat) tC), o4, some (.ref nl), some (.ref f), some (.ref bl), some (.ref pl), some (.ref wl), o10, o11, o12, o13, o14, o15, o16, o17, o18, o19, some (.ref gb), o21, o22, o23, o24, o25, o26, o27, o28, o29] D Fin := by
  dsimp only [sq_law_21, wpSs, wpS, wpE, wpEs, wpT, wpOr, wpAnd, List.getD_cons_zero, List.getD_cons_succ, List.set_cons_zero, List.set_cons_succ]
  have R4 := B.R4
  have lD := DM.del_le D st
  refine hid fun gg hgg => ?_
  obtain ⟨cs, nms, lk, ls, h1, h2, _, h4, h5, _⟩ := hg.le lD
  refine hgg ?_
  clear hgg gg
  obtain ⟨bs, hb1, hb2⟩ := B.bl
  have h0 := h1
  refine hid fun gg hgg => ?_
  obtain ⟨il, da, nv, nl', cv, cl, rv, rl, t, t1, t2, t3, t4, X⟩ := h1
  refine hgg ?_
  clear hgg gg
  refine i_att1 X.v (told_comp rfl X.i h2 (by rw [h2.1]; omega) (fun v => rfl) fun a ts D' ha l g1 g2 => ?_)
  generalize D'.put a (.lst ts) = D2 at *
  refine i_nev (d := 4) (by decide) (tolds_veq g1 (hb1.le (lD.trans l)) g2 (hb2.le (lD.trans l))) (i_f ?_)
  refine i_call (c_row_names (h0.le l) h4) fun v D3 l3 e => ?_
  refine hid fun gg hgg => ?_
  obtain ⟨a1, w1, rfl, _, g3, g4⟩ := e
  refine hgg ?_
  clear hgg gg
  refine i_range1 (by omega) (by omega) fun a4 ha4 => ?_
  have l4 := DM.le_put (c := .rng 0 (R : Int)) ha4
  refine str_comp rfl (DM.put_same ..) (by omega) (fun v => rfl) fun a5 w5 D5 _ l5 g7 g8 => ?_
  generalize D5.put a5 (.lst w5) = D6 at *
  refine i_nev (d := 1) (by decide) (strs_veq (g3.le (l4.trans l5)) g7 g4 g8) (i_f (i_f ?_))
  exact s22 (B.le (((l.trans l3).trans l4).trans l5)) hn

theorem s20 {ol kl : Addr} {ov kv : List Value} {o : List Int} (B : Bs D st r n R C cols f nl bl) (hn : n ≤ 4000) (ho : L D ol ov) (hoi : Ints ov o) (O : Ord o R) (hk : L D kl kv) (hki : Ints kv (backOf o R)) :
    wpSs (GG b) 217 sq_law_20 [o0, some (.ref st), some (.int (R : Nat) tR), some (.int (C : Nat) tC), o4, some (.ref nl), some (.ref f), some (.ref bl), some (.ref pl), some (.ref wl), o10, o11, o12, o13, o14, o15, o16, o17, some (.ref ol), some (.ref kl), o20, o21, o22, o23, o24, o25, o26, o27, o28, o29] D Fin := by
  dsimp only [sq_law_20, wpSs, wpS, wpE, wpEs, wpT, wpOr, wpAnd, List.getD_cons_zero, List.getD_cons_succ, List.set_cons_zero, List.set_cons_succ]
  have R4 := B.R4
  refine i_call (c_order_frame (f_pick (B.f.le (DM.del_le _ _)) ho hoi (by rw [rowL_len]; exact O.rg) (by rw [O.len]; omega) O.nd)) fun v D1 l1 e => ?_
  obtain ⟨g, rfl, hg⟩ := e
  refine i_call (c_order_frame (f_pick hg (hk.le l1) hki (by simp only [pickS, List.length_map, O.len]; exact back_inr O) (by simp [backOf]; omega) (back_nodup O))) fun v D2 l2 e => ?_
  obtain ⟨g', rfl, hg'⟩ := e
  rw [back_cols O B.hv, back_rows O] at hg'
  have s2 := B.s.le (l1.trans l2)
  exact s21 (B.le (l1.trans l2)) hn (hg'.delF s2.flat)

theorem s19 {ol : Addr} {ov : List Value} {o : List Int} (B : Bs D st r n R C cols f nl bl) (hn : n ≤ 4000) (ho : L D ol ov) (hoi : Ints ov o) (O : Ord o R) :
    wpSs (GG b) 217 sq_law_19 [o0, some (.ref st), some (.int (R : Nat) tR), some (.int (C : Nat) tC), o4, some (.ref nl), some (.ref f), some (.ref bl), some (.ref pl), some (.ref wl), o10, o11, o12, o13, o14, o15, o16, o17, some (.ref ol), o19, o20, o21, o22, o23, o24, o25, o26, o27, o28, o29] D Fin := by
  dsimp only [sq_law_19, wpSs, wpS, wpE, wpEs, wpT, wpOr, wpAnd, List.getD_cons_zero, List.getD_cons_succ, List.set_cons_zero, List.set_cons_succ]
  have R4 := B.R4
  have hrt : ((R : Int) - 0).toNat = R := by omega
  have ovl : ov.length = R := by rw [hoi.1, O.len]
  refine i_range1 (by omega) (by omega) fun a ha => ?_
  have l0 := DM.le_put (c := .rng 0 (R : Int)) ha
  refine i_comp1I (DM.put_same ..) (by rw [hrt]; exact Nat.le_trans R4 (by decide)) (fun i out D' => D.le D' ∧ Ints out ((backOf o R).take i)) ⟨l0, Ints.nil⟩ (fun i out D' t hi ho' hI => ?_) fun out D' a2 hI ho' ha2 => ?_
  · obtain ⟨l1, h1⟩ := hI
    rw [hrt] at hi
    dsimp only [sb_law_9, wpE, wpEs, List.getD_cons_zero, List.getD_cons_succ, List.set_cons_zero, List.set_cons_succ]
    refine ⟨ol, ov, rfl, l1 _ _ ho, ov, o.idxOf (i : Int), (ho.le l1).ls, by rw [ovl]; exact Nat.le_trans R4 (by decide), by rw [ovl]; exact O.lt hi, fun k u hu => ?_, fun t' => ⟨l1, ?_⟩⟩
    · refine hid fun gg hgg => ?_
      obtain ⟨z, tz, e1, rfl⟩ := hoi.of hu
      refine hgg ?_
      clear hgg gg
      refine .inl ?_
      show some (z == 0 + (i : Int)) = some (decide (k = o.idxOf (i : Int)))
      congr 1
      have e2 := O.get hi
      have e0 : (0 : Int) + (i : Int) = i := by omega
      rw [e0]
      by_cases e : z = (i : Int)
      · subst e
        have : k = o.idxOf (i : Int) := (List.getElem?_inj (List.getElem?_eq_some_iff.mp e1).1 O.nd).mp (e1.trans e2.symm)
        simp [this]
      · have : k ≠ o.idxOf (i : Int) := fun q => by rw [q, e2] at e1; exact e (Option.some.inj e1).symm
        simp [e, this]
    · rw [take_snoc (back_get hi)]
      exact h1.snoc
  · obtain ⟨l1, h1⟩ := hI
    rw [hrt] at h1 ho'
    have e : (backOf o R).take R = backOf o R := List.take_of_length_le (by simp [backOf])
    rw [e] at h1
    have l2 := DM.le_put (c := .lst out) ha2
    exact s20 (B.le (l1.trans l2)) hn (ho.le (l1.trans l2)) hoi O (DM.put_same ..) h1

theorem s16 (B : Bs D st r n R C cols f nl bl) (hn : n ≤ 3000) : wpSs (GG b) 217 sq_law_16 [o0, some (.ref st), some (.int (R : Nat) tR), some (.int (C : Nat) tC), o4, some (.ref nl), some (.ref f), some (.ref bl), some (.ref pl), some (.ref wl), o10, o11, o12, o13, o14, o15, o16, o17, o18, o19, o20, o21, o22, o23, o24, o25, o26, o27, o28, o29] D Fin := by
  dsimp only [sq_law_16, sq_law_17, sq_law_18, wpSs, wpS, wpE, wpEs, wpT, wpOr, wpAnd, List.getD_cons_zero, List.getD_cons_succ, List.set_cons_zero, List.set_cons_succ]
  have R4 := B.R4
  have R1 := B.R1
  have hrt : ((R : Int) - 0).toNat = R := by omega
  refine i_range1 (by omega) (by omega) fun a ha => i_list_rng (DM.put_same ..) (by omega) fun la vs hla hv => ?_
  rw [hrt] at hv
  refine ⟨by simp, fun ol hol => ?_⟩
  have l1 := DM.le_put (c := .rng 0 (R : Int)) ha
  have l2 := DM.le_put (c := .lst vs) hla
  have l3 := DM.le_put (c := .lst []) hol
  have nla := (B.s.le l1).ne hla
  have nol := (B.s.le (l1.trans l2)).ne hol
  have nlo : la ≠ ol := DM.ne_of hol (DM.put_same ..)
  have dla : (D.del st) la = none := by rw [DM.del_ne _ nla.1]; exact none_of l1 hla
  have dol : (D.del st) ol = none := by rw [DM.del_ne _ nol.1]; exact none_of (l1.trans l2) hol
  refine ⟨fun m V' D' => ∃ lf o lv ov, V' = [o0, some (.ref st), some (.int (R : Nat) tR), some (.int (C : Nat) tC), o4, some (.ref nl), some (.ref f), some (.ref bl), some (.ref pl), some (.ref wl), o10, o11, o12, o13, o14, o15, o16, some (.ref la), some (.ref ol), o19, o20, o21, o22, o23, o24, o25, o26, o27, o28, o29] ∧ m = lf.length ∧ (D.del st).le (D'.del st) ∧ StAt D' st r (n + o.length) ∧ D' la = some (.lst lv) ∧ Ints lv lf ∧ D' ol = some (.lst ov) ∧ Ints ov o ∧ (o ++ lf).Perm (upto 0 R),
    ⟨(upto 0 R).length, upto 0 R, [], vs, [], rfl, rfl, DM.del_mono ((l1.trans l2).trans l3), B.s.le ((l1.trans l2).trans l3), l3 _ _ (DM.put_same ..), hv, DM.put_same .., Ints.nil, List.Perm.refl _⟩, fun m V' D' hI => ?_⟩
  refine hid fun gg hgg => ?_
  obtain ⟨lf, o, lv, ov, rfl, rfl, g1, g2, g3, g4, g5, g6, g7⟩ := hI
  refine hgg ?_
  clear hgg gg
  have plen : o.length + lf.length = R := by have := g7.length_eq; rwa [List.length_append, upto_len] at this
  dsimp only [st_law_8, wpSs, wpS, wpE, wpEs, wpT, wpOr, wpAnd, List.getD_cons_zero, List.getD_cons_succ, List.set_cons_zero, List.set_cons_succ]
  refine ⟨by simp, fun ea hea => ?_⟩
  have le := DM.le_put (c := .lst []) hea
  have hE : L (D'.put ea (.lst [])) ea [] := DM.put_same ..
  have g1' := g1.trans (DM.del_mono (a := st) le)
  have g2' := g2.le le
  have g3' := le _ _ g3
  have g5' := le _ _ g5
  generalize D'.put ea (.lst []) = D1 at *
  have hla3 : L D1 la lv := g3'
  by_cases hz : lf.length = 0
  · have lv0 : lv.length = 0 := by rw [g4.1]; exact hz
    refine i_nev (d := 1) (by decide) (veq_list hla3.ls hE.ls (by simpa using lv0) fun i x y e1 e2 => by simp at e2) (i_f ?_)
    have el : lf = [] := List.length_eq_zero_iff.mp hz
    subst el
    rw [List.append_nil] at g7
    have O : Ord o R := ⟨by simpa using plen, g7.nodup_iff.mpr (upto_nodup ..), fun p hp => by have := upto_mem (g7.mem_iff.mp hp); omega, fun z hz => g7.mem_iff.mpr (List.mem_map.mpr ⟨z, List.mem_range.mpr hz, by omega⟩)⟩
    exact s19 (B.step g1' g2') (by omega) g5' g6 O
  · have lv0 : lv.length ≠ ([] : List Value).length := by rw [g4.1]; exact hz
    refine i_nev (d := 1) (by decide) (veq_len hla3.ls hE.ls lv0) (i_t ?_)
    have lb : lv.length ≤ big := by rw [g4.1]; exact Nat.le_trans (show lf.length ≤ 4 by omega) (by decide)
    dsimp only [sl_law_8, wpSs, wpS, wpE, wpEs, wpT, wpOr, wpAnd, List.getD_cons_zero, List.getD_cons_succ, List.set_cons_zero, List.set_cons_succ]
    refine ⟨ol, ov, rfl, g5', la, lv, rfl, g3', i_len hla3 lb fun t1 => ?_⟩
    refine i_callM (c_law_take g2'.st0 (by omega) (by rw [g4.1]; omega)) fun v D2 e => ?_
    refine hid fun gg hgg => ?_
    obtain ⟨q1, q2, j, tj, rfl, j0, j1⟩ := e
    refine hgg ?_
    clear hgg gg
    have k3 : D2 la = some (.lst lv) := by
      have := q1 la (.lst lv) (by rw [DM.del_ne _ nla.1]; exact g3')
      rwa [DM.del_ne _ nla.1] at this
    have k5 : D2 ol = some (.lst ov) := by
      have := q1 ol (.lst ov) (by rw [DM.del_ne _ nol.1]; exact g5')
      rwa [DM.del_ne _ nol.1] at this
    have hj : j.toNat < lv.length := by omega
    have hj' : j.toNat < lf.length := by rw [← g4.1]; exact hj
    obtain ⟨tu, eu⟩ := g4.2 j.toNat lf[j.toNat] (by simp [hj'])
    refine ⟨lv, j, tj, _, k3, lb, rfl, j0, eu, ov, by rw [DM.put_ne _ _ (Ne.symm nlo)]; exact k5, by rw [g6.1]; exact Nat.le_trans (show o.length ≤ 4 by omega) (by decide), ?_⟩
    have el : (lf.eraseIdx j.toNat).length = lf.length - 1 := by rw [List.length_eraseIdx, if_pos hj']
    refine ⟨(lf.eraseIdx j.toNat).length, by omega, lf.eraseIdx j.toNat, o ++ [lf[j.toNat]], _, _, rfl, rfl, ?_, ?_, ?_, g4.eraseIdx _, DM.put_same .., g6.snoc, ?_⟩
    · rw [DM.del_put_ne _ _ nol.1, DM.del_put_ne _ _ nla.1]
      exact DM.le_mut dol (DM.le_mut dla (g1'.trans q1))
    · rw [List.length_append]
      exact (q2.put nla.1 nla.2).put nol.1 nol.2
    · rw [DM.put_ne _ _ nlo]; exact DM.put_same ..
    · refine List.Perm.trans ?_ g7
      rw [List.append_assoc]
      exact List.Perm.append_left o (erase_perm lf _ hj')
end stages
end Mine

namespace Mine

theorem pickC_map {cols : List ColD} {zw zf : List Int} (hr : InR zw cols.length) : pickC (cols.map (·.pick zf)) zw = (pickC cols zw).map (·.pick zf) := by
  unfold pickC
  rw [List.map_map]
  refine List.map_congr_left fun p hp => ?_
  obtain ⟨p0, p1⟩ := hr p hp
  have hlt : p.toNat < cols.length := by omega
  have e : cols[p.toNat]? = some cols[p.toNat] := by simp [hlt]
  have e2 : (cols.map (·.pick zf))[p.toNat]? = some (cols[p.toNat].pick zf) := by rw [List.getElem?_map, e]; rfl
  show (cols.map (·.pick zf)).getD p.toNat _ = (cols.getD p.toNat _).pick zf
  rw [getD_of e2, getD_of e]
theorem NatInts.at_ {vs : List Value} {figs : List Nat} (h : NatInts vs figs) {i a : Nat} (ha : figs[i]? = some a) : ∃ t, vs[i]? = some (.int (a : Int) t) :=
  h.2 i (a : Int) (by rw [List.getElem?_map, ha]; rfl)
theorem NatInts.snoc {vs : List Value} {figs : List Nat} {a : Nat} {t : Tok} (h : NatInts vs figs) : NatInts (vs ++ [.int (a : Int) t]) (figs ++ [a]) := by
  unfold NatInts
  rw [List.map_append]
  exact Ints.snoc h
theorem NatInts.nil : NatInts [] [] := Ints.nil
theorem any_nats {vs : List Value} {figs : List Nat} (h : NatInts vs figs) (a : Nat) (t : Tok) : (∀ y ∈ vs, (aeq y (.int (a : Int) t)).isSome = true) ∧ (vs.any fun y => (aeq y (.int (a : Int) t)).getD false) = decide (a ∈ figs) := by
  constructor
  · intro y hy
    obtain ⟨i, hi⟩ := List.mem_iff_getElem?.mp hy
    refine hid fun gg hgg => ?_
    obtain ⟨s', t', e1, rfl⟩ := h.of hi
    refine hgg ?_
    clear hgg gg
    rfl
  · rw [Bool.eq_iff_iff, List.any_eq_true, decide_eq_true_eq]
    constructor
    · rintro ⟨y, hy, e⟩
      obtain ⟨i, hi⟩ := List.mem_iff_getElem?.mp hy
      refine hid fun gg hgg => ?_
      obtain ⟨s', t', e1, rfl⟩ := h.of hi
      refine hgg ?_
      clear hgg gg
      have : (s' : Int) = (a : Int) := by simpa [aeq_ii, aeq_ss] using e
      have : s' = a := by omega
      rw [← this]; exact List.mem_of_getElem? e1
    · intro hm
      obtain ⟨i, hi⟩ := List.mem_iff_getElem?.mp hm
      obtain ⟨t', e⟩ := h.at_ hi
      exact ⟨_, List.mem_of_getElem? e, by simp [aeq_ii, aeq_ss]⟩
theorem i_notin_nats {D : DM} {l : Addr} {vs : List Value} {figs : List Nat} {a : Nat} {t : Tok} {P : Bool → Prop} (hl : L D l vs) (hs : NatInts vs figs) (h : P (!decide (a ∈ figs))) : ∃ r, cmpR D .NotIn (.int (a : Int) t) (.ref l) r ∧ P r :=
  ⟨_, .inl ⟨vs, hl.ls, (any_nats hs a t).1, by rw [Bool.not_not]; exact (any_nats hs a t).2.symm⟩, h⟩

section stages
variable {o0 o1 o2 o3 o4 o5 o6 o7 o8 o9 o10 o11 o12 o13 o14 o15 o16 o17 o18 o19 o20 o21 o22 o23 o24 o25 o26 o27 o28 o29 : Option Value}
variable {b : Bx} {D : DM} {st r f nl bl pl wl : Addr} {n R C : Nat} {cols : List ColD} {tR tC : Tok} {vs ws : List Value} {figs wf : List Nat}

/-- the places and the columns that are asked for -/
structure Asked (D : DM) (pl wl : Addr) (vs ws : List Value) (figs wf : List Nat) (R C : Nat) : Prop where
  p : L D pl vs
  pn : NatInts vs figs
  pr : ∀ a ∈ figs, 1 ≤ a ∧ a ≤ R
  ps : Small figs
  w : L D wl ws
  wn : NatInts ws wf
  wr : ∀ a ∈ wf, 1 ≤ a ∧ a ≤ C
  wd : wf.Nodup
  wl : wf.length ≤ 9
theorem Asked.le {D D' : DM} {pl wl : Addr} {vs ws : List Value} {figs wf : List Nat} {R C : Nat} (h : Asked D pl wl vs ws figs wf R C) (l : D.le D') : Asked D' pl wl vs ws figs wf R C :=
  ⟨h.p.le l, h.pn, h.pr, h.ps, h.w.le l, h.wn, h.wr, h.wd, h.wl⟩

noncomputable abbrev MI (D : DM) (g : Addr) (cols : List ColD) (C : Nat) (figs wf : List Nat) : Prop := FI D g ((pickC cols (zero wf)).map (·.pick (zero figs))) (pickS (abc C) (zero wf)) (labs figs)

noncomputable def sr_law_7_3 : Ss := .cons (.for_ 1 24 (.call .range (.cons (.call .len (.cons (.v 9) .nil)) .nil)) sl_law_5) .nil
noncomputable def sr_law_7_2 : Ss := .cons (.ite (.cmp .NotEq (.call (.own 391) (.cons (.v 16) .nil)) (.call (.own 542) (.cons (.v 8) .nil))) (.cons (.ret (.bool false)) .nil) .nil) sr_law_7_3
noncomputable def sr_law_7_1 : Ss := .cons (.ite (.cmp .NotEq (.att (.idx (.att (.v 16) 2) (.str "names")) 1) (.comp 0 25 (.v 9) sb_law_6)) (.cons (.ret (.bool false)) .nil) .nil) sr_law_7_2
noncomputable def sr_law_7_0 : Ss := .cons (.ite (.or (.cons (.nt (.e (.call (.own 360) (.cons (.v 16) .nil)))) (.cons (.cmp .NotEq (.call (.own 379) (.cons (.v 16) .nil)) (.call .len (.cons (.v 8) .nil))) .nil))) (.cons (.ret (.bool false)) .nil) .nil) sr_law_7_1
noncomputable def sr_law_5_1 : Ss := .cons (.ite (.cmp .NotEq (.call (.own 535) (.cons (.idx (.att (.v 16) 1) (.v 24)) .nil)) (.lst (.cons (.v 27) (.cons (.comp 0 25 (.v 8) sb_law_4) (.cons (.v 29) .nil))))) (.cons (.ret (.bool false)) .nil) .nil) .nil
noncomputable def sr_law_5_0 : Ss := .cons (.setn [27, 28, 29] (.idx (.v 7) (.bin .Sub (.idx (.v 9) (.v 24)) (.int 1)))) sr_law_5_1
theorem s15_turn {g : Addr} (B : Bs D st r n R C cols f nl bl) (A : Asked D pl wl vs ws figs wf R C) (M : MI D g cols C figs wf) {K : Flow → Vs → DM → Prop}
    (hK : ∀ o24 o27 o28 o29 D', D.le D' → K .next [o0, some (.ref st), some (.int (R : Nat) tR), some (.int (C : Nat) tC), o4, some (.ref nl), some (.ref f), some (.ref bl), some (.ref pl), some (.ref wl), o10, o11, o12, o13, o14, o15, some (.ref g), o17, o18, o19, o20, o21, o22, o23, o24, o25, o26, o27, o28, o29] D') : wpSs (GG b) 217 sl_law_7 [o0, some (.ref st), some (.int (R : Nat) tR), some (.int (C : Nat) tC), o4, some (.ref nl), some (.ref f), some (.ref bl), some (.ref pl), some (.ref wl), o10, o11, o12, o13, o14, o15, some (.ref g), o17, o18, o19, o20, o21, o22, o23, o24, o25, o26, o27, o28, o29] D K := by
  have R4 := B.R4
  have C3 := B.C3
  have lD := DM.del_le D st
  refine hid fun gg hgg => ?_
  obtain ⟨cs, nms, lk, ls, h1, h2, h3, h4, h5, h6, h7, h8, h9, h10⟩ := M
  refine hgg ?_
  clear hgg gg
  have h0 := h1
  refine hid fun gg hgg => ?_
  obtain ⟨il, da, nv, nl', cv, cl, rv, rl, t, t1, t2, t3, t4, X⟩ := h1
  refine hgg ?_
  clear hgg gg
  have e1 : ls.length = figs.length := by rw [h4.len, labs_len]
  have figl := A.ps.1
  have vsl : vs.length ≤ big := by rw [A.pn.len]; exact Nat.le_trans figl (by decide)
  have wsl : ws.length ≤ big := by rw [A.wn.len]; exact Nat.le_trans A.wl (by decide)
  show wpSs _ _ sr_law_7_0 _ _ _
  dsimp only [sr_law_7_0, wpSs, wpS, wpE, wpEs, wpT, wpOr, wpAnd, List.getD_cons_zero, List.getD_cons_succ, List.set_cons_zero, List.set_cons_succ]
  refine i_call (c_is_frame h0 h2 (by rw [h3.1, h6, h2.1]) fun c hc => by rw [h8 c hc, h4.len]) fun v D1 l1 e => ?_
  subst e
  refine ⟨true, rfl, i_f (i_call (c_frame_rows (h0.le l1)) fun v D2 l2 e => ?_)⟩
  obtain ⟨⟨t5, rfl⟩, rfl⟩ := e
  refine i_len (A.p.le l1) vsl fun t6 => i_ne (r := true) (by rw [e1, A.pn.len]; simp [aeq_ii, aeq_ss]) (i_f (i_f ?_))
  dsimp only [sr_law_7_1, wpSs, wpS, wpE, wpEs, wpT, wpOr, wpAnd, List.getD_cons_zero, List.getD_cons_succ, List.set_cons_zero, List.set_cons_succ]
  have X1 := X.le l1
  refine i_att2 X1.v fun t7 => ?_
  refine i_item_sd (frX_row X1) (v := .ref nv) (by rfl) (i_att1 X1.nv ?_)
  obtain ⟨nms0, hn1, hn2⟩ := B.nl
  have hn1 := hn1.le (lD.trans l1)
  have abl : (abc C).length = C := by simp [abc]; omega
  refine i_comp0 (A.w.le l1) wsl (fun i y D' => ∃ s t, (pickS (abc C) (zero wf))[i]? = some s ∧ y = .str s t) (fun i y D' D'' _ h => h) (fun i v D' kk l hv hk => ?_) fun a out D' ha ha1 l2 g1 g2 g3 => ?_
  · refine hid fun gg hgg => ?_
    obtain ⟨w, tw, q1, rfl⟩ := A.wn.of hv
    refine hgg ?_
    clear hgg gg
    obtain ⟨w1, w2⟩ := A.wr w (List.mem_of_getElem? q1)
    have hlt : ((w : Int) - 1).toNat < (abc C).length := by rw [abl]; omega
    have q2 : (abc C)[((w : Int) - 1).toNat]? = some (abc C)[((w : Int) - 1).toNat] := by simp [hlt]
    obtain ⟨tn, q3⟩ := hn2.2 _ _ q2
    have q4 : (zero wf)[i]? = some ((w : Int) - 1) := by unfold zero; rw [List.getElem?_map, q1]; rfl
    dsimp only [sb_law_6, wpE, wpEs, List.getD_cons_zero, List.getD_cons_succ, List.set_cons_zero, List.set_cons_succ]
    intro t8 t9
    refine i_item_l (hn1.le l) (by rw [hn2.1, abl]; exact Nat.le_trans C3 (by decide)) (by omega) q3 (hk _ _ (DM.le.refl _) ⟨_, tn, ?_, rfl⟩)
    rw [pickS_get q4, getD_of q2]
  · have hs : Strs out (pickS (abc C) (zero wf)) := Strs.mk' (by rw [g2, A.wn.len]; simp [pickS, zero]) g3
    generalize D'.put a (.lst out) = D3 at *
    refine i_nev (d := 1) (by decide) (strs_veq (X1.nl.le l2) g1 h3 hs) (i_f ?_)
    have l12 := l1.trans l2
    dsimp only [sr_law_7_2, wpSs, wpS, wpE, wpEs, wpT, wpOr, wpAnd, List.getD_cons_zero, List.getD_cons_succ, List.set_cons_zero, List.set_cons_succ]
    refine i_call (c_row_names (h0.le l12) h4) fun v D4 l4 e => ?_
    refine hid fun gg hgg => ?_
    obtain ⟨a1, w1, rfl, _, g4, g5⟩ := e
    refine hgg ?_
    clear hgg gg
    refine i_call (c_law_labels (A.p.le (l12.trans l4)) A.pn A.ps) fun v D5 l5 e => ?_
    refine hid fun gg hgg => ?_
    obtain ⟨a2, w2, rfl, g6, g7⟩ := e
    refine hgg ?_
    clear hgg gg
    refine i_nev (d := 1) (by decide) (strs_veq (g4.le l5) g6 g5 g7) (i_f ?_)
    have l15 := (l12.trans l4).trans l5
    dsimp only [sr_law_7_3, wpSs, wpS, wpE, wpEs, wpT, wpOr, wpAnd, List.getD_cons_zero, List.getD_cons_succ, List.set_cons_zero, List.set_cons_succ]
    refine i_len (A.w.le l15) wsl fun t8 => i_range1 (by rw [A.wn.len]; have := A.wl; omega) (by rw [A.wn.len]; have := A.wl; omega) fun a3 ha3 => ?_
    have l6 := DM.le_put (c := .rng 0 (ws.length : Int)) ha3
    have hwt : ((ws.length : Int) - 0).toNat = ws.length := by omega
    refine i_for1 (DM.put_same ..) (by rw [hwt]; exact wsl) (fun i V' D' => ∃ o24 o27 o28 o29, V' = [o0, some (.ref st), some (.int (R : Nat) tR), some (.int (C : Nat) tC), o4, some (.ref nl), some (.ref f), some (.ref bl), some (.ref pl), some (.ref wl), o10, o11, o12, o13, o14, o15, some (.ref g), o17, o18, o19, o20, o21, o22, o23, o24, o25, o26, o27, o28, o29] ∧ D.le D') ⟨o24, o27, o28, o29, rfl, l15.trans l6⟩ (fun i V' D' t hi hI => ?_) fun V' D' hI => ?_
    · refine hid fun gg hgg => ?_
      obtain ⟨o24, o27, o28, o29, rfl, l7⟩ := hI
      refine hgg ?_
      clear hgg gg
      rw [hwt, A.wn.len] at hi
      have q1 : wf[i]? = some wf[i] := by simp [hi]
      obtain ⟨w1, w2⟩ := A.wr _ (List.mem_of_getElem? q1)
      generalize wf[i] = w at *
      obtain ⟨tw, q2⟩ := A.wn.at_ q1
      have in_ : (0 + (i : Int)).toNat = i := by omega
      have i0 : (0 : Int) ≤ 0 + (i : Int) := by omega
      obtain ⟨bs, hb1, hb2⟩ := B.bl
      have hb1 := hb1.le (lD.trans l7)
      have hb2 := hb2.le (lD.trans l7)
      have hlt : ((w : Int) - 1).toNat < cols.length := by rw [B.hc]; omega
      have q3 : cols[((w : Int) - 1).toNat]? = some cols[((w : Int) - 1).toNat] := by simp [hlt]
      have q4 : (zero wf)[i]? = some ((w : Int) - 1) := by unfold zero; rw [List.getElem?_map, q1]; rfl
      have q5 := pickC_get (cols := cols) q4
      rw [getD_of q3] at q5
      generalize hcc : cols[((w : Int) - 1).toNat] = c at *
      have hm : c ∈ cols := List.mem_of_getElem? q3
      have clen := B.hv c hm
      refine hid fun gg hgg => ?_
      obtain ⟨ta, q6, tt, til, lev, q7, q8, q9⟩ := hb2.2 _ c q3
      refine hgg ?_
      clear hgg gg
      obtain ⟨x, q10, q11⟩ := (h2.le l7).2 i (c.pick (zero figs)) (by rw [List.getElem?_map, q5]; rfl)
      have X7 := X.le l7
      show wpSs _ _ sr_law_5_0 _ _ _
      dsimp only [sr_law_5_0, wpSs, wpS, wpE, wpEs, wpT, wpOr, wpAnd, List.getD_cons_zero, List.getD_cons_succ, List.set_cons_zero, List.set_cons_succ]
      refine i_item_l (v := .int (w : Int) tw) (A.w.le l7) wsl i0 (by rw [in_]; exact q2) fun t9 t10 => i_item_l hb1 (by rw [hb2.1, B.hc]; exact Nat.le_trans C3 (by decide)) (by omega) q6 ⟨ta, _, rfl, q7.ls, rfl, ?_⟩
      dsimp only [sr_law_5_1, wpSs, wpS, wpE, wpEs, wpT, wpOr, wpAnd, setAll, List.getD_cons_zero, List.getD_cons_succ, List.set_cons_zero, List.set_cons_succ]
      refine i_att1 X7.v (i_item_l (v := .ref x) X7.i X7.cb i0 (by rw [in_]; exact q10) (i_call (c_law_told (c := c.pick (zero figs)) q11) fun v D8 l8 e => ?_))
      obtain ⟨a4, rfl, q12⟩ := e
      refine i_comp0 (A.p.le (l7.trans l8)) vsl (fun i y D' => ∃ p, (zero figs)[i]? = some p ∧ y = c.vs.getD p.toNat .none) (fun i y D' D'' _ h => h) (fun j v D9 kk l9 hv hk => ?_) fun a5 out5 D9 ha5 ha6 l9 g8 g9 g10 => ?_
      · refine hid fun gg hgg => ?_
        obtain ⟨p, tp, r1, rfl⟩ := A.pn.of hv
        refine hgg ?_
        clear hgg gg
        obtain ⟨p1, p2⟩ := A.pr p (List.mem_of_getElem? r1)
        have plt : ((p : Int) - 1).toNat < c.vs.length := by rw [clen]; omega
        have r2 : c.vs[((p : Int) - 1).toNat]? = some c.vs[((p : Int) - 1).toNat] := by simp [plt]
        dsimp only [sb_law_4, wpE, wpEs, List.getD_cons_zero, List.getD_cons_succ, List.set_cons_zero, List.set_cons_succ]
        intro t11 t12
        refine i_item_l ((q8.le l8).le l9) (by rw [clen]; exact Nat.le_trans R4 (by decide)) (by omega) r2 (hk _ _ (DM.le.refl _) ⟨(p : Int) - 1, ?_, (getD_of r2).symm⟩)
        unfold zero; rw [List.getElem?_map, r1]; rfl
      · have eo : out5 = pickV c.vs (zero figs) := List.ext_getElem? fun i => by
          cases e : out5[i]? with
          | some y => obtain ⟨p, e3, rfl⟩ := g10 i y e; rw [pickV_get e3]
          | none =>
            have h7 := List.getElem?_eq_none_iff.mp e
            rw [g9, A.pn.len] at h7
            exact (List.getElem?_eq_none_iff.mpr (by simp [pickV, zero]; exact h7)).symm
        subst eo
        generalize D9.put a5 (.lst (pickV c.vs (zero figs))) = D10 at *
        refine ⟨by simp, fun a6 ha6 => ?_⟩
        have l10 := DM.le_put (c := .lst [.str c.kd tt, .ref a5, lev]) ha6
        have g11 : ToldAt (D10.put a6 (.lst [.str c.kd tt, .ref a5, lev])) a6 (c.pick (zero figs)) := ⟨tt, a5, lev, DM.put_same .., g8.le l10, q9.le ((l8.trans l9).trans l10)⟩
        generalize D10.put a6 _ = D11 at *
        refine i_nev (d := 3) (by decide) (told_veq (q12.le (l9.trans l10)) g11) (i_f ⟨_, _, _, _, rfl, ((l7.trans l8).trans l9).trans l10⟩)
    · refine hid fun gg hgg => ?_
      obtain ⟨o24, o27, o28, o29, rfl, l7⟩ := hI
      refine hgg ?_
      clear hgg gg
      exact hK _ _ _ _ _ l7

theorem s15 {g1 g2 g3 : Addr} (B : Bs D st r n R C cols f nl bl) (hn : n ≤ 3000) (A : Asked D pl wl vs ws figs wf R C) (M1 : MI D g1 cols C figs wf) (M2 : MI D g2 cols C figs wf) (M3 : MI D g3 cols C figs wf) :
    wpSs (GG b) 217 sq_law_15 [o0, some (.ref st), some (.int (R : Nat) tR), some (.int (C : Nat) tC), o4, some (.ref nl), some (.ref f), some (.ref bl), some (.ref pl), some (.ref wl), o10, o11, o12, some (.ref g1), some (.ref g2), some (.ref g3), o16, o17, o18, o19, o20, o21, o22, o23, o24, o25, o26, o27, o28, o29] D Fin := by
  dsimp only [sq_law_15, wpSs, wpS, wpE, wpEs, wpT, wpOr, wpAnd, List.getD_cons_zero, List.getD_cons_succ, List.set_cons_zero, List.set_cons_succ]
  refine ⟨by simp, fun a ha => ?_⟩
  have l0 := DM.le_put (c := .lst [.ref g1, .ref g2, .ref g3]) ha
  have hL : L (D.put a (.lst [.ref g1, .ref g2, .ref g3])) a [.ref g1, .ref g2, .ref g3] := DM.put_same ..
  refine i_for0 (vs := [.ref g1, .ref g2, .ref g3]) hL.ls (by simp [big]) (fun i V' D' => ∃ o16 o24 o27 o28 o29, V' = [o0, some (.ref st), some (.int (R : Nat) tR), some (.int (C : Nat) tC), o4, some (.ref nl), some (.ref f), some (.ref bl), some (.ref pl), some (.ref wl), o10, o11, o12, some (.ref g1), some (.ref g2), some (.ref g3), o16, o17, o18, o19, o20, o21, o22, o23, o24, o25, o26, o27, o28, o29] ∧ (D.put a (.lst [.ref g1, .ref g2, .ref g3])).le D')
    ⟨o16, o24, o27, o28, o29, rfl, DM.le.refl _⟩ (fun i V' D' h => by obtain ⟨o16, o24, o27, o28, o29, rfl, l⟩ := h; exact (hL.le l).ls) (fun i V' D' v hv h => ?_) fun V' D' h => ?_
  · refine hid fun gg hgg => ?_
    obtain ⟨o16, o24, o27, o28, o29, rfl, l⟩ := h
    refine hgg ?_
    clear hgg gg
    have l' := l0.trans l
    have : ∃ g, v = .ref g ∧ MI D g cols C figs wf := by
      match i with
      | 0 => simp at hv; exact ⟨g1, hv.symm, M1⟩
      | 1 => simp at hv; exact ⟨g2, hv.symm, M2⟩
      | 2 => simp at hv; exact ⟨g3, hv.symm, M3⟩
      | (k + 3) => simp at hv
    obtain ⟨g, rfl, M⟩ := this
    exact s15_turn (B.le l') (A.le l') (M.le l') fun o24 o27 o28 o29 D2 l2 => ⟨_, _, _, _, _, rfl, l.trans l2⟩
  · refine hid fun gg hgg => ?_
    obtain ⟨o16, o24, o27, o28, o29, rfl, l⟩ := h
    refine hgg ?_
    clear hgg gg
    exact s16 (B.le (l0.trans l)) hn

theorem s10 (B : Bs D st r n R C cols f nl bl) (hn : n ≤ 3000) (A : Asked D pl wl vs ws figs wf R C) : wpSs (GG b) 217 sq_law_10 [o0, some (.ref st), some (.int (R : Nat) tR), some (.int (C : Nat) tC), o4, some (.ref nl), some (.ref f), some (.ref bl), some (.ref pl), some (.ref wl), o10, o11, o12, o13, o14, o15, o16, o17, o18, o19, o20, o21, o22, o23, o24, o25, o26, o27, o28, o29] D Fin := by
  dsimp only [sq_law_10, sq_law_11, sq_law_12, sq_law_13, sq_law_14, wpSs, wpS, wpE, wpEs, wpT, wpOr, wpAnd, List.getD_cons_zero, List.getD_cons_succ, List.set_cons_zero, List.set_cons_succ]
  have R4 := B.R4
  have C3 := B.C3
  have lD := DM.del_le D st
  have vsl : vs.length ≤ big := by rw [A.pn.len]; exact Nat.le_trans A.ps.1 (by decide)
  have wsl : ws.length ≤ big := by rw [A.wn.len]; exact Nat.le_trans A.wl (by decide)
  have hwc : ∀ a ∈ wf, 1 ≤ a ∧ a ≤ cols.length := by rw [B.hc]; exact A.wr
  have hwr : InR (zero wf) cols.length := zero_inr hwc
  refine i_call (c_integer A.p vsl) fun v D1 l1 e => ?_
  refine hid fun gg hgg => ?_
  obtain ⟨x, xi, xt, rfl, _, v1, i1⟩ := e
  refine hgg ?_
  clear hgg gg
  refine i_call (c_integer (A.w.le l1) wsl) fun v D2 l2 e => ?_
  refine hid fun gg hgg => ?_
  obtain ⟨y, yi, yt, rfl, _, v2, i2⟩ := e
  refine hgg ?_
  clear hgg gg
  have F2 := B.f.le (lD.trans (l1.trans l2))
  refine i_call (f_rows F2 (v1.le l2) (i1.le l2) A.pn A.ps (by omega) A.pr) fun v D3 l3 e => ?_
  obtain ⟨ga, rfl, hga⟩ := e
  refine i_call (f_cols hga (v2.le l3) (i2.le l3) A.wn (by rw [List.length_map]; exact hwc) A.wd A.wl) fun v D4 l4 e => ?_
  obtain ⟨g1, rfl, hg1⟩ := e
  rw [pickC_map hwr] at hg1
  have l34 := l3.trans l4
  refine i_call (f_cols (F2.le l34) (v2.le l34) (i2.le l34) A.wn hwc A.wd A.wl) fun v D5 l5 e => ?_
  obtain ⟨gb, rfl, hgb⟩ := e
  have l25 := l34.trans l5
  refine i_call (f_rows hgb (v1.le (l2.trans l25)) (i1.le (l2.trans l25)) A.pn A.ps (by omega) A.pr) fun v D6 l6 e => ?_
  obtain ⟨g2, rfl, hg2⟩ := e
  have l26 := l25.trans l6
  refine i_call (f_both (F2.le l26) (v1.le (l2.trans l26)) (i1.le (l2.trans l26)) A.pn A.ps (by omega) A.pr (v2.le l26) (i2.le l26) A.wn hwc A.wd A.wl) fun v D7 l7 e => ?_
  obtain ⟨g3, rfl, hg3⟩ := e
  have l07 := (l1.trans l2).trans (l26.trans l7)
  exact s15 (B.le l07) hn (A.le l07) (hg1.le ((l5.trans l6).trans l7)) (hg2.le l7) hg3
end stages
end Mine

namespace Mine

section stages
variable {o0 o1 o2 o3 o4 o5 o6 o7 o8 o9 o10 o11 o12 o13 o14 o15 o16 o17 o18 o19 o20 o21 o22 o23 o24 o25 o26 o27 o28 o29 : Option Value}
variable {b : Bx} {D : DM} {st r f nl bl pl wl : Addr} {n R C : Nat} {cols : List ColD} {tR tC : Tok} {vs ws : List Value} {figs wf : List Nat}

theorem s8 (B : Bs D st r n R C cols f nl bl) (hn : n ≤ 2000) (hp : L (D.del st) pl vs) (pn : NatInts vs figs) (pr : ∀ a ∈ figs, 1 ≤ a ∧ a ≤ R) (ps : Small figs) : wpSs (GG b) 217 sq_law_8 [o0, some (.ref st), some (.int (R : Nat) tR), some (.int (C : Nat) tC), o4, some (.ref nl), some (.ref f), some (.ref bl), some (.ref pl), o9, o10, o11, o12, o13, o14, o15, o16, o17, o18, o19, o20, o21, o22, o23, o24, o25, o26, o27, o28, o29] D Fin := by
  dsimp only [sq_law_8, sq_law_9, wpSs, wpS, wpE, wpEs, wpT, wpOr, wpAnd, List.getD_cons_zero, List.getD_cons_succ, List.set_cons_zero, List.set_cons_succ]
  have C1 := B.C1
  have C3 := B.C3
  refine ⟨by simp, fun wl hwl t1 => ?_⟩
  have l1 := DM.le_put (c := .lst []) hwl
  have nwl := B.s.ne hwl
  have dwl : (D.del st) wl = none := by rw [DM.del_ne _ nwl.1]; exact hwl
  have w0 : (D.put wl (.lst [])) wl = some (.lst []) := DM.put_same ..
  have s1 := B.s.le l1
  have g0 : (D.del st).le ((D.put wl (.lst [])).del st) := DM.del_mono l1
  generalize D.put wl (.lst []) = D1 at *
  refine i_callM (c_law_take s1.st0 (by omega) (by omega)) fun v D2 e => ?_
  refine hid fun gg hgg => ?_
  obtain ⟨q1, s2, j, tj, rfl, j0, j1⟩ := e
  refine hgg ?_
  clear hgg gg
  have keep : ∀ {A B : DM} {ws : List Value}, (A.del st).le (B.del st) → A wl = some (.lst ws) → B wl = some (.lst ws) := fun {A B ws} l e => by
    have := l wl (.lst ws) (by rw [DM.del_ne _ nwl.1]; exact e)
    rwa [DM.del_ne _ nwl.1] at this
  have w2 := keep q1 w0
  intro t2
  refine i_range1 (by omega) (by omega) fun a ha => ?_
  have l2 := DM.le_put (c := .rng 0 (1 + j)) ha
  have hjt : (1 + j - 0).toNat ≤ 3 := by omega
  refine i_for1 (DM.put_same ..) (Nat.le_trans hjt (by decide))
    (fun i V' D' => ∃ o10 o25 ws wf, V' = [o0, some (.ref st), some (.int (R : Nat) tR), some (.int (C : Nat) tC), o4, some (.ref nl), some (.ref f), some (.ref bl), some (.ref pl), some (.ref wl), o10, o11, o12, o13, o14, o15, o16, o17, o18, o19, o20, o21, o22, o23, o24, o25, o26, o27, o28, o29] ∧ (D.del st).le (D'.del st) ∧ StAt D' st r (n + 1 + i) ∧ D' wl = some (.lst ws) ∧ NatInts ws wf ∧ wf.Nodup ∧ (∀ a ∈ wf, 1 ≤ a ∧ a ≤ C) ∧ wf.length ≤ i)
    ⟨o10, o25, [], [], rfl, (g0.trans q1).trans (DM.del_mono l2), s2.le l2, l2 _ _ w2, NatInts.nil, List.nodup_nil, fun a h => (by cases h), Nat.le_refl _⟩ (fun i V' D' t hi hI => ?_) fun V' D' hI => ?_
  · refine hid fun gg hgg => ?_
    obtain ⟨o10, o25, ws, wf, rfl, g1, g2, g3, g4, g5, g6, g7⟩ := hI
    refine hgg ?_
    clear hgg gg
    dsimp only [sl_law_3, wpSs, wpS, wpE, wpEs, wpT, wpOr, wpAnd, List.getD_cons_zero, List.getD_cons_succ, List.set_cons_zero, List.set_cons_succ]
    intro t3
    refine i_callM (c_law_take g2.st0 (by omega) (by omega)) fun v D4 e => ?_
    refine hid fun gg hgg => ?_
    obtain ⟨q3, s4, k, tk, rfl, k0, k1⟩ := e
    refine hgg ?_
    clear hgg gg
    obtain ⟨z, rfl⟩ : ∃ z : Nat, k = (z : Int) := ⟨k.toNat, by omega⟩
    intro t4
    have w4 := keep q3 g3
    have ez : (1 : Int) + (z : Int) = ((1 + z : Nat) : Int) := by omega
    rw [ez]
    refine i_notin_nats w4 g4 ?_
    by_cases hm : (1 + z) ∈ wf
    · rw [decide_eq_true hm]
      exact i_f ⟨_, _, ws, wf, rfl, g1.trans q3, s4.mono (by omega), w4, g4, g5, g6, by omega⟩
    · rw [decide_eq_false hm]
      refine i_t ⟨wl, ws, rfl, w4, ws, w4, by rw [g4.len]; exact Nat.le_trans (show wf.length ≤ 3 by omega) (by decide), ?_⟩
      refine ⟨_, _, _, wf ++ [1 + z], rfl, ?_, (s4.mono (by omega)).put nwl.1 nwl.2, DM.put_same .., g4.snoc, ?_, ?_, by simp; omega⟩
      · rw [DM.del_put_ne _ _ nwl.1]; exact DM.le_mut dwl (g1.trans q3)
      · rw [List.nodup_append]
        exact ⟨g5, by simp, fun x hx y hy e => hm (by simp at hy; rw [← hy, ← e]; exact hx)⟩
      · intro a ha
        rcases List.mem_append.mp ha with h | h
        · exact g6 a h
        · simp at h; omega
  · refine hid fun gg hgg => ?_
    obtain ⟨o10, o25, ws, wf, rfl, g1, g2, g3, g4, g5, g6, g7⟩ := hI
    refine hgg ?_
    clear hgg gg
    have B2 := B.step g1 g2
    exact s10 B2 (by omega) ⟨(hp.le g1).ofDel, pn, pr, ps, g3, g4, g6, g5, by omega⟩

theorem s7 (B : Bs D st r n R C cols f nl bl) (hn : n ≤ 1900) : wpSs (GG b) 217 sq_law_7 [o0, some (.ref st), some (.int (R : Nat) tR), some (.int (C : Nat) tC), o4, some (.ref nl), some (.ref f), some (.ref bl), o8, o9, o10, o11, o12, o13, o14, o15, o16, o17, o18, o19, o20, o21, o22, o23, o24, o25, o26, o27, o28, o29] D Fin := by
  dsimp only [sq_law_7, wpSs, wpS, wpE, wpEs, wpT, wpOr, wpAnd, List.getD_cons_zero, List.getD_cons_succ, List.set_cons_zero, List.set_cons_succ]
  have R1 := B.R1
  have R4 := B.R4
  intro t1 t2
  refine i_callM (c_law_take B.s.st0 (by omega) (by decide)) fun v D2 e => ?_
  refine hid fun gg hgg => ?_
  obtain ⟨q1, s2, j, tj, rfl, j0, j1⟩ := e
  refine hgg ?_
  clear hgg gg
  intro t3
  refine i_range1 (by omega) (by omega) fun a ha => ?_
  have l2 := DM.le_put (c := .rng 0 (1 + j)) ha
  have hjt : (1 + j - 0).toNat ≤ 5 := by omega
  refine i_comp1I (DM.put_same ..) (Nat.le_trans hjt (by decide)) (fun i out D' => (D.del st).le (D'.del st) ∧ StAt D' st r (n + 1 + i) ∧ ∃ figs, NatInts out figs ∧ (∀ a ∈ figs, 1 ≤ a ∧ a ≤ R) ∧ figs.length = i)
    ⟨q1.trans (DM.del_mono l2), s2.le l2, [], NatInts.nil, fun a h => (by cases h), rfl⟩ (fun i out D' t hi ho hI => ?_) fun out D' a2 hI ho ha2 => ?_
  · refine hid fun gg hgg => ?_
    obtain ⟨g1, g2, figs, g3, g4, g5⟩ := hI
    refine hgg ?_
    clear hgg gg
    dsimp only [sb_law_2, wpE, wpEs, List.getD_cons_zero, List.getD_cons_succ, List.set_cons_zero, List.set_cons_succ]
    intro t4
    refine i_callM (c_law_take g2.st0 (by omega) (by omega)) fun v D4 e => ?_
    refine hid fun gg hgg => ?_
    obtain ⟨q3, s4, k, tk, rfl, k0, k1⟩ := e
    refine hgg ?_
    clear hgg gg
    obtain ⟨z, rfl⟩ : ∃ z : Nat, k = (z : Int) := ⟨k.toNat, by omega⟩
    intro t5
    have ez : (1 : Int) + (z : Int) = ((1 + z : Nat) : Int) := by omega
    rw [ez]
    refine ⟨g1.trans q3, s4.mono (by omega), figs ++ [1 + z], g3.snoc, fun a ha => ?_, by simp [g5]⟩
    rcases List.mem_append.mp ha with h | h
    · exact g4 a h
    · simp at h; omega
  · refine hid fun gg hgg => ?_
    obtain ⟨g1, g2, figs, g3, g4, g5⟩ := hI
    refine hgg ?_
    clear hgg gg
    have l3 := DM.le_put (c := .lst out) ha2
    have s3 := g2.le l3
    have B2 := B.step (g1.trans (DM.del_mono l3)) s3
    exact s8 B2 (by omega) (L.delF (DM.put_same ..) s3.flat) g3 g4 ⟨by omega, fun a ha => by have := g4 a ha; omega⟩

theorem abc_nodup (C : Nat) : (abc C).Nodup := by
  unfold abc
  exact List.Nodup.sublist (List.take_sublist _ _) (by decide)
theorem abc_len {C : Nat} (h : C ≤ 3) : (abc C).length = C := by simp [abc]; omega
theorem abc_small (C : Nat) : ∀ s ∈ abc C, s.length ≤ 100 := fun s hs => by
  have := List.mem_of_mem_take hs
  simp only [List.mem_cons, List.not_mem_nil, or_false] at this
  rcases this with rfl | rfl | rfl <;> decide

theorem s4 {cl : Addr} {cs : List Value} (s : StAt D st r n) (R1 : 1 ≤ R) (R4 : R ≤ 4) (C1 : 1 ≤ C) (C3 : C ≤ 3) (hc : cols.length = C) (hv : ∀ c ∈ cols, c.vs.length = R) (hl : L (D.del st) cl cs) (hcs : ColsAt (D.del st) cs cols) (hn : n ≤ 1800) :
    wpSs (GG b) 217 sq_law_4 [o0, some (.ref st), some (.int (R : Nat) tR), some (.int (C : Nat) tC), some (.ref cl), o5, o6, o7, o8, o9, o10, o11, o12, o13, o14, o15, o16, o17, o18, o19, o20, o21, o22, o23, o24, o25, o26, o27, o28, o29] D Fin := by
  dsimp only [sq_law_4, sq_law_5, sq_law_6, wpSs, wpS, wpE, wpEs, wpT, wpOr, wpAnd, List.getD_cons_zero, List.getD_cons_succ, List.set_cons_zero, List.set_cons_succ]
  have lD := DM.del_le D st
  intro ta tb tc
  refine ⟨by simp, fun a1 ha1 => ⟨a1, _, _, _, rfl, ⟨_, DM.put_same .., rfl⟩, by simp [big], rfl, by omega, fun nl hnl => ?_⟩⟩
  have l1 := DM.le_put (c := .lst [.str (Str.ofString "a") ta, .str (Str.ofString "b") tb, .str (Str.ofString "c") tc]) ha1
  have l2 := DM.le_put (c := .lst (List.take (C : Int).toNat [.str (Str.ofString "a") ta, .str (Str.ofString "b") tb, .str (Str.ofString "c") tc])) hnl
  have hL : L (DM.put _ nl (.lst (List.take (C : Int).toNat [.str (Str.ofString "a") ta, .str (Str.ofString "b") tb, .str (Str.ofString "c") tc]))) nl _ := DM.put_same (D.put a1 (.lst [.str (Str.ofString "a") ta, .str (Str.ofString "b") tb, .str (Str.ofString "c") tc])) nl _
  have hS : Strs (List.take (C : Int).toNat [.str (Str.ofString "a") ta, .str (Str.ofString "b") tb, .str (Str.ofString "c") tc]) (abc C) := by
    rw [Int.toNat_natCast]
    have full : Strs [.str (Str.ofString "a") ta, .str (Str.ofString "b") tb, .str (Str.ofString "c") tc] [Str.ofString "a", Str.ofString "b", Str.ofString "c"] := ((Strs.nil.snoc (t := ta)).snoc (t := tb)).snoc (t := tc)
    refine Strs.mk' (by simp [abc]) fun i v h => ?_
    rw [List.getElem?_take] at h
    split at h
    · rename_i hi
      refine hid fun gg hgg => ?_
      obtain ⟨s, t, e1, e2⟩ := full.of h
      refine hgg ?_
      clear hgg gg
      exact ⟨s, t, by unfold abc; rw [List.getElem?_take, if_pos hi]; exact e1, e2⟩
    · cases h
  have l12 := l1.trans l2
  generalize List.take (C : Int).toNat [Value.str (Str.ofString "a") ta, .str (Str.ofString "b") tb, .str (Str.ofString "c") tc] = nms at *
  generalize DM.put _ nl (.lst nms) = D2 at *
  have lD2 := lD.trans l12
  have csl : cs.length = C := by rw [hcs.1, hc]
  refine i_call (c_make_frame (hl.le lD2) (hcs.le lD2) hL (by omega) (by rw [hS.1, abc_len C3]; omega) (by omega) (by omega : R ≤ 900) hv) fun v D3 l3 e => ?_
  refine hid fun gg hgg => ?_
  obtain ⟨f, cs', ls, rfl, h1, h2, h3⟩ := e
  refine hgg ?_
  clear hgg gg
  have lD3 := lD2.trans l3
  refine told_comp rfl (hl.le lD3) (hcs.le lD3) (by omega) (fun v => rfl) fun bl bs D' hb l4 g1 g2 => ?_
  generalize D'.put bl (.lst bs) = D4 at *
  have s4 : StAt D4 st r n := s.le ((l12.trans l3).trans l4)
  refine s7 (⟨s4, R1, R4, C1, C3, hc, hv, FI.delF ⟨cs', nms, kI, ls, h1.le l4, h2.le l4, hS, .inl ⟨rfl, upto 1 R, h3, fun i hi => by have := upto_mem hi; omega, rfl⟩, by omega, by rw [abc_len C3, hc], by rw [rowL_len]; omega, fun c hc => by rw [rowL_len]; exact hv c hc, abc_nodup C, abc_small C⟩ s4.flat, ⟨nms, (hL.le (l3.trans l4)).delF s4.flat, hS⟩, ⟨bs, g1.delF s4.flat, ?_⟩⟩ : Bs D4 st r n R C cols f nl bl) (by omega)
  refine ⟨g2.1, fun i c e => ?_⟩
  refine hid fun gg hgg => ?_
  obtain ⟨a, e1, t, il, lev, q1, q2, q3⟩ := g2.2 i c e
  refine hgg ?_
  clear hgg gg
  refine ⟨a, e1, t, il, lev, q1.delF s4.flat, q2.delF s4.flat, ?_⟩
  cases hf : c.fa with
  | none => rw [hf] at q3; exact q3
  | some q => rw [hf] at q3; obtain ⟨p, e2, q4⟩ := q3; exact ⟨p, e2, q4.delF s4.flat⟩

theorem s1 {row : List Value} {is : List Int} {t : Tok} (h : D st = some (.lst [.ref r, .int 0 t])) (hr : L D r row) (hne : r ≠ st) (hi : Ints row is) (hl : row.length ≤ 40) :
    wpSs (GG b) 217 sq_law_1 [o0, some (.ref st), o2, o3, o4, o5, o6, o7, o8, o9, o10, o11, o12, o13, o14, o15, o16, o17, o18, o19, o20, o21, o22, o23, o24, o25, o26, o27, o28, o29] D Fin := by
  dsimp only [sq_law_1, sq_law_2, sq_law_3, wpSs, wpS, wpE, wpEs, wpT, wpOr, wpAnd, List.getD_cons_zero, List.getD_cons_succ, List.set_cons_zero, List.set_cons_succ]
  intro t1 t2
  have s0 : StA0 D st r 0 := ⟨row, is, 0, t, .inl h, hr, hne, hi, hl, Int.le_refl _, Int.le_refl _⟩
  refine i_callM (c_law_take s0 (by decide) (by decide)) fun v D1 e => ?_
  refine hid fun gg hgg => ?_
  obtain ⟨_, s1, j, tj, rfl, j0, j1⟩ := e
  refine hgg ?_
  clear hgg gg
  intro tR t3 t4
  refine i_callM (c_law_take s1.st0 (by decide) (by decide)) fun v D2 e => ?_
  refine hid fun gg hgg => ?_
  obtain ⟨_, s2, k, tk, rfl, k0, k1⟩ := e
  refine hgg ?_
  clear hgg gg
  intro tC
  obtain ⟨R, eR⟩ : ∃ R : Nat, 1 + j = (R : Int) := ⟨(1 + j).toNat, by omega⟩
  obtain ⟨C, eC⟩ : ∃ C : Nat, 1 + k = (C : Int) := ⟨(1 + k).toNat, by omega⟩
  rw [eR, eC]
  have R1 : 1 ≤ R := by omega
  have R4 : R ≤ 4 := by omega
  have C1 : 1 ≤ C := by omega
  have C3 : C ≤ 3 := by omega
  refine i_range1 (by omega) (by omega) fun a ha => ?_
  have l2 := DM.le_put (c := .rng 0 (C : Int)) ha
  have hct : ((C : Int) - 0).toNat = C := by omega
  refine i_comp1I (DM.put_same ..) (by rw [hct]; exact Nat.le_trans C3 (by decide)) (fun i out D' => StAt D' st r (2 + 10 * i) ∧ ∃ cols, ColsAt (D'.del st) out cols ∧ cols.length = i ∧ ∀ c ∈ cols, c.vs.length = R)
    ⟨s2.le l2, [], ⟨rfl, fun i c h => by simp at h⟩, rfl, fun c h => by cases h⟩ (fun i out D' t hi ho hI => ?_) fun out D' a2 hI ho ha2 => ?_
  · refine hid fun gg hgg => ?_
    obtain ⟨g1, cols, g2, g3, g4⟩ := hI
    refine hgg ?_
    clear hgg gg
    rw [hct] at hi
    dsimp only [sb_law_0, wpE, wpEs, List.getD_cons_zero, List.getD_cons_succ, List.set_cons_zero, List.set_cons_succ]
    refine i_callM (c_law_column g1 (by omega) (by omega)) fun v D4 e => ?_
    refine hid fun gg hgg => ?_
    obtain ⟨q1, s4, y, c, rfl, q2, q3⟩ := e
    refine hgg ?_
    clear hgg gg
    refine ⟨s4.mono (by omega), cols ++ [c], (g2.le q1).snoc q2, by simp [g3], fun c' hc' => ?_⟩
    rcases List.mem_append.mp hc' with h | h
    · exact g4 c' h
    · simp at h; rw [h]; exact q3
  · refine hid fun gg hgg => ?_
    obtain ⟨g1, cols, g2, g3, g4⟩ := hI
    refine hgg ?_
    clear hgg gg
    rw [hct] at g1 g3
    have l3 := DM.le_put (c := .lst out) ha2
    have s3 := g1.le l3
    exact s4 s3 R1 R4 C1 C3 g3 g4 (L.delF (DM.put_same ..) s3.flat) (g2.le (DM.del_mono l3)) (by omega)

/-- the law's body, from the script to True -/
theorem law_wp {sc : Addr} {vs : List Value} {is : List Int} (h : D sc = some (.rls vs)) (hi : Ints vs is) (hb : vs.length ≤ 1000) :
    wpSs (GG b) 217 sm_law [some (.ref sc), none, none, none, none, none, none, none, none, none, none, none, none, none, none, none, none, none, none, none, none, none, none, none, none, none, none, none, none, none] D Fin := by
  dsimp only [sm_law, sq_law_0, wpSs, wpS, wpE, wpEs, wpT, wpOr, wpAnd, List.getD_cons_zero, List.getD_cons_succ, List.set_cons_zero, List.set_cons_succ]
  intro t0
  refine ⟨sc, vs, 40, t0, rfl, ⟨_, h, rfl⟩, Nat.le_trans hb (by decide), rfl, by decide, fun r hr t1 => ⟨by simp, fun st hst => ?_⟩⟩
  have hr1 := DM.put_same D r (.lst (vs.take (40 : Int).toNat))
  have hne : r ≠ st := DM.ne_of hst hr1
  have hI : Ints (vs.take (40 : Int).toNat) (is.take 40) := by
    refine ⟨by simp [hi.1], fun i s hs => ?_⟩
    rw [List.getElem?_take] at hs
    split at hs
    · rename_i hlt
      obtain ⟨t, e⟩ := hi.2 i s hs
      exact ⟨t, by rw [List.getElem?_take, if_pos (show i < (40 : Int).toNat from hlt)]; exact e⟩
    · cases hs
  exact s1 (b := b) (DM.put_same ..) ((DM.le_put hst) _ _ hr1) hne hI (by simp; omega)
end stages
end Mine

namespace Mine

/-- a call from outside -/
theorem enterTop {G : Gl} {n : Nat} {f : Addr} {ck : Ck} {body : List Stmt} {fd : FuncData} {vs args : List Value} {D : DM} {A : Around} {s : Shared} {R : Result → Shared → Prop} {k : Value → Prop} (X : Facts G ck.tbl ck.hv) (F : FnOk G ck f body fd) {sm : Ss} (hchk : chkSs ck sm body = true)
    (hpar : ck.pars vs.length = true) (hb : ∀ s : Shared, G.K.In s.heap → BindsTo s fd ⟨args, []⟩ ((ck.σ.take vs.length).zip vs))
    (hg : G.Ok) (hA : A.frames = some []) (hdep : A.depth + 1 + 2 * (n + off ck.hv) + 200 < recursionLimit) (hun : A.units + 3 + 16 * (n + off ck.hv) + 16 < cLine) (hhd : A.handled = none)
    (hh : s.heap = G.h₀) (hD : ∀ b o, D b = some o → o.rw = false ∧ (G.h₀.get? b).isSome = true ∧ CelAt G s.heap b o)
    (h : wpSs G n sm (V₀ ck vs) D fun fl _ _ => k (flowV fl))
    (hR : ∀ v L h' tk' m, Fr s.heap L h' m → k v → R (.ok (.ret v)) { s with heap := h', toks := tk' }) : codeAny (model G.prog G.w) A (.call (.ref f) ⟨args, []⟩) R s := by
  obtain ⟨o, ho, hd⟩ := F.at_
  have KI : G.K.In s.heap := by rw [hh]; exact hg.K
  refine codeAny_call_function (by omega) (KI _ _ ho) hd F.co F.gen F.body (codeRec_of KI F.code) (hb s KI _ _ _ _ ?_)
  unfold Ck.pars at hpar
  simp only [Bool.and_eq_true, decide_eq_true_eq, List.all_eq_true, Bool.or_eq_true, beq_iff_eq] at hpar
  obtain ⟨⟨p1, p2⟩, p3⟩ := hpar
  have hzip : ((ck.σ.take vs.length).zip vs).map (·.1) = ck.σ.take vs.length := List.map_fst_zip (by simp; omega)
  have hcs : ∀ id k, fd.scope.names.lookup id = some .cell → ((cellsFrom k fd.scope.names []).lookup id).isSome = true := fun id k e => cellsFrom_some _ _ _ (.inl e)
  rw [F.clo, F.glob]
  refine wpAny_newFunctionEnv_cells F.kind (fun x hx => ?_) fun env' he s' x => ?_
  · have hm : x.1 ∈ ck.σ.take vs.length := by rw [← hzip]; exact List.mem_map_of_mem hx
    rw [F.names]
    rcases p3 _ hm with q | q
    · exact .inl q
    · exact .inr ⟨q, F.names ▸ hcs x.1 _ (by rw [F.names]; exact q)⟩
  · subst he
    refine ⟨(by rw [hh]; exact hg.T.nolimit : s.heap.NoLimit).keeps x.toInCall.keep, codeAny_func ?_⟩
    refine hid fun gg hgg => ?_
    obtain ⟨h₁, tk, rfl, _⟩ := x.done
    refine hgg ?_
    clear hgg gg
    have hk₁ := x.toInCall.keep
    generalize hL : s.heap.objs.size = L at *
    generalize hE : newEnv fd.scope L mainGlobals (cellsFrom (L + 1) fd.scope.names []) (fd.qualname ++ ".<locals>.") (some f) fd.code none fd.builtins = env' at *
    have eL : env'.locals = L := by rw [← hE]; rfl
    have ecells : env'.cells = cellsFrom (L + 1) fd.scope.names [] := by rw [← hE]; rfl
    have escope : env'.scope = fd.scope := by rw [← hE]; rfl
    have eglob : env'.globals = mainGlobals := by rw [← hE]; rfl
    have ebi : env'.builtins = builtinsNs := by rw [← hE]; exact F.bi
    have ekind : ∀ id, env'.kindOf id = ck.names.lookup id := fun id => by
      show env'.scope.names.lookup id = _
      rw [escope, F.names]
    have hnd : ((cellsFrom (L + 1) fd.scope.names []).map (·.1)).Nodup := by rw [cellsFrom_names fd.scope.names (L + 1) 0 [] [] rfl]; exact F.cells
    have fresh : ∀ a, L ≤ a → G.h₀.get? a = none := fun a ha => by
      cases q : G.h₀.get? a with
      | none => rfl
      | some o' => rw [← hh] at q; have := Heap.lt_size q; rw [hL] at this; exact absurd ha (Nat.not_le.mpr this)
    let c : Cx := { A := A.deeper env', env := env', own := true, prot := fun _ => none }
    have Rc : Rp G c ck.σ (V₀ ck vs) D h₁ := by
      refine ⟨⟨_, ⟨x.toInCall.ns, fun b ob e => hk₁ b ob (by rw [hh]; exact e), ?_⟩, fun i id v h1 h2 => ?_⟩, fun y hy => ?_, fun b ob e => ?_, fun b ob e => (by cases e)⟩
      · show G.h₀.objs.size ≤ env'.locals
        rw [eL, ← hL, hh]
        exact Nat.le_refl _
      · have hi : i < vs.length ∧ vs[i]? = some v := by
          unfold V₀ at h2
          rw [List.getElem?_append] at h2
          split at h2
          · rename_i hlt
            rw [List.getElem?_map] at h2
            obtain ⟨u, hu, e⟩ := Option.map_eq_some_iff.mp h2
            cases e
            exact ⟨by simpa using hlt, hu⟩
          · rw [List.getElem?_replicate] at h2
            split at h2 <;> cases h2
        have hmem : (id, v) ∈ (ck.σ.take vs.length).zip vs := by
          refine List.mem_of_getElem? (i := i) ?_
          rw [List.getElem?_zip_eq_some]
          exact ⟨by rw [List.getElem?_take, if_pos hi.1]; exact h1, hi.2⟩
        show Holds env' _ _ _ _
        unfold Holds
        rcases p3 id (by rw [← hzip]; exact List.mem_map_of_mem (f := (·.1)) hmem) with q | q
        · rw [ekind, q]
          exact bindL_hit (by rw [ekind, q]) _ _ (by rw [hzip]; exact p1) hmem
        · rw [ekind, q]
          obtain ⟨ca, hca⟩ := Option.isSome_iff_exists.mp (hcs id (L + 1) (by rw [F.names]; exact q))
          refine ⟨ca, by rw [ecells]; exact hca, ?_⟩
          have := x.cell id ca (by rw [ecells]; exact hca)
          rwa [bindC_hit (by rw [ekind, q]) _ _ (by rw [hzip]; exact p1) hmem] at this
      · have hy' : y ∈ cellsFrom (L + 1) fd.scope.names [] := by rw [← ecells]; exact hy
        have hl := lookup_of_mem_nodup (n := y.1) (c := y.2) hnd hy'
        have hab := x.above y.1 y.2 (by rw [ecells]; exact hy')
        rw [eL] at hab
        refine ⟨⟨_, x.cell y.1 y.2 (by rw [ecells]; exact hl)⟩, fun e => ?_, fun _ => ⟨fresh y.2 (Nat.le_of_lt hab), rfl⟩⟩
        have e' : y.2 = L := e.trans eL
        rw [e'] at hab
        exact Nat.lt_irrefl _ hab
      · obtain ⟨g1, g2, g3⟩ := hD b ob e
        have hlt : b < L := by
          obtain ⟨o', ho'⟩ := Option.isSome_iff_exists.mp g2
          rw [← hh] at ho'
          rw [← hL]; exact Heap.lt_size ho'
        refine ⟨fun q => ?_, fun y hy q => ?_, fun q => (by rw [g1] at q; cases q), fun _ => g2, g3.at fun o' => hk₁ b o'⟩
        · have q' : b = L := q.trans eL
          exact Nat.lt_irrefl _ (q' ▸ hlt)
        · have hab := x.above y.1 y.2 hy
          rw [eL, ← q] at hab
          exact Nat.lt_irrefl _ (Nat.lt_trans hab hlt)
    have ok : c.Ok G (n + off ck.hv) := {
      g := hg
      globals := eglob
      builtins := ebi
      kind := (congrArg Scope.kind escope).trans F.kind
      depth := by show A.depth + 1 + 2 * (n + off ck.hv) + 200 < recursionLimit; exact hdep
      frames := by
        refine ⟨env', [], ?_, ?_, ?_, ebi, eglob⟩
        · show A.frames.map (env' :: ·) = _
          rw [hA]; rfl
        · rw [escope]; exact F.gen
        · rw [escope]; exact F.co
      units := by show A.units + 3 + 16 * (n + off ck.hv) + 16 < cLine; exact hun
      handled := hhd
      cells := fun _ => by
        show (env'.cells.map (·.2)).Nodup
        rw [ecells]
        have := x.apart
        rw [ecells] at this
        unfold List.Nodup
        rw [List.pairwise_map]
        exact this }
    have gd : Good G n ck c := ⟨X, ok, (congrArg Scope.names escope).trans F.names, F.own, fun id e => by
      show (env'.cells.lookup id).isSome = true
      rw [ecells]
      exact hcs id _ (by rw [F.names]; exact e), F.C⟩
    refine soundSs sm gd _ _ _ body hchk h _ _ _ Rc fun fl V' D' h' tk' R' hk => ?_
    obtain ⟨m, FF⟩ := R'.fr
    have FF' : Fr s.heap c.env.locals h' m := by rw [hh]; exact FF
    exact hR _ _ h' tk' m FF' hk

theorem enterTopG {b : Bx} {n : Nat} {hv : Bool} {a : Addr} {sg : List Str} {sm : Ss} {vs args : List Value} {V : Vs} {D : DM} {A : Around} {s : Shared} {R : Result → Shared → Prop} {k : Value → Prop} (hc : ∀ P, fnChk (KK P) hv a sg sm vs.length = true) (X : Facts (GG b) tbl hv)
    (hb : ∀ P S, peek (KK P) S (bindArgs (fdAt (KK P) a) ⟨args, []⟩) = some ((sg.take vs.length).zip vs))
    (hg : (GG b).Ok) (hA : A.frames = some []) (hdep : A.depth + 1 + 2 * (n + off hv) + 200 < recursionLimit) (hun : A.units + 3 + 16 * (n + off hv) + 16 < cLine) (hhd : A.handled = none)
    (hh : s.heap = b.h₀) (hD : ∀ z o, D z = some o → o.rw = false ∧ (b.h₀.get? z).isSome = true ∧ CelAt (GG b) s.heap z o)
    (h : wpSs (GG b) n sm V D fun fl _ _ => k (flowV fl)) (hR : ∀ v L h' tk' m, Fr s.heap L h' m → k v → R (.ok (.ret v)) { s with heap := h', toks := tk' })
    (hV : V = vs.map some ++ List.replicate (sg.length - vs.length) none := by rfl) : codeAny (model b.prog b.w) A (.call (.ref a) ⟨args, []⟩) R s := by
  subst hV
  obtain ⟨h1, h2, h3⟩ := fnOk_of (b := b) (hc b.w.params)
  exact enterTop (G := GG b) (ck := ckAt (KK b.w.params) hv a sg) X h1 h3 h2 (fun s hK => kp_binds hK (hb b.w.params)) hg hA hdep hun hhd hh hD h hR
theorem law_D {b : Bx} {sc : Addr} {vs : List Value} {s : Shared} (hh : s.heap = b.h₀) (hl : s.heap.IsList sc vs.toArray) : ∀ a o, (fun a => if a = sc then some (Cel.rls vs) else none) a = some o → o.rw = false ∧ ((GG b).h₀.get? a).isSome = true ∧ CelAt (GG b) s.heap a o := fun a o e => by
  have e' : (if a = sc then some (Cel.rls vs) else none) = some o := e
  split at e'
  · rename_i q
    subst q
    cases e'
    obtain ⟨o, ho, _⟩ := id hl
    refine ⟨rfl, ?_, hl⟩
    show (b.h₀.get? a).isSome = true
    rw [← hh, ho]; rfl
  · cases e'
theorem law_c1 : callerA.depth + 1 + 2 * (217 + off true) + 200 < recursionLimit := by decide +kernel
theorem law_c2 : callerA.units + 3 + 16 * (217 + off true) + 16 < cLine := by decide +kernel

theorem law_call {b : Bx} {sc : Addr} {vs : List Value} {is : List Int} {s : Shared} {R : Result → Shared → Prop} (hg : (GG b).Ok) (hh : s.heap = b.h₀) (hl : s.heap.IsList sc vs.toArray) (hi : Ints vs is) (hb : vs.length ≤ 1000)
    (hR : ∀ L h' tk' m, Fr s.heap L h' m → R (.ok (.ret (.bool true))) { s with heap := h', toks := tk' }) : codeAny (model b.prog b.w) callerA (.call (.ref 547) ⟨[.ref sc], []⟩) R s :=
  enterTopG (n := 217) (vs := [_]) (V := [some (.ref sc), none, none, none, none, none, none, none, none, none, none, none, none, none, none, none, none, none, none, none, none, none, none, none, none, none, none, none, none, none]) (k := fun v => v = .bool true) ck_law factsT bd_law hg rfl law_c1 law_c2 rfl hh (law_D hh hl) (law_wp (if_pos rfl) hi hb) fun v L h' tk' m F e => by subst e; exact hR L h' tk' m F
end Mine

namespace Mine
theorem intsAre_ints {vs : List Value} {is : List Int} (h : IntsAre vs is) : Ints vs is := by
  induction h with
  | nil => exact Ints.nil
  | cons n t h ih =>
    refine ⟨by simp [ih.1], fun i s hs => ?_⟩
    cases i with
    | zero => simp at hs; subst hs; exact ⟨t, rfl⟩
    | succ i => simp at hs; obtain ⟨t', e⟩ := ih.2 i s hs; exact ⟨t', by simpa using e⟩

theorem law_at : ∀ P, nsIn (KK P) mainGlobals (Str.ofString "law") = some (some (.ref 547)) := by intro P; kernel_rfl
theorem view_imports : importsNone Hd.Vw = true := by kernel_rfl
theorem row_tree : PySem.Challenge.rw_ov0078_01.row.prog.given.tree = none := by kernel_rfl

theorem row_post (args : List WData) : PySem.Challenge.rw_ov0078_01.row.claim.post args (WData.bool true) args = true := by kernel_rfl

theorem law_holds {w : World} {s₁ : Shared} {loose : List Str} {mean : ExcName → Option Value} {cl : Str → Option Addr} {mg mb : Str → Option Value} {fa sc : Addr} {vs : List Value} {is : List Int} {args : List WData}
    (KX : (KK w.params).In s₁.heap) (T : Top Hd.Vw loose mean mg mb s₁.heap) (hmg : mg (Str.ofString "law") = some (.ref fa)) (hg : s₁.gens = #[]) (hl : s₁.heap.IsList sc vs.toArray) (hi : IntsAre vs is) (hlen : is.length ≤ 63) :
    codeAny (model PySem.Challenge.rw_ov0078_01.row.prog w) callerA (.call (.ref fa) ⟨[.ref sc], []⟩) (GoodWG PySem.Challenge.rw_ov0078_01.row.claim cl mean args s₁) s₁ := by
  have e : mg (Str.ofString "law") = some (.ref 547) := mg_of KX T.g (law_at _)
  rw [hmg] at e
  have e' : fa = 547 := by injection e with e; injection e
  subst e'
  have hI := intsAre_ints hi
  have ok : (GG ⟨PySem.Challenge.rw_ov0078_01.row.prog, w, s₁.heap, Hd.Vw, loose, mg, mb⟩).Ok := ⟨KX, topRead_of T, T.seer view_imports, row_tree⟩
  refine law_call (b := ⟨PySem.Challenge.rw_ov0078_01.row.prog, w, s₁.heap, Hd.Vw, loose, mg, mb⟩) ok rfl hl hI (by rw [hI.1]; omega) fun L h' tk' m F => ?_
  exact GoodW.toG (goodW_bool F hg (fun cls => rfl) (row_post args))
end Mine
namespace Mine
noncomputable abbrev lw : OpenLaw := PySem.Challenge.rw_ov0078_01
theorem lk1 : sreFenced lw.row.prog.main = true := by rw [PySem.W.Fast.te11788848310118352699]; kernel_rfl
theorem lk2 : ((moduleNames lw.row.prog.main.body).isEmpty || lookedIntoSs (moduleNames lw.row.prog.main.body) lw.row.prog.main.body) = true := by rw [PySem.W.Fast.te9807087744658564304, PySem.W.Fast.te12862048085361865435]; kernel_rfl
theorem lk3 : namesResolve lw.row.prog = true := by rw [PySem.W.Fast.te8377067652309620493]; kernel_rfl
theorem lk4 : lw.row.prog.boundNames.all (fun n => !worldNames.contains n) = true := by rw [PySem.W.Fast.te18344453789297297638, PySem.W.Fast.te14412699480532031325, PySem.W.Fast.te3471404346716756564]; kernel_rfl
theorem lk5 : ((["vars", "dir", "locals"] : List Str).filter (readsOut lw.row.prog lw.row.prog.main.body)) = [] := by rw [PySem.W.Fast.te13343964577679436407]; kernel_rfl
theorem lk6 : noRoadLSs { strict := !(importedModules lw.row.prog.main.body).all cThrough.contains, foot := none, bare := [] } lw.row.prog.main.body = true := by rw [PySem.W.Fast.te8326940854005059898]; kernel_rfl
theorem lk6' : noRoadLSs { strict := !(importedModules lw.row.prog.main.body).all cThrough.contains, foot := none, bare := (["vars", "dir", "locals"] : List Str).filter (readsOut lw.row.prog lw.row.prog.main.body) } lw.row.prog.main.body = true := by rw [lk5]; exact lk6
theorem lk7 : (namesMeet lw.row.prog lw.row.prog.main.body fun _ n => attrL n) = true := by rw [PySem.W.Fast.te17119622794617984870, PySem.W.Fast.te17868728402115742887]; kernel_rfl
theorem looks : looksOpen lw.row.prog = true := look_both (look_both (look_both (look_both (look_both lk1 lk2) lk3) lk4) lk6') lk7
theorem row_ok : lw.row.wellSaid = true := by
  have h : lw.row.partSaid = true := by unfold OpenRow.partSaid; rw [looks]; kernel_rfl
  unfold OpenRow.wellSaid; rw [h]; kernel_rfl
theorem lw1 : noClassBlock lw.prog lw.footing = true := by rw [PySem.W.Fast.te8179353310426384613]; kernel_rfl
theorem lw2 : noRoadLSs { strict := true, foot := some lw.bound', writes := lw.writes, may := lw.may } lw.footing = true := by rw [PySem.W.Fast.te8326940854005059898]; kernel_rfl
theorem lw3 : defStands lw.about lw.above = true := by rw [PySem.W.Fast.te9558739934217749035]; kernel_rfl
theorem lw4 : lw.namesIt = true := by rw [PySem.W.Fast.te16286561074155671207]; kernel_rfl
theorem lw5 : namesMeet lw.prog lw.above (fun _ n => !lw.own.contains n) = true := by rw [PySem.W.Fast.te17119622794617984870, PySem.W.Fast.te10792542408131684335]; kernel_rfl
theorem lw6 : (namesMeet lw.prog lw.footing fun sc n => sc.kind == .module || sc.names.lookup n != some .globalExplicit) = true := by rw [PySem.W.Fast.te17119622794617984870]; kernel_rfl
theorem lw7 : namesMeet lw.prog lw.footing (fun sc n => (!(["type", "isinstance", "issubclass", "getattr", "hasattr"] : List Str).contains n || sc.names.lookup n == some .globalImplicit) &&
    (lw.may != some n || sc.kind == .module || sc.names.lookup n == some .globalImplicit)) = true := by rw [PySem.W.Fast.te17119622794617984870, PySem.W.Fast.te3471404346716756564, PySem.W.Fast.te9572597257264208301]; kernel_rfl
theorem law_ok : lw.wellSaid = true := by
  unfold OpenLaw.wellSaid; rw [row_ok, lw1, lw2, lw3, lw4, lw5, lw6, lw7]; kernel_rfl
end Mine
open Mine.Hd in
theorem Mine.head_of {d : DefRec} {kwd : List (Str × PySem.Expr)} (hd : defOf Vw PySem.Challenge.rw_ov0078_01.row.name = some (d, kwd)) (hp : PySem.Challenge.rw_ov0078_01.row.prog.theDef PySem.Challenge.rw_ov0078_01.row.name = some (d.params, d.body, d.scope))
    (hk : kwWritten? d.params.kwonlyargs d.params.kw_defaults = some kwd) (k1 : PySem.Challenge.rw_ov0078_01.row.wellSaid = true)
    (call : WalkO Vw ls (XL Vw []) HK.says PySem.Challenge.rw_ov0078_01.row.toRowW d kwd fun f vs => PySem.call f vs) : PySem.Challenge.rw_ov0078_01.row.Holds :=
  holds_open (Xt := XtV) (Yf := HK.obs) (Ya := HK.val) (N := 6270) left (Hook.of HK) (Hook.keeps HK) (fun s e => xl_of s (Bool.and_eq_true_iff.mp e).1) XL.keeps hd hp hk (fun s e => recFacts_of (Bool.and_eq_true_iff.mp e).2) rfl k1 (by decide +kernel) ⟨rfl, rfl, rfl, rfl, rfl, by decide +kernel⟩ (by w_witness2) call
set_option maxRecDepth 100000 in
set_option maxHeartbeats 8000000 in
theorem PySem.Challenge.cw_ov0078_01_holds : PySem.Challenge.rw_ov0078_01.Holds := by
  refine holds_law Mine.law_ok fun _ => ?_
  refine Mine.head_of (by rfl) (by rfl) (by rfl) Mine.row_ok ?_
  intro w s₀ s₁ mg mb G Y fa o pm cd doc dV kV ho hd hcd hD hmg hg args vals as hpre hlay hrd hwl hlo
  have KX := kIn_of Y
  refine Ground.open G ?_
  intro T B D TE TW
  clear hd ho hcd hD
  wrow_args hpre hlay hrd hwl hlo
  all_goals (first | refine callC_kw (enter_call ?_) | refine enter_call ?_ | refine callC_kw (enter_callW ?_) | refine enter_callW ?_ | w_how)
  refine Mine.law_holds KX T hmg hg (by assumption) (by assumption) (by omega)
