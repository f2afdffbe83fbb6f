import PyProof.Rows.All
import Wide.All
import OpenK.AllK
import Wide.FinOn
import Lean
import PySem.Challenge.RW_nn0260_01
set_option Elab.async false

section
open PySem PySem.W PyProof.Rows
namespace NN
set_option maxRecDepth 100000
noncomputable abbrev Pr : Program := PySem.Challenge.rw_nn0260_01.row.prog
/-- the i-th statement of the text -/
noncomputable def stD (i : Nat) : Stmt := PySem.Challenge.pw_nn0260_01.main.body.getD i (.Pass ⟨0, 0, 0, 0⟩)
noncomputable def dName : Stmt → Str
  | .FunctionDef n .. => n
  | _ => ⟨#[]⟩
noncomputable def dArgs : Stmt → Arguments
  | .FunctionDef _ a .. => a
  | _ => default
noncomputable def dBody : Stmt → List Stmt
  | .FunctionDef _ _ b .. => b
  | _ => []
noncomputable def dScope : Stmt → Scope
  | .FunctionDef _ _ _ _ _ _ s .. => s
  | _ => default

/-- the function object that the i-th statement made -/
noncomputable def fnD (i : Nat) (cd pm : Value) : FuncData :=
  { name := dName (stD i), qualname := dName (stD i), params := dArgs (stD i), body := .stmts (dBody (stD i)), scope := dScope (stD i), globals := 3, closure := [], defaults := .none, kwdefaults := .none, doc := .none, pyModule := pm, annotations := none, code := cd, closureTuple := .none, builtins := 0 }


/-- the text with its defs alone -/
noncomputable def view : Program := { Pr with main := { Pr.main with body := [stD 1, stD 3, stD 4, stD 5, stD 6, stD 8, stD 10, stD 11, stD 12, stD 13, stD 14, stD 15, stD 16, stD 17, stD 19, stD 20, stD 21, stD 22, stD 23, stD 24, stD 25, stD 26, stD 28, stD 29, stD 30, stD 32, stD 33, stD 34, stD 35, stD 36, stD 37, stD 38, stD 39] } }

/-! ## what the text's run leaves on the heap: the names, the defs, their codes -/
noncomputable def KA : List Addr := [3, 38, 39, 43, 44, 50, 51, 55, 56, 62, 63, 64, 70, 71, 77, 78, 84, 85, 91, 92, 98, 99, 105, 106, 112, 113, 119, 120, 126, 127, 131, 132, 138, 139, 143, 144, 150, 151, 157, 158, 164, 165, 171, 172, 176, 177, 183, 184, 190, 191, 197, 198, 202, 203, 209, 210, 214, 215, 221, 222, 228, 229, 233, 234]
noncomputable def KF (P : Params) : Frag := [
  (3, ⟨.type "dict", none, .dict #[⟨PyData.keyHash P (Str.ofString "__name__"), .str (Str.ofString "__name__") 165, .str (Str.ofString "law_nn0260_01") 426⟩, ⟨PyData.keyHash P (Str.ofString "__doc__"), .str (Str.ofString "__doc__") 166, .none⟩, ⟨PyData.keyHash P (Str.ofString "__package__"), .str (Str.ofString "__package__") 167, .none⟩, ⟨PyData.keyHash P (Str.ofString "__loader__"), .str (Str.ofString "__loader__") 168, .builtin "__main__.__loader__#opaque"⟩, ⟨PyData.keyHash P (Str.ofString "__spec__"), .str (Str.ofString "__spec__") 169, .none⟩, ⟨PyData.keyHash P (Str.ofString "__annotations__"), .str (Str.ofString "__annotations__") 170, .ref 6⟩, ⟨PyData.keyHash P (Str.ofString "__builtins__"), .str (Str.ofString "__builtins__") 171, .ref 4⟩, ⟨PyData.keyHash P (Str.ofString "__file__"), .str (Str.ofString "__file__") 173, .str (Str.ofString "/claim/cut.py") 172⟩, ⟨PyData.keyHash P (Str.ofString "__cached__"), .str (Str.ofString "__cached__") 174, .none⟩, ⟨PyData.keyHash P (Str.ofString "CasFail"), .str (Str.ofString "CasFail") 219, .ref 31⟩, ⟨PyData.keyHash P (Str.ofString "order_key"), .str (Str.ofString "order_key") 227, .ref 39⟩, ⟨PyData.keyHash P (Str.ofString "powers_product"), .str (Str.ofString "powers_product") 233, .ref 44⟩, ⟨PyData.keyHash P (Str.ofString "powers_divide"), .str (Str.ofString "powers_divide") 243, .ref 51⟩, ⟨PyData.keyHash P (Str.ofString "powers_quotient"), .str (Str.ofString "powers_quotient") 249, .ref 56⟩, ⟨PyData.keyHash P (Str.ofString "gcd"), .str (Str.ofString "gcd") 259, .ref 63⟩, ⟨PyData.keyHash P (Str.ofString "R0"), .str (Str.ofString "R0") 264, .ref 64⟩, ⟨PyData.keyHash P (Str.ofString "rat"), .str (Str.ofString "rat") 273, .ref 71⟩, ⟨PyData.keyHash P (Str.ofString "radd"), .str (Str.ofString "radd") 281, .ref 78⟩, ⟨PyData.keyHash P (Str.ofString "rmul"), .str (Str.ofString "rmul") 289, .ref 85⟩, ⟨PyData.keyHash P (Str.ofString "rdiv"), .str (Str.ofString "rdiv") 297, .ref 92⟩, ⟨PyData.keyHash P (Str.ofString "rneg"), .str (Str.ofString "rneg") 304, .ref 99⟩, ⟨PyData.keyHash P (Str.ofString "rinv"), .str (Str.ofString "rinv") 311, .ref 106⟩, ⟨PyData.keyHash P (Str.ofString "rpower"), .str (Str.ofString "rpower") 319, .ref 113⟩, ⟨PyData.keyHash P (Str.ofString "mvadd"), .str (Str.ofString "mvadd") 331, .ref 120⟩, ⟨PyData.keyHash P (Str.ofString "add_term"), .str (Str.ofString "add_term") 341, .ref 127⟩, ⟨PyData.keyHash P (Str.ofString "mvneg"), .str (Str.ofString "mvneg") 347, .ref 132⟩, ⟨PyData.keyHash P (Str.ofString "mvsub"), .str (Str.ofString "mvsub") 355, .ref 139⟩, ⟨PyData.keyHash P (Str.ofString "mvshift"), .str (Str.ofString "mvshift") 361, .ref 144⟩, ⟨PyData.keyHash P (Str.ofString "mvmul"), .str (Str.ofString "mvmul") 372, .ref 151⟩, ⟨PyData.keyHash P (Str.ofString "mvat"), .str (Str.ofString "mvat") 385, .ref 158⟩, ⟨PyData.keyHash P (Str.ofString "mvlead"), .str (Str.ofString "mvlead") 397, .ref 165⟩, ⟨PyData.keyHash P (Str.ofString "first_divisor"), .str (Str.ofString "first_divisor") 409, .ref 172⟩, ⟨PyData.keyHash P (Str.ofString "mvdivide"), .str (Str.ofString "mvdivide") 415, .ref 177⟩, ⟨PyData.keyHash P (Str.ofString "mvexact"), .str (Str.ofString "mvexact") 425, .ref 184⟩, ⟨PyData.keyHash P (Str.ofString "_law_take"), .str (Str.ofString "_law_take") 435, .ref 191⟩, ⟨PyData.keyHash P (Str.ofString "_law_box"), .str (Str.ofString "_law_box") 446, .ref 198⟩, ⟨PyData.keyHash P (Str.ofString "_law_poly"), .str (Str.ofString "_law_poly") 452, .ref 203⟩, ⟨PyData.keyHash P (Str.ofString "_law_sum_right"), .str (Str.ofString "_law_sum_right") 467, .ref 210⟩, ⟨PyData.keyHash P (Str.ofString "_law_leads_right"), .str (Str.ofString "_law_leads_right") 473, .ref 215⟩, ⟨PyData.keyHash P (Str.ofString "_law_exact_right"), .str (Str.ofString "_law_exact_right") 483, .ref 222⟩, ⟨PyData.keyHash P (Str.ofString "_law_exact_least"), .str (Str.ofString "_law_exact_least") 492, .ref 229⟩, ⟨PyData.keyHash P (Str.ofString "law"), .str (Str.ofString "law") 498, .ref 234⟩] 42, #[]⟩),
  (38, ⟨.type "code", none, .fields #[.str (Str.ofString "order_key") 222, .str (Str.ofString "order_key") 223, .str (Str.ofString "/claim/cut.py") 224, .int 9 0, .int 2 0, .int 0 0, .int 0 0, .int 3 0, .ref 35, .bool true, .int 181 0, .ref 36, .none, .none, .none, .ref 37, .int 225 0, .int 9 0, .str (Str.ofString "/claim/cut.py") 226], #[]⟩),
  (39, ⟨.type "function", none, .func (fnD 3 (.ref 38) (.str (Str.ofString "cas.orders") 220)), #[]⟩),
  (43, ⟨.type "code", none, .fields #[.str (Str.ofString "powers_product") 228, .str (Str.ofString "powers_product") 229, .str (Str.ofString "/claim/cut.py") 230, .int 17 0, .int 2 0, .int 0 0, .int 0 0, .int 3 0, .ref 40, .bool true, .int 181 0, .ref 41, .none, .none, .none, .ref 42, .int 231 0, .int 17 0, .str (Str.ofString "/claim/cut.py") 232], #[]⟩),
  (44, ⟨.type "function", none, .func (fnD 4 (.ref 43) (.str (Str.ofString "cas.orders") 220)), #[]⟩),
  (50, ⟨.type "code", none, .fields #[.str (Str.ofString "powers_divide") 234, .str (Str.ofString "powers_divide") 235, .str (Str.ofString "/claim/cut.py") 236, .int 19 0, .int 2 0, .int 0 0, .int 0 0, .int 3 0, .ref 45, .bool true, .int 181 0, .ref 46, .none, .ref 47, .ref 48, .ref 49, .int 241 0, .int 19 0, .str (Str.ofString "/claim/cut.py") 242], #[]⟩),
  (51, ⟨.type "function", none, .func (fnD 5 (.ref 50) (.str (Str.ofString "cas.orders") 220)), #[]⟩),
  (55, ⟨.type "code", none, .fields #[.str (Str.ofString "powers_quotient") 244, .str (Str.ofString "powers_quotient") 245, .str (Str.ofString "/claim/cut.py") 246, .int 24 0, .int 2 0, .int 0 0, .int 0 0, .int 3 0, .ref 52, .bool true, .int 181 0, .ref 53, .none, .none, .none, .ref 54, .int 247 0, .int 24 0, .str (Str.ofString "/claim/cut.py") 248], #[]⟩),
  (56, ⟨.type "function", none, .func (fnD 6 (.ref 55) (.str (Str.ofString "cas.orders") 220)), #[]⟩),
  (62, ⟨.type "code", none, .fields #[.str (Str.ofString "gcd") 252, .str (Str.ofString "gcd") 253, .str (Str.ofString "/claim/cut.py") 254, .int 27 0, .int 2 0, .int 0 0, .int 0 0, .int 3 0, .ref 57, .bool true, .int 181 0, .ref 58, .none, .ref 59, .ref 60, .ref 61, .int 257 0, .int 27 0, .str (Str.ofString "/claim/cut.py") 258], #[]⟩),
  (63, ⟨.type "function", none, .func (fnD 8 (.ref 62) (.str (Str.ofString "cas.ints") 250)), #[]⟩),
  (64, ⟨.type "tuple", none, .seq #[.int 0 262, .int 1 263] 0, #[]⟩),
  (70, ⟨.type "code", none, .fields #[.str (Str.ofString "rat") 265, .str (Str.ofString "rat") 266, .str (Str.ofString "/claim/cut.py") 267, .int 34 0, .int 2 0, .int 0 0, .int 0 0, .int 3 0, .ref 65, .bool true, .int 181 0, .ref 66, .none, .ref 67, .ref 68, .ref 69, .int 271 0, .int 34 0, .str (Str.ofString "/claim/cut.py") 272], #[]⟩),
  (71, ⟨.type "function", none, .func (fnD 11 (.ref 70) (.str (Str.ofString "cas.rats") 260)), #[]⟩),
  (77, ⟨.type "code", none, .fields #[.str (Str.ofString "radd") 274, .str (Str.ofString "radd") 275, .str (Str.ofString "/claim/cut.py") 276, .int 39 0, .int 2 0, .int 0 0, .int 0 0, .int 3 0, .ref 72, .bool true, .int 181 0, .ref 73, .none, .ref 74, .ref 75, .ref 76, .int 279 0, .int 39 0, .str (Str.ofString "/claim/cut.py") 280], #[]⟩),
  (78, ⟨.type "function", none, .func (fnD 12 (.ref 77) (.str (Str.ofString "cas.rats") 260)), #[]⟩),
  (84, ⟨.type "code", none, .fields #[.str (Str.ofString "rmul") 282, .str (Str.ofString "rmul") 283, .str (Str.ofString "/claim/cut.py") 284, .int 41 0, .int 2 0, .int 0 0, .int 0 0, .int 3 0, .ref 79, .bool true, .int 181 0, .ref 80, .none, .ref 81, .ref 82, .ref 83, .int 287 0, .int 41 0, .str (Str.ofString "/claim/cut.py") 288], #[]⟩),
  (85, ⟨.type "function", none, .func (fnD 13 (.ref 84) (.str (Str.ofString "cas.rats") 260)), #[]⟩),
  (91, ⟨.type "code", none, .fields #[.str (Str.ofString "rdiv") 290, .str (Str.ofString "rdiv") 291, .str (Str.ofString "/claim/cut.py") 292, .int 43 0, .int 2 0, .int 0 0, .int 0 0, .int 3 0, .ref 86, .bool true, .int 181 0, .ref 87, .none, .ref 88, .ref 89, .ref 90, .int 295 0, .int 43 0, .str (Str.ofString "/claim/cut.py") 296], #[]⟩),
  (92, ⟨.type "function", none, .func (fnD 14 (.ref 91) (.str (Str.ofString "cas.rats") 260)), #[]⟩),
  (98, ⟨.type "code", none, .fields #[.str (Str.ofString "rneg") 298, .str (Str.ofString "rneg") 299, .str (Str.ofString "/claim/cut.py") 300, .int 45 0, .int 1 0, .int 0 0, .int 0 0, .int 3 0, .ref 93, .bool true, .int 181 0, .ref 94, .none, .ref 95, .ref 96, .ref 97, .int 302 0, .int 45 0, .str (Str.ofString "/claim/cut.py") 303], #[]⟩),
  (99, ⟨.type "function", none, .func (fnD 15 (.ref 98) (.str (Str.ofString "cas.rats") 260)), #[]⟩),
  (105, ⟨.type "code", none, .fields #[.str (Str.ofString "rinv") 305, .str (Str.ofString "rinv") 306, .str (Str.ofString "/claim/cut.py") 307, .int 47 0, .int 1 0, .int 0 0, .int 0 0, .int 3 0, .ref 100, .bool true, .int 181 0, .ref 101, .none, .ref 102, .ref 103, .ref 104, .int 309 0, .int 47 0, .str (Str.ofString "/claim/cut.py") 310], #[]⟩),
  (106, ⟨.type "function", none, .func (fnD 16 (.ref 105) (.str (Str.ofString "cas.rats") 260)), #[]⟩),
  (112, ⟨.type "code", none, .fields #[.str (Str.ofString "rpower") 312, .str (Str.ofString "rpower") 313, .str (Str.ofString "/claim/cut.py") 314, .int 49 0, .int 2 0, .int 0 0, .int 0 0, .int 3 0, .ref 107, .bool true, .int 181 0, .ref 108, .none, .ref 109, .ref 110, .ref 111, .int 317 0, .int 49 0, .str (Str.ofString "/claim/cut.py") 318], #[]⟩),
  (113, ⟨.type "function", none, .func (fnD 17 (.ref 112) (.str (Str.ofString "cas.rats") 260)), #[]⟩),
  (119, ⟨.type "code", none, .fields #[.str (Str.ofString "mvadd") 322, .str (Str.ofString "mvadd") 323, .str (Str.ofString "/claim/cut.py") 324, .int 54 0, .int 2 0, .int 0 0, .int 0 0, .int 3 0, .ref 114, .bool true, .int 181 0, .ref 115, .none, .ref 116, .ref 117, .ref 118, .int 329 0, .int 54 0, .str (Str.ofString "/claim/cut.py") 330], #[]⟩),
  (120, ⟨.type "function", none, .func (fnD 19 (.ref 119) (.str (Str.ofString "cas.mvpoly") 320)), #[]⟩),
  (126, ⟨.type "code", none, .fields #[.str (Str.ofString "add_term") 332, .str (Str.ofString "add_term") 333, .str (Str.ofString "/claim/cut.py") 334, .int 59 0, .int 3 0, .int 0 0, .int 0 0, .int 3 0, .ref 121, .bool true, .int 181 0, .ref 122, .none, .ref 123, .ref 124, .ref 125, .int 339 0, .int 59 0, .str (Str.ofString "/claim/cut.py") 340], #[]⟩),
  (127, ⟨.type "function", none, .func (fnD 20 (.ref 126) (.str (Str.ofString "cas.mvpoly") 320)), #[]⟩),
  (131, ⟨.type "code", none, .fields #[.str (Str.ofString "mvneg") 342, .str (Str.ofString "mvneg") 343, .str (Str.ofString "/claim/cut.py") 344, .int 65 0, .int 1 0, .int 0 0, .int 0 0, .int 3 0, .ref 128, .bool true, .int 181 0, .ref 129, .none, .none, .none, .ref 130, .int 345 0, .int 65 0, .str (Str.ofString "/claim/cut.py") 346], #[]⟩),
  (132, ⟨.type "function", none, .func (fnD 21 (.ref 131) (.str (Str.ofString "cas.mvpoly") 320)), #[]⟩),
  (138, ⟨.type "code", none, .fields #[.str (Str.ofString "mvsub") 348, .str (Str.ofString "mvsub") 349, .str (Str.ofString "/claim/cut.py") 350, .int 67 0, .int 2 0, .int 0 0, .int 0 0, .int 3 0, .ref 133, .bool true, .int 181 0, .ref 134, .none, .ref 135, .ref 136, .ref 137, .int 353 0, .int 67 0, .str (Str.ofString "/claim/cut.py") 354], #[]⟩),
  (139, ⟨.type "function", none, .func (fnD 22 (.ref 138) (.str (Str.ofString "cas.mvpoly") 320)), #[]⟩),
  (143, ⟨.type "code", none, .fields #[.str (Str.ofString "mvshift") 356, .str (Str.ofString "mvshift") 357, .str (Str.ofString "/claim/cut.py") 358, .int 69 0, .int 3 0, .int 0 0, .int 0 0, .int 3 0, .ref 140, .bool true, .int 181 0, .ref 141, .none, .none, .none, .ref 142, .int 359 0, .int 69 0, .str (Str.ofString "/claim/cut.py") 360], #[]⟩),
  (144, ⟨.type "function", none, .func (fnD 23 (.ref 143) (.str (Str.ofString "cas.mvpoly") 320)), #[]⟩),
  (150, ⟨.type "code", none, .fields #[.str (Str.ofString "mvmul") 362, .str (Str.ofString "mvmul") 363, .str (Str.ofString "/claim/cut.py") 364, .int 73 0, .int 2 0, .int 0 0, .int 0 0, .int 3 0, .ref 145, .bool true, .int 181 0, .ref 146, .none, .ref 147, .ref 148, .ref 149, .int 370 0, .int 73 0, .str (Str.ofString "/claim/cut.py") 371], #[]⟩),
  (151, ⟨.type "function", none, .func (fnD 24 (.ref 150) (.str (Str.ofString "cas.mvpoly") 320)), #[]⟩),
  (157, ⟨.type "code", none, .fields #[.str (Str.ofString "mvat") 373, .str (Str.ofString "mvat") 374, .str (Str.ofString "/claim/cut.py") 375, .int 79 0, .int 2 0, .int 0 0, .int 0 0, .int 3 0, .ref 152, .bool true, .int 181 0, .ref 153, .none, .ref 154, .ref 155, .ref 156, .int 383 0, .int 79 0, .str (Str.ofString "/claim/cut.py") 384], #[]⟩),
  (158, ⟨.type "function", none, .func (fnD 25 (.ref 157) (.str (Str.ofString "cas.mvpoly") 320)), #[]⟩),
  (164, ⟨.type "code", none, .fields #[.str (Str.ofString "mvlead") 386, .str (Str.ofString "mvlead") 387, .str (Str.ofString "/claim/cut.py") 388, .int 87 0, .int 2 0, .int 0 0, .int 0 0, .int 3 0, .ref 159, .bool true, .int 181 0, .ref 160, .none, .ref 161, .ref 162, .ref 163, .int 395 0, .int 87 0, .str (Str.ofString "/claim/cut.py") 396], #[]⟩),
  (165, ⟨.type "function", none, .func (fnD 26 (.ref 164) (.str (Str.ofString "cas.mvpoly") 320)), #[]⟩),
  (171, ⟨.type "code", none, .fields #[.str (Str.ofString "first_divisor") 400, .str (Str.ofString "first_divisor") 401, .str (Str.ofString "/claim/cut.py") 402, .int 95 0, .int 2 0, .int 0 0, .int 0 0, .int 3 0, .ref 166, .bool true, .int 181 0, .ref 167, .none, .ref 168, .ref 169, .ref 170, .int 407 0, .int 95 0, .str (Str.ofString "/claim/cut.py") 408], #[]⟩),
  (172, ⟨.type "function", none, .func (fnD 28 (.ref 171) (.str (Str.ofString "cas.mvdiv") 398)), #[]⟩),
  (176, ⟨.type "code", none, .fields #[.str (Str.ofString "mvdivide") 410, .str (Str.ofString "mvdivide") 411, .str (Str.ofString "/claim/cut.py") 412, .int 100 0, .int 3 0, .int 0 0, .int 0 0, .int 3 0, .ref 173, .bool true, .int 181 0, .ref 174, .none, .none, .none, .ref 175, .int 413 0, .int 100 0, .str (Str.ofString "/claim/cut.py") 414], #[]⟩),
  (177, ⟨.type "function", none, .func (fnD 29 (.ref 176) (.str (Str.ofString "cas.mvdiv") 398)), #[]⟩),
  (183, ⟨.type "code", none, .fields #[.str (Str.ofString "mvexact") 416, .str (Str.ofString "mvexact") 417, .str (Str.ofString "/claim/cut.py") 418, .int 115 0, .int 2 0, .int 0 0, .int 0 0, .int 3 0, .ref 178, .bool true, .int 181 0, .ref 179, .none, .ref 180, .ref 181, .ref 182, .int 423 0, .int 115 0, .str (Str.ofString "/claim/cut.py") 424], #[]⟩),
  (184, ⟨.type "function", none, .func (fnD 30 (.ref 183) (.str (Str.ofString "cas.mvdiv") 398)), #[]⟩),
  (190, ⟨.type "code", none, .fields #[.str (Str.ofString "_law_take") 428, .str (Str.ofString "_law_take") 429, .str (Str.ofString "/claim/cut.py") 430, .int 121 0, .int 2 0, .int 0 0, .int 0 0, .int 3 0, .ref 185, .bool true, .int 181 0, .ref 186, .none, .ref 187, .ref 188, .ref 189, .int 433 0, .int 121 0, .str (Str.ofString "/claim/cut.py") 434], #[]⟩),
  (191, ⟨.type "function", none, .func (fnD 32 (.ref 190) (.str (Str.ofString "law_nn0260_01") 426)), #[]⟩),
  (197, ⟨.type "code", none, .fields #[.str (Str.ofString "_law_box") 436, .str (Str.ofString "_law_box") 437, .str (Str.ofString "/claim/cut.py") 438, .int 126 0, .int 3 0, .int 0 0, .int 0 0, .int 3 0, .ref 192, .bool true, .int 181 0, .ref 193, .none, .ref 194, .ref 195, .ref 196, .int 444 0, .int 126 0, .str (Str.ofString "/claim/cut.py") 445], #[]⟩),
  (198, ⟨.type "function", none, .func (fnD 33 (.ref 197) (.str (Str.ofString "law_nn0260_01") 426)), #[]⟩),
  (202, ⟨.type "code", none, .fields #[.str (Str.ofString "_law_poly") 447, .str (Str.ofString "_law_poly") 448, .str (Str.ofString "/claim/cut.py") 449, .int 131 0, .int 4 0, .int 0 0, .int 0 0, .int 3 0, .ref 199, .bool true, .int 181 0, .ref 200, .none, .none, .none, .ref 201, .int 450 0, .int 131 0, .str (Str.ofString "/claim/cut.py") 451], #[]⟩),
  (203, ⟨.type "function", none, .func (fnD 34 (.ref 202) (.str (Str.ofString "law_nn0260_01") 426)), #[]⟩),
  (209, ⟨.type "code", none, .fields #[.str (Str.ofString "_law_sum_right") 453, .str (Str.ofString "_law_sum_right") 454, .str (Str.ofString "/claim/cut.py") 455, .int 139 0, .int 5 0, .int 0 0, .int 0 0, .int 3 0, .ref 204, .bool true, .int 181 0, .ref 205, .none, .ref 206, .ref 207, .ref 208, .int 465 0, .int 139 0, .str (Str.ofString "/claim/cut.py") 466], #[]⟩),
  (210, ⟨.type "function", none, .func (fnD 35 (.ref 209) (.str (Str.ofString "law_nn0260_01") 426)), #[]⟩),
  (214, ⟨.type "code", none, .fields #[.str (Str.ofString "_law_leads_right") 468, .str (Str.ofString "_law_leads_right") 469, .str (Str.ofString "/claim/cut.py") 470, .int 145 0, .int 5 0, .int 0 0, .int 0 0, .int 3 0, .ref 211, .bool true, .int 181 0, .ref 212, .none, .none, .none, .ref 213, .int 471 0, .int 145 0, .str (Str.ofString "/claim/cut.py") 472], #[]⟩),
  (215, ⟨.type "function", none, .func (fnD 36 (.ref 214) (.str (Str.ofString "law_nn0260_01") 426)), #[]⟩),
  (221, ⟨.type "code", none, .fields #[.str (Str.ofString "_law_exact_right") 474, .str (Str.ofString "_law_exact_right") 475, .str (Str.ofString "/claim/cut.py") 476, .int 160 0, .int 3 0, .int 0 0, .int 0 0, .int 3 0, .ref 216, .bool true, .int 181 0, .ref 217, .none, .ref 218, .ref 219, .ref 220, .int 481 0, .int 160 0, .str (Str.ofString "/claim/cut.py") 482], #[]⟩),
  (222, ⟨.type "function", none, .func (fnD 37 (.ref 221) (.str (Str.ofString "law_nn0260_01") 426)), #[]⟩),
  (228, ⟨.type "code", none, .fields #[.str (Str.ofString "_law_exact_least") 484, .str (Str.ofString "_law_exact_least") 485, .str (Str.ofString "/claim/cut.py") 486, .int 167 0, .int 2 0, .int 0 0, .int 0 0, .int 3 0, .ref 223, .bool true, .int 181 0, .ref 224, .none, .ref 225, .ref 226, .ref 227, .int 490 0, .int 167 0, .str (Str.ofString "/claim/cut.py") 491], #[]⟩),
  (229, ⟨.type "function", none, .func (fnD 38 (.ref 228) (.str (Str.ofString "law_nn0260_01") 426)), #[]⟩),
  (233, ⟨.type "code", none, .fields #[.str (Str.ofString "law") 493, .str (Str.ofString "law") 494, .str (Str.ofString "/claim/cut.py") 495, .int 172 0, .int 1 0, .int 0 0, .int 0 0, .int 3 0, .ref 230, .bool true, .int 181 0, .ref 231, .none, .none, .none, .ref 232, .int 496 0, .int 172 0, .str (Str.ofString "/claim/cut.py") 497], #[]⟩),
  (234, ⟨.type "function", none, .func (fnD 39 (.ref 233) (.str (Str.ofString "law_nn0260_01") 426)), #[]⟩)]
theorem KA_of (P : Params) : KA = (KF P).map (·.1) := rfl
noncomputable abbrev HK : Hook := kHook KF KA KA_of
noncomputable def dPos : Stmt → Pos
  | .FunctionDef _ _ _ _ _ _ _ _ _ p .. => p
  | _ => default
noncomputable def lawRec : DefRec := ⟨Str.ofString "law", dArgs (stD 39), dBody (stD 39), dScope (stD 39), dPos (stD 39)⟩

theorem look0 : OpenLaw.wellSaid PySem.Challenge.rw_nn0260_01 = true := by kernel_rfl
noncomputable abbrev XtL : Shared → Bool := fun s => xlAt view [] s && recOk (RowW.records PySem.Challenge.rw_nn0260_01.row.toRowW) s
theorem left0 : LeftO PySem.Challenge.rw_nn0260_01.row.toRowW.prog view [] XtL (Hook.obs HK) (Hook.val HK) 2592 := fun w => by kernel_rfl
set_option maxHeartbeats 8000000 in
theorem hd (call : WalkO view [] (XL view []) HK.says PySem.Challenge.rw_nn0260_01.row.toRowW lawRec [] fun f vs => PySem.call f vs) : PySem.Challenge.rw_nn0260_01.Holds := by
  w_on
  refine holds_law look0 fun said => ?_
  refine holds_open (q := view) (loose := []) (Xt := XtL) (XP := XL view []) (Yf := Hook.obs HK) (Ya := Hook.val HK) (YP := Hook.says HK) (d := lawRec) (kwd := []) (N := 2592) left0 (Hook.of HK) (Hook.keeps HK) (fun s e => xl_of s (Bool.and_eq_true_iff.mp e).1) XL.keeps (by kernel_rfl!) (by kernel_rfl!) (by kernel_rfl!) (fun s e => recFacts_of (Bool.and_eq_true_iff.mp e).2) (by rfl) (by first | assumption | decide +kernel) (by decide +kernel) ⟨rfl, rfl, rfl, rfl, rfl, by decide +kernel⟩ ?hw call
  case hw => w_witness2
end NN
end

section
open PySem PySem.W PyProof.Rows
namespace NN
set_option maxRecDepth 10000
noncomputable abbrev KK (w : World) : Frag := KF w.params
theorem look_rat (w : World) : (KK w).lookup 71 = some ⟨.type "function", none, .func (fnD 11 (.ref 70) (.str (Str.ofString "cas.rats") 260)), #[]⟩ := by kernel_rfl!
theorem look_law (w : World) : ∃ pm, (KK w).lookup 234 = some ⟨.type "function", none, .func (fnD 39 (.ref 233) pm), #[]⟩ := ⟨.str (Str.ofString "law_nn0260_01") 426, by kernel_rfl!⟩
end NN
end

section
open PySem PySem.W PyProof.Rows
set_option linter.unusedVariables false
set_option linter.unusedSimpArgs false
namespace NN
set_option maxRecDepth 10000

/-- the world and what of the state no step turns -/
structure Z where
  w : World
  s : Shared

noncomputable abbrev at_ (z : Z) (h : Heap) (n : Nat) : Shared := { z.s with heap := h, toks := n }

/-- the tree ends (it does not raise), whatever the tokens; behind it Q holds of its value and the heap -/
noncomputable def W (z : Z) (A : Around) {α : Type} (t : Sem α) (h : Heap) (Q : α → Heap → Prop) : Prop :=
  ∀ n, wpAny (model Pr z.w) A t (fun a s' => ∃ h' n', s' = at_ z h' n' ∧ Q a h') (fun _ _ => False) (at_ z h n)

noncomputable def Keep (D : Addr → Prop) (h h' : Heap) : Prop := ∀ a o, ¬ D a → h.get? a = some o → h'.get? a = some o
noncomputable abbrev Ext (h h' : Heap) : Prop := Keep (fun _ => False) h h'
theorem Keep.refl (D : Addr → Prop) (h : Heap) : Keep D h h := fun _ _ _ e => e
theorem Keep.trans {D : Addr → Prop} {h h' h'' : Heap} (x : Keep D h h') (y : Keep D h' h'') : Keep D h h'' :=
  fun a o d e => y a o d (x a o d e)
theorem Keep.weak {D D' : Addr → Prop} {h h' : Heap} (x : Keep D h h') (f : ∀ a, D a → D' a) : Keep D' h h' :=
  fun a o d e => x a o (fun q => d (f a q)) e
theorem Ext.to {D : Addr → Prop} {h h' : Heap} (x : Ext h h') : Keep D h h' := x.weak fun _ => False.elim
theorem Ext.get {h h' : Heap} (x : Ext h h') {a o} (e : h.get? a = some o) : h'.get? a = some o := x a o id e
theorem Ext.ks {h h' : Heap} (x : Ext h h') : ∀ b o, h.get? b = some o → h'.get? b = some o := fun _ _ e => x.get e
theorem Ext.push (h : Heap) (o : Obj) : Ext h (h.push o) := fun _ _ _ e => Heap.get?_push_of_some o e
theorem Ext.of {h h' : Heap} (x : ∀ b o, h.get? b = some o → h'.get? b = some o) : Ext h h' := fun b o _ e => x b o e
theorem Ext.ofNew {h h' : Heap} (x : Heap.ExtBut h.objs.size h h') : Ext h h' := fun b o _ e => x b o (Nat.ne_of_lt (Heap.lt_size e)) e
theorem Keep.same {a : Addr} {h h' : Heap} (x : Heap.SameBut a h h') : Keep (fun b => b = a) h h' := fun b o d e => (x.2 b d).trans e
theorem fresh_size (h : Heap) : h.get? h.objs.size = none := by
  cases q : h.get? h.objs.size with
  | none => rfl
  | some o => exact absurd (Heap.lt_size q) (Nat.lt_irrefl _)

section
variable {z : Z} {A : Around} {h : Heap} {α β : Type}

theorem W.use {t : Sem α} {Q : α → Heap → Prop} {R : α → Shared → Prop} {E : Value → Shared → Prop} (H : W z A t h Q) (n : Nat) (k : ∀ a h' n', Q a h' → R a (at_ z h' n')) :
    wpAny (model Pr z.w) A t R E (at_ z h n) :=
  wpAny_mono (H n) (fun a s' q => by obtain ⟨h', n', rfl, q⟩ := q; exact k a h' n' q) fun _ _ f => f.elim
theorem W.mono {t : Sem α} {Q R : α → Heap → Prop} (H : W z A t h Q) (k : ∀ a h', Q a h' → R a h') : W z A t h R :=
  fun n => H.use n fun a h' n' q => ⟨h', n', rfl, k a h' q⟩
theorem W.bind {m : Sem α} {f : α → Sem β} {Q : β → Heap → Prop} (H : W z A m h (fun a h' => W z A (f a) h' Q)) : W z A (m >>= f) h Q :=
  fun n => wpAny_bind (H.use n fun _ _ n' q => q n')
theorem W.pure {a : α} {Q : α → Heap → Prop} (q : Q a h) : W z A (pure a) h Q := fun n => wpAny_pure ⟨h, n, rfl, q⟩
theorem W.standAt {p : Pos} {Q : Unit → Heap → Prop} (q : Q () h) : W z A (standAt p) h Q := fun n => wpAny_standAt ⟨h, n, rfl, q⟩
theorem W.holding {vs : List Value} {m : Sem α} {Q : α → Heap → Prop} (q : W z A m h Q) : W z A (holding vs m) h Q := fun n => wpAny_holding (q n)
theorem W.ok {a : α} {n : Nat} {Q : α → Heap → Prop} (q : Q a h) : ∃ h' n', at_ z h n = at_ z h' n' ∧ Q a h' := ⟨h, n, rfl, q⟩
end

/-! ## local names as slots -/
noncomputable def lkv : List Str → List (Option Value) → Str → Option Value
  | x :: xs, v :: vs, y => if y = x then v else lkv xs vs y
  | _, _, _ => none

theorem lkv_get : ∀ {nm : List Str} {vs : List (Option Value)} {i : Nat} {x : Str} {v : Option Value}, nm.Nodup → nm[i]? = some x → vs[i]? = some v → lkv nm vs x = v
  | [], _, _, _, _, _, h, _ => by simp at h
  | _ :: _, [], _, _, _, _, _, h => by simp at h
  | y :: ys, w :: ws, 0, x, v, _, h1, h2 => by simp at h1 h2; subst h1; simp [lkv, h2]
  | y :: ys, w :: ws, i + 1, x, v, hn, h1, h2 => by
    rw [List.nodup_cons] at hn
    simp only [List.getElem?_cons_succ] at h1 h2
    have hne : x ≠ y := fun e => hn.1 (e ▸ List.mem_of_getElem? h1)
    simp only [lkv, if_neg hne]
    exact lkv_get hn.2 h1 h2
theorem lkv_set : ∀ {nm : List Str} {vs : List (Option Value)} {i : Nat} {x : Str} (v : Value), nm.Nodup → nm[i]? = some x → i < vs.length → ∀ y, (if y = x then some v else lkv nm vs y) = lkv nm (vs.set i (some v)) y
  | [], _, _, _, _, _, h, _, _ => by simp at h
  | _ :: _, [], _, _, _, _, _, h, _ => by simp at h
  | a :: as, w :: ws, 0, x, v, _, h1, _, y => by
    simp at h1; subst h1
    simp only [List.set_cons_zero, lkv]
    split <;> rfl
  | a :: as, w :: ws, i + 1, x, v, hn, h1, h2, y => by
    rw [List.nodup_cons] at hn
    simp only [List.getElem?_cons_succ] at h1
    have hne : a ≠ x := fun e => hn.1 (e ▸ List.mem_of_getElem? h1)
    simp only [List.set_cons_succ, lkv]
    rw [← lkv_set v hn.2 h1 (Nat.lt_of_succ_lt_succ h2) y]
    by_cases e : y = a
    · subst e; simp [hne]
    · simp [e]

/-- the i-th local name of the scope -/
noncomputable def okName (sc : Scope) (nm : List Str) (x : Str) (i : Nat) : Bool :=
  sc.kind == .function && sc.names.lookup x == some .local && nm[i]? == some x && !(x == ("__debug__" : Str)) && decide nm.Nodup
theorem okName.parts {sc : Scope} {nm : List Str} {x : Str} {i : Nat} (h : okName sc nm x i = true) :
    sc.kind = .function ∧ sc.names.lookup x = some .local ∧ nm[i]? = some x ∧ (x == ("__debug__" : Str)) = false ∧ nm.Nodup := by
  simp only [okName, Bool.and_eq_true, beq_iff_eq, Bool.not_eq_true', decide_eq_true_eq] at h
  obtain ⟨⟨⟨⟨a, b⟩, c⟩, d⟩, e⟩ := h
  exact ⟨a, b, c, d, e⟩

/-- the frame at hand: its locals at L; all of h₀ stands; L is none of h₀'s -/
structure MF (h₀ : Heap) (nm : List Str) (L : Addr) (vs : List (Option Value)) (h : Heap) : Prop where
  ns : h.Ns L (lkv nm vs)
  keep : Ext h₀ h
  fresh : h₀.get? L = none

theorem MF.ext {h₀ h h' : Heap} {nm : List Str} {L : Addr} {vs : List (Option Value)} (F : MF h₀ nm L vs h) (x : Ext h h') : MF h₀ nm L vs h' :=
  ⟨F.ns.keeps x.ks, F.keep.trans x, F.fresh⟩
theorem MF.keepD {D : Addr → Prop} {h₀ h h' : Heap} {nm : List Str} {L : Addr} {vs : List (Option Value)} (F : MF h₀ nm L vs h) (x : Keep D h h') (hL : ¬ D L) (hD : ∀ a, D a → h₀.get? a = none) : MF h₀ nm L vs h' :=
  ⟨by obtain ⟨o, es, ep, ho, r⟩ := F.ns; exact ⟨o, es, ep, x _ _ hL ho, r⟩, fun a o _ e => x a o (fun d => by rw [hD a d] at e; cases e) (F.keep.get e), F.fresh⟩
theorem MF.lt {h₀ h : Heap} {nm : List Str} {L : Addr} {vs : List (Option Value)} (F : MF h₀ nm L vs h) : L < h.objs.size := F.ns.lt

/-- what the text's own objects and the built-in names are -/
structure GL (z : Z) (h : Heap) : Prop where
  k : (KK z.w).In h
  t : ∃ mg mb, TopRead view (looseW view []) mg mb h
  seer : h.NoSeer
theorem GL.ext {z : Z} {h h' : Heap} (G : GL z h) (x : Ext h h') : GL z h' :=
  ⟨G.k.keeps x.ks, let ⟨mg, mb, T⟩ := G.t; ⟨mg, mb, T.keeps x.ks⟩, G.seer.keeps x.ks⟩
theorem GL.nolimit {z : Z} {h : Heap} (G : GL z h) : h.NoLimit := let ⟨_, _, T⟩ := G.t; T.nolimit

/-- room for k more frames -/
structure Rm (A : Around) (k : Nat) : Prop where
  d : A.depth + 110 + k < recursionLimit
  u : A.units + 8 * k + 8 < cLine
  h : A.handled = none
  f : ∃ l, A.frames = some l
theorem Rm.mono {A : Around} {k j : Nat} (r : Rm A k) (h : j ≤ k) : Rm A j := ⟨by have := r.d; omega, by have := r.u; omega, r.h, r.f⟩
theorem Rm.deeper {A : Around} {k : Nat} (r : Rm A (k + 1)) (e : Env) : Rm (A.deeper e) k :=
  ⟨by have := r.d; simp only [Around.deeper]; omega, by have := r.u; simp only [Around.deeper]; omega, r.h, by obtain ⟨l, e'⟩ := r.f; exact ⟨e :: l, by simp only [Around.deeper, e']; rfl⟩⟩
theorem Rm.in1 {A : Around} {k : Nat} (r : Rm A (k + 1)) : Rm A.in1 k :=
  ⟨by have := r.d; show A.depth + 110 + k < _; omega, by have := r.u; show A.units + 1 + 8 * k + 8 < _; omega, r.h, r.f⟩
/-- room within a def's body -/
structure Rb (A : Around) (k : Nat) : Prop where
  r : Rm A k
  b : ∃ e l, A.frames = some (e :: l) ∧ e.scope.isGenerator = false ∧ e.scope.isCoroutine = false ∧ e.builtins = builtinsNs ∧ e.globals = mainGlobals

section
variable {z : Z} {A : Around} {h h₀ : Heap} {env : Env} {nm : List Str} {vs : List (Option Value)}

/-! ## expressions -/
theorem W.nl {x : Str} {pos : Pos} {v : Value} {Q : Value → Heap → Prop} (F : MF h₀ nm env.locals vs h) (i : Nat) (q : Q v h) (hv : vs[i]? = some (some v) := by rfl) (ok : okName env.scope nm x i = true := by kernel_rfl!) :
    W z A (eval (.Name x pos) env) h Q := fun n =>
  have p := okName.parts ok
  wpAny_Name (wpAny_loadName_local p.1 p.2.1 F.ns (lkv_get p.2.2.2.2 p.2.2.1 hv) (W.ok q)) p.2.2.2.1

theorem W.cint {i : Int} {k : Nat} {pos : Pos} {Q : Value → Heap → Prop} (q : ∀ t, Q (.int i t) h) : W z A (eval (.Constant (.int i) k pos) env) h Q := fun n => wpAny_Constant_int (W.ok (q n))
theorem W.cnone {k : Nat} {pos : Pos} {Q : Value → Heap → Prop} (q : Q .none h) : W z A (eval (.Constant .none k pos) env) h Q := fun _ => wpAny_Constant_none (W.ok q)
theorem W.cbool {b : Bool} {k : Nat} {pos : Pos} {Q : Value → Heap → Prop} (q : Q (.bool b) h) : W z A (eval (.Constant (.bool b) k pos) env) h Q := fun _ => wpAny_Constant_bool (W.ok q)
theorem W.cstr {x : Str} {k : Nat} {pos : Pos} {Q : Value → Heap → Prop} (q : ∀ t, Q (.str x t) h) : W z A (eval (.Constant (.str x) k pos) env) h Q := fun n => wpAny_Constant_str (W.ok (q n))

theorem W.bin {l : Expr} {op : Operator} {r : Expr} {pos : Pos} {Q : Value → Heap → Prop} (q : W z A (eval l env) h (fun a h1 => W z A (eval r env) h1 (fun b h2 => W z A (binaryOp op a b) h2 Q))) :
    W z A (eval (.BinOp l op r pos) env) h Q := fun n => wpAny_BinOp (q.use n fun _ _ n1 q1 => q1.use n1 fun _ _ n2 q2 => q2 n2)
theorem W.un {x : Expr} {op : UnaryOp} {pos : Pos} {Q : Value → Heap → Prop} (q : W z A (eval x env) h (fun a h1 => W z A (unaryOp op a) h1 Q)) :
    W z A (eval (.UnaryOp op x pos) env) h Q := fun n => wpAny_UnaryOp (q.use n fun _ _ n1 q1 => q1 n1)
theorem W.cmp {l : Expr} {op : CmpOp} {r : Expr} {pos : Pos} {Q : Value → Heap → Prop} (q : W z A (eval l env) h (fun a h1 => W z A (eval r env) h1 (fun b h2 => W z A (compareOp op a b) h2 Q)))
    (hm : behindInMarks op r = false := by rfl) : W z A (eval (.Compare l [op] [r] pos) env) h Q := fun n => wpAny_Compare1 (q.use n fun _ _ n1 q1 => q1.use n1 fun _ _ n2 q2 => q2 n2) hm
theorem W.ifx {t b o : Expr} {pos : Pos} {Q : Value → Heap → Prop} (q : W z A (isTrue t env (eval t env)) h (fun c h1 => if c then W z A (eval b env) h1 Q else W z A (eval o env) h1 Q)) :
    W z A (eval (.IfExp t b o pos) env) h Q := fun n => wpAny_IfExp (q.use n fun c _ n1 q1 => by cases c <;> exact q1 n1)
theorem W.tcmp {l : Expr} {op : CmpOp} {r : Expr} {pos : Pos} {whole : Sem Value} {Q : Bool → Heap → Prop}
    (q : W z A (eval l env) h (fun a h1 => W z A (eval r env) h1 (fun b h2 => W z A (compareOp op a b) h2 (fun c h3 => W z A (truthy c) h3 Q))))
    (hm : behindInMarks op r = false := by rfl) : W z A (isTrue (.Compare l [op] [r] pos) env whole) h Q := fun n =>
  wpAny_isTrue_Compare1 (q.use n fun _ _ n1 q1 => q1.use n1 fun _ _ n2 q2 => q2.use n2 fun _ _ n3 q3 => q3 n3) hm
theorem W.tnot {x : Expr} {pos : Pos} {whole : Sem Value} {Q : Bool → Heap → Prop} (q : W z A (isTrue x env (eval x env)) h (fun c => Q (!c))) : W z A (isTrue (.UnaryOp .Not x pos) env whole) h Q := fun n =>
  PyProof.Rows.isTrue_not (q.use n fun _ _ _ q1 => W.ok q1)
theorem W.tand0 {pos : Pos} {whole : Sem Value} {Q : Bool → Heap → Prop} (q : Q true h) : W z A (isTrue (.BoolOp .And [] pos) env whole) h Q := fun _ => PyProof.Rows.isTrue_and_nil (W.ok q)
theorem W.tand {x : Expr} {rest : List Expr} {pos : Pos} {whole : Sem Value} {Q : Bool → Heap → Prop}
    (q : W z A (isTrue x env (eval x env)) h (fun c h1 => if c then W z A (isTrue (.BoolOp .And rest pos) env whole) h1 Q else Q false h1)) : W z A (isTrue (.BoolOp .And (x :: rest) pos) env whole) h Q := fun n =>
  PyProof.Rows.isTrue_and (q.use n fun c _ n1 q1 => by cases c <;> first | exact q1 n1 | exact W.ok q1)
theorem W.tor0 {pos : Pos} {whole : Sem Value} {Q : Bool → Heap → Prop} (q : Q false h) : W z A (isTrue (.BoolOp .Or [] pos) env whole) h Q := fun _ => PyProof.Rows.isTrue_or_nil (W.ok q)
theorem W.tor {x : Expr} {rest : List Expr} {pos : Pos} {whole : Sem Value} {Q : Bool → Heap → Prop}
    (q : W z A (isTrue x env (eval x env)) h (fun c h1 => if c then Q true h1 else W z A (isTrue (.BoolOp .Or rest pos) env whole) h1 Q)) : W z A (isTrue (.BoolOp .Or (x :: rest) pos) env whole) h Q := fun n =>
  PyProof.Rows.isTrue_or (q.use n fun c _ n1 q1 => by cases c <;> first | exact q1 n1 | exact W.ok q1)
theorem W.tplain {e : Expr} {whole : Sem Value} {Q : Bool → Heap → Prop} (q : W z A whole h (fun v h1 => W z A (truthy v) h1 Q)) (he : isTrue e env whole = (do let v ← whole; PySem.standAt e.pos; PySem.holding [v] (truthy v)) := by rfl) :
    W z A (isTrue e env whole) h Q := fun n => PyProof.Rows.isTrue_plain (q.use n fun _ _ n1 q1 => q1 n1) he
theorem W.tb {b : Bool} {Q : Bool → Heap → Prop} (q : Q b h) : W z A (truthy (.bool b)) h Q := fun _ => wpAny_truthy_bool (W.ok q)

/-- items of a display, arguments of a call -/
theorem W.sp0 {pos : Pos} {Q : List Value → Heap → Prop} (q : Q [] h) : W z A (spliced (backTo pos (starEach [] env))) h Q := fun _ => spliced_none (W.ok q)
theorem W.sp {e : Expr} {rest : List Expr} {pos : Pos} {Q : List Value → Heap → Prop}
    (q : W z A (eval e env) h (fun v h1 => W z A (spliced (backTo pos (starEach rest env))) h1 (fun vs h2 => Q (v :: vs) h2))) (he : starEach (e :: rest) env = (false, eval e env) :: starEach rest env := by rfl) :
    W z A (spliced (backTo pos (starEach (e :: rest) env))) h Q := fun n => spliced_more (q.use n fun _ _ n1 q1 => q1.use n1 fun _ _ _ q2 => W.ok q2) he

theorem W.sub {value slice : Expr} {pos : Pos} {Q : Value → Heap → Prop} (q : W z A (eval value env) h (fun o h1 => W z A (eval slice env) h1 (fun i h2 => W z A (subscriptTail value slice o i) h2 Q))) :
    W z A (eval (.Subscript value slice pos) env) h Q := fun n => Subscript_ (q.use n fun _ _ n1 q1 => q1.use n1 fun _ _ n2 q2 => q2 n2)

/-! ## statements -/
theorem W.nil {Q : Flow → Heap → Prop} (q : Q .next h) : W z A (execs [] env) h Q := fun _ => wpAny_execs_nil (W.ok q)
theorem W.cons {st : Stmt} {rest : List Stmt} {Q : Flow → Heap → Prop}
    (q : W z A (exec st env) h (fun f h1 => match f with | .next => W z A (execs rest env) h1 Q | f => Q f h1)) : W z A (execs (st :: rest) env) h Q := fun n =>
  wpAny_execs_cons (q.use n fun f _ n1 q1 => by cases f <;> first | exact q1 n1 | exact W.ok q1)
theorem W.ret {e : Expr} {pos : Pos} {Q : Flow → Heap → Prop} (q : W z A (eval e env) h (fun v => Q (.ret v))) : W z A (exec (.Return (some e) pos) env) h Q := fun n =>
  wpAny_Return_some (q.use n fun _ _ _ q1 => W.ok q1)
theorem W.iff {t : Expr} {b o : List Stmt} {pos : Pos} {Q : Flow → Heap → Prop}
    (q : W z A (isTrue t env (eval t env)) h (fun c h1 => if c then W z A (execs b env) h1 Q else W z A (execs o env) h1 Q)) : W z A (exec (.If t b o pos) env) h Q := fun n =>
  wpAny_If (q.use n fun c _ n1 q1 => by cases c <;> exact q1 n1)

/-- a local name is stored -/
theorem W.store {x : Str} {v : Value} {Q : Unit → Heap → Prop} (F : MF h₀ nm env.locals vs h) (i : Nat) (q : ∀ h', MF h₀ nm env.locals (vs.set i (some v)) h' → Heap.SameBut env.locals h h' → Q () h')
    (ok : okName env.scope nm x i = true := by kernel_rfl!) (hi : i < vs.length := by exact Nat.le_of_ble_eq_true rfl) : W z A (storeName env x v) h Q := fun n =>
  have p := okName.parts ok
  wpAny_storeName_local p.2.1 F.ns (fun h' hn hs => W.ok (q h' ⟨by
    obtain ⟨o, es, ep, a, b, c, d⟩ := hn
    exact ⟨o, es, ep, a, b, c, fun y => (d y).trans (lkv_set v p.2.2.2.2 p.2.2.1 hi y)⟩,
    fun a o _ e => (hs.2 a (fun q => by subst q; rw [F.fresh] at e; cases e)).trans (F.keep.get e), F.fresh⟩ hs))
    (by show (env.scope.kind == .class || (env.scope.kind == .module && _)) = false; rw [p.1]; rfl)

theorem W.asg {x : Str} {p' : Pos} {value : Expr} {pos : Pos} {Q : Flow → Heap → Prop} (q : W z A (eval value env) h (fun v h1 => W z A (storeName env x v) h1 (fun _ => Q .next)))
    (hs : swapsWith value (some (.Name x p')) pos.line env = PySem.Sem.pure false := by rfl) : W z A (exec (.Assign [.Name x p'] value pos) env) h Q := fun n =>
  wpAny_Assign_Name (q.use n fun _ _ n1 q1 => q1.use n1 fun _ _ _ q2 => W.ok q2) hs
end
end NN
end

section
open PySem PySem.W PyProof.Rows
set_option linter.unusedVariables false
set_option linter.unusedSimpArgs false
namespace NN
set_option maxRecDepth 10000

theorem lookup_reverse {l : List (Str × Value)} (hn : (l.map (·.1)).Nodup) (x : Str) : l.reverse.lookup x = l.lookup x := by
  induction l with
  | nil => rfl
  | cons p r ih =>
    obtain ⟨y, v⟩ := p
    rw [List.map_cons, List.nodup_cons] at hn
    rw [List.reverse_cons, List.lookup_append, ih hn.2]
    by_cases e : x = y
    · subst e
      have : r.lookup x = none := by
        rw [List.lookup_eq_none_iff]
        intro p hp
        have : p.1 ≠ x := fun q => hn.1 (List.mem_map.mpr ⟨p, hp, q⟩)
        simpa using fun q => this q.symm
      simp [this]
    · have e' : (x == y) = false := by simpa using e
      simp [List.lookup_cons, e']
theorem lkv_none : ∀ (nm : List Str) (n : Nat) (x : Str), lkv nm (List.replicate n none) x = none
  | [], _, _ => by simp [lkv]
  | _ :: _, 0, _ => by simp [lkv]
  | a :: as, n + 1, x => by
    simp only [List.replicate_succ, lkv]
    split
    · rfl
    · exact lkv_none as n x
theorem lkv_zip : ∀ (nm : List Str) (args : List Value) (n : Nat) (x : Str), args.length ≤ nm.length →
    ((nm.take args.length).zip args).lookup x = lkv nm (args.map some ++ List.replicate n none) x
  | nm, [], n, x, _ => by simp [lkv_none]
  | [], _ :: _, _, _, h => by simp at h
  | a :: as, v :: vs, n, x, h => by
    simp only [List.length_cons, List.take_succ_cons, List.zip_cons_cons, List.map_cons, List.cons_append, lkv, List.lookup_cons]
    have ih := lkv_zip as vs n x (by simpa using h)
    by_cases e : x = a
    · subst e; simp
    · have e' : (x == a) = false := by simpa using e
      simp only [e', if_neg e]
      exact ih

noncomputable def retOf : Flow → Value
  | .ret v => v
  | _ => .none

/-- what the def's text has: no cells, no generator, its parameters local -/
noncomputable def okDef (i : Nat) (nm : List Str) (k : Nat) : Bool :=
  (dScope (stD i)).kind == .function && !(dScope (stD i)).isCoroutine && !(dScope (stD i)).isGenerator && (dScope (stD i)).names.all (fun x => !(x.2 == .cell)) &&
    decide nm.Nodup && decide (k ≤ nm.length) && (nm.take k).all (fun x => (dScope (stD i)).names.lookup x == some .local)

noncomputable abbrev envD (i : Nat) (cd pm : Value) (L f : Addr) : Env := callEnv (fnD i cd pm) L f
noncomputable abbrev objD (i : Nat) (cd pm : Value) : Obj := ⟨.type "function", none, .func (fnD i cd pm), #[]⟩

/-! ## the text's defs: address, code, local names -/
theorem lk_order_key (w : World) : (KK w).lookup 39 = some (objD 3 (.ref 38) (.str (Str.ofString "cas.orders") 220)) := by kernel_rfl!
theorem cd_order_key (w : World) : codeIn (KK w) (.ref 38) (dName (stD 3)) = true := by kernel_rfl!
noncomputable def nm_order_key : List Str := [Str.ofString "order", Str.ofString "powers"]
theorem lk_powers_product (w : World) : (KK w).lookup 44 = some (objD 4 (.ref 43) (.str (Str.ofString "cas.orders") 220)) := by kernel_rfl!
theorem cd_powers_product (w : World) : codeIn (KK w) (.ref 43) (dName (stD 4)) = true := by kernel_rfl!
noncomputable def nm_powers_product : List Str := [Str.ofString "a", Str.ofString "b"]
theorem lk_powers_divide (w : World) : (KK w).lookup 51 = some (objD 5 (.ref 50) (.str (Str.ofString "cas.orders") 220)) := by kernel_rfl!
theorem cd_powers_divide (w : World) : codeIn (KK w) (.ref 50) (dName (stD 5)) = true := by kernel_rfl!
noncomputable def nm_powers_divide : List Str := [Str.ofString "a", Str.ofString "b", Str.ofString "at", Str.ofString "one"]
theorem lk_powers_quotient (w : World) : (KK w).lookup 56 = some (objD 6 (.ref 55) (.str (Str.ofString "cas.orders") 220)) := by kernel_rfl!
theorem cd_powers_quotient (w : World) : codeIn (KK w) (.ref 55) (dName (stD 6)) = true := by kernel_rfl!
noncomputable def nm_powers_quotient : List Str := [Str.ofString "a", Str.ofString "b"]
theorem lk_gcd (w : World) : (KK w).lookup 63 = some (objD 8 (.ref 62) (.str (Str.ofString "cas.ints") 250)) := by kernel_rfl!
theorem cd_gcd (w : World) : codeIn (KK w) (.ref 62) (dName (stD 8)) = true := by kernel_rfl!
noncomputable def nm_gcd : List Str := [Str.ofString "a", Str.ofString "b"]
theorem lk_rat (w : World) : (KK w).lookup 71 = some (objD 11 (.ref 70) (.str (Str.ofString "cas.rats") 260)) := by kernel_rfl!
theorem cd_rat (w : World) : codeIn (KK w) (.ref 70) (dName (stD 11)) = true := by kernel_rfl!
noncomputable def nm_rat : List Str := [Str.ofString "top", Str.ofString "bottom", Str.ofString "g"]
theorem lk_radd (w : World) : (KK w).lookup 78 = some (objD 12 (.ref 77) (.str (Str.ofString "cas.rats") 260)) := by kernel_rfl!
theorem cd_radd (w : World) : codeIn (KK w) (.ref 77) (dName (stD 12)) = true := by kernel_rfl!
noncomputable def nm_radd : List Str := [Str.ofString "a", Str.ofString "b"]
theorem lk_rmul (w : World) : (KK w).lookup 85 = some (objD 13 (.ref 84) (.str (Str.ofString "cas.rats") 260)) := by kernel_rfl!
theorem cd_rmul (w : World) : codeIn (KK w) (.ref 84) (dName (stD 13)) = true := by kernel_rfl!
noncomputable def nm_rmul : List Str := [Str.ofString "a", Str.ofString "b"]
theorem lk_rdiv (w : World) : (KK w).lookup 92 = some (objD 14 (.ref 91) (.str (Str.ofString "cas.rats") 260)) := by kernel_rfl!
theorem cd_rdiv (w : World) : codeIn (KK w) (.ref 91) (dName (stD 14)) = true := by kernel_rfl!
noncomputable def nm_rdiv : List Str := [Str.ofString "a", Str.ofString "b"]
theorem lk_rneg (w : World) : (KK w).lookup 99 = some (objD 15 (.ref 98) (.str (Str.ofString "cas.rats") 260)) := by kernel_rfl!
theorem cd_rneg (w : World) : codeIn (KK w) (.ref 98) (dName (stD 15)) = true := by kernel_rfl!
noncomputable def nm_rneg : List Str := [Str.ofString "a"]
theorem lk_rinv (w : World) : (KK w).lookup 106 = some (objD 16 (.ref 105) (.str (Str.ofString "cas.rats") 260)) := by kernel_rfl!
theorem cd_rinv (w : World) : codeIn (KK w) (.ref 105) (dName (stD 16)) = true := by kernel_rfl!
noncomputable def nm_rinv : List Str := [Str.ofString "a"]
theorem lk_rpower (w : World) : (KK w).lookup 113 = some (objD 17 (.ref 112) (.str (Str.ofString "cas.rats") 260)) := by kernel_rfl!
theorem cd_rpower (w : World) : codeIn (KK w) (.ref 112) (dName (stD 17)) = true := by kernel_rfl!
noncomputable def nm_rpower : List Str := [Str.ofString "a", Str.ofString "n"]
theorem lk_mvadd (w : World) : (KK w).lookup 120 = some (objD 19 (.ref 119) (.str (Str.ofString "cas.mvpoly") 320)) := by kernel_rfl!
theorem cd_mvadd (w : World) : codeIn (KK w) (.ref 119) (dName (stD 19)) = true := by kernel_rfl!
noncomputable def nm_mvadd : List Str := [Str.ofString "a", Str.ofString "b", Str.ofString "found", Str.ofString "powers"]
theorem lk_add_term (w : World) : (KK w).lookup 127 = some (objD 20 (.ref 126) (.str (Str.ofString "cas.mvpoly") 320)) := by kernel_rfl!
theorem cd_add_term (w : World) : codeIn (KK w) (.ref 126) (dName (stD 20)) = true := by kernel_rfl!
noncomputable def nm_add_term : List Str := [Str.ofString "found", Str.ofString "powers", Str.ofString "rational", Str.ofString "total"]
theorem lk_mvneg (w : World) : (KK w).lookup 132 = some (objD 21 (.ref 131) (.str (Str.ofString "cas.mvpoly") 320)) := by kernel_rfl!
theorem cd_mvneg (w : World) : codeIn (KK w) (.ref 131) (dName (stD 21)) = true := by kernel_rfl!
noncomputable def nm_mvneg : List Str := [Str.ofString "a"]
theorem lk_mvsub (w : World) : (KK w).lookup 139 = some (objD 22 (.ref 138) (.str (Str.ofString "cas.mvpoly") 320)) := by kernel_rfl!
theorem cd_mvsub (w : World) : codeIn (KK w) (.ref 138) (dName (stD 22)) = true := by kernel_rfl!
noncomputable def nm_mvsub : List Str := [Str.ofString "a", Str.ofString "b"]
theorem lk_mvshift (w : World) : (KK w).lookup 144 = some (objD 23 (.ref 143) (.str (Str.ofString "cas.mvpoly") 320)) := by kernel_rfl!
theorem cd_mvshift (w : World) : codeIn (KK w) (.ref 143) (dName (stD 23)) = true := by kernel_rfl!
noncomputable def nm_mvshift : List Str := [Str.ofString "a", Str.ofString "powers", Str.ofString "rational"]
theorem lk_mvmul (w : World) : (KK w).lookup 151 = some (objD 24 (.ref 150) (.str (Str.ofString "cas.mvpoly") 320)) := by kernel_rfl!
theorem cd_mvmul (w : World) : codeIn (KK w) (.ref 150) (dName (stD 24)) = true := by kernel_rfl!
noncomputable def nm_mvmul : List Str := [Str.ofString "a", Str.ofString "b", Str.ofString "found", Str.ofString "powers", Str.ofString "one"]
theorem lk_mvat (w : World) : (KK w).lookup 158 = some (objD 25 (.ref 157) (.str (Str.ofString "cas.mvpoly") 320)) := by kernel_rfl!
theorem cd_mvat (w : World) : codeIn (KK w) (.ref 157) (dName (stD 25)) = true := by kernel_rfl!
noncomputable def nm_mvat : List Str := [Str.ofString "a", Str.ofString "values", Str.ofString "found", Str.ofString "powers", Str.ofString "product", Str.ofString "at", Str.ofString "many"]
theorem lk_mvlead (w : World) : (KK w).lookup 165 = some (objD 26 (.ref 164) (.str (Str.ofString "cas.mvpoly") 320)) := by kernel_rfl!
theorem cd_mvlead (w : World) : codeIn (KK w) (.ref 164) (dName (stD 26)) = true := by kernel_rfl!
noncomputable def nm_mvlead : List Str := [Str.ofString "a", Str.ofString "order", Str.ofString "best", Str.ofString "highest", Str.ofString "powers", Str.ofString "place"]
theorem lk_first_divisor (w : World) : (KK w).lookup 172 = some (objD 28 (.ref 171) (.str (Str.ofString "cas.mvdiv") 398)) := by kernel_rfl!
theorem cd_first_divisor (w : World) : codeIn (KK w) (.ref 171) (dName (stD 28)) = true := by kernel_rfl!
noncomputable def nm_first_divisor : List Str := [Str.ofString "powers", Str.ofString "leads", Str.ofString "at", Str.ofString "one"]
theorem lk_mvdivide (w : World) : (KK w).lookup 177 = some (objD 29 (.ref 176) (.str (Str.ofString "cas.mvdiv") 398)) := by kernel_rfl!
theorem cd_mvdivide (w : World) : codeIn (KK w) (.ref 176) (dName (stD 29)) = true := by kernel_rfl!
noncomputable def nm_mvdivide : List Str := [Str.ofString "f", Str.ofString "some", Str.ofString "order", Str.ofString "leads", Str.ofString "quotients", Str.ofString "rest", Str.ofString "left", Str.ofString "powers", Str.ofString "rational", Str.ofString "at", Str.ofString "shift", Str.ofString "factor"]
theorem lk_mvexact (w : World) : (KK w).lookup 184 = some (objD 30 (.ref 183) (.str (Str.ofString "cas.mvdiv") 398)) := by kernel_rfl!
theorem cd_mvexact (w : World) : codeIn (KK w) (.ref 183) (dName (stD 30)) = true := by kernel_rfl!
noncomputable def nm_mvexact : List Str := [Str.ofString "a", Str.ofString "b", Str.ofString "quotients", Str.ofString "rest"]
theorem lk_law_take (w : World) : (KK w).lookup 191 = some (objD 32 (.ref 190) (.str (Str.ofString "law_nn0260_01") 426)) := by kernel_rfl!
theorem cd_law_take (w : World) : codeIn (KK w) (.ref 190) (dName (stD 32)) = true := by kernel_rfl!
noncomputable def nm_law_take : List Str := [Str.ofString "box", Str.ofString "wide"]
theorem lk_law_box (w : World) : (KK w).lookup 198 = some (objD 33 (.ref 197) (.str (Str.ofString "law_nn0260_01") 426)) := by kernel_rfl!
theorem cd_law_box (w : World) : codeIn (KK w) (.ref 197) (dName (stD 33)) = true := by kernel_rfl!
noncomputable def nm_law_box : List Str := [Str.ofString "script", Str.ofString "much", Str.ofString "seed", Str.ofString "stirred", Str.ofString "one"]
theorem lk_law_poly (w : World) : (KK w).lookup 203 = some (objD 34 (.ref 202) (.str (Str.ofString "law_nn0260_01") 426)) := by kernel_rfl!
theorem cd_law_poly (w : World) : codeIn (KK w) (.ref 202) (dName (stD 34)) = true := by kernel_rfl!
noncomputable def nm_law_poly : List Str := [Str.ofString "box", Str.ofString "n", Str.ofString "most", Str.ofString "high", Str.ofString "found", Str.ofString "turn", Str.ofString "powers", Str.ofString "number"]
theorem lk_law_sum_right (w : World) : (KK w).lookup 210 = some (objD 35 (.ref 209) (.str (Str.ofString "law_nn0260_01") 426)) := by kernel_rfl!
theorem cd_law_sum_right (w : World) : codeIn (KK w) (.ref 209) (dName (stD 35)) = true := by kernel_rfl!
noncomputable def nm_law_sum_right : List Str := [Str.ofString "f", Str.ofString "some", Str.ofString "quotients", Str.ofString "rest", Str.ofString "point", Str.ofString "total", Str.ofString "number", Str.ofString "at", Str.ofString "one"]
theorem lk_law_leads_right (w : World) : (KK w).lookup 215 = some (objD 36 (.ref 214) (.str (Str.ofString "law_nn0260_01") 426)) := by kernel_rfl!
theorem cd_law_leads_right (w : World) : codeIn (KK w) (.ref 214) (dName (stD 36)) = true := by kernel_rfl!
noncomputable def nm_law_leads_right : List Str := [Str.ofString "f", Str.ofString "some", Str.ofString "quotients", Str.ofString "rest", Str.ofString "order", Str.ofString "leads", Str.ofString "powers", Str.ofString "at", Str.ofString "one", Str.ofString "top"]
theorem lk_law_exact_right (w : World) : (KK w).lookup 222 = some (objD 37 (.ref 221) (.str (Str.ofString "law_nn0260_01") 426)) := by kernel_rfl!
theorem cd_law_exact_right (w : World) : codeIn (KK w) (.ref 221) (dName (stD 37)) = true := by kernel_rfl!
noncomputable def nm_law_exact_right : List Str := [Str.ofString "a", Str.ofString "b", Str.ofString "c", Str.ofString "found"]
theorem lk_law_exact_least (w : World) : (KK w).lookup 229 = some (objD 38 (.ref 228) (.str (Str.ofString "law_nn0260_01") 426)) := by kernel_rfl!
theorem cd_law_exact_least (w : World) : codeIn (KK w) (.ref 228) (dName (stD 38)) = true := by kernel_rfl!
noncomputable def nm_law_exact_least : List Str := [Str.ofString "a", Str.ofString "c", Str.ofString "one"]
theorem lk_law (w : World) : (KK w).lookup 234 = some (objD 39 (.ref 233) (.str (Str.ofString "law_nn0260_01") 426)) := by kernel_rfl!
theorem cd_law (w : World) : codeIn (KK w) (.ref 233) (dName (stD 39)) = true := by kernel_rfl!
noncomputable def nm_law : List Str := [Str.ofString "script", Str.ofString "box", Str.ofString "n", Str.ofString "f", Str.ofString "some", Str.ofString "order", Str.ofString "point", Str.ofString "quotients", Str.ofString "rest"]

section
variable {z : Z} {A : Around} {h : Heap}

theorem mem_zip_fst : ∀ {nm : List Str} {args : List Value} {x : Str × Value}, x ∈ nm.zip args → x.1 ∈ nm
  | [], _, _, h => by simp at h
  | _ :: _, [], _, h => by simp at h
  | a :: as, v :: vs, x, h => by
    rw [List.zip_cons_cons, List.mem_cons] at h
    rcases h with rfl | h
    · exact List.mem_cons_self
    · exact List.mem_cons_of_mem _ (mem_zip_fst h)
theorem zip_fst : ∀ {nm : List Str} {args : List Value}, nm.length = args.length → (nm.zip args).map (·.1) = nm
  | [], [], _ => rfl
  | [], _ :: _, h => by simp at h
  | _ :: _, [], h => by simp at h
  | a :: as, v :: vs, h => by simp [zip_fst (nm := as) (args := vs) (by simpa using h)]

theorem W.def {f : Addr} (i : Nat) {cd pm : Value} {args : List Value} (nm : List Str) {k : Nat} {Q : Value → Heap → Prop} (G : GL z h) (r : Rm A (k + 1))
    (hl : (KK z.w).lookup f = some (objD i cd pm)) (hcd : codeIn (KK z.w) cd (dName (stD i)) = true) (hok : okDef i nm args.length = true)
    (hb : bindArgs (fnD i cd pm) ⟨args, []⟩ = PySem.Sem.pure ((nm.take args.length).zip args))
    (body : ∀ L h₁, MF h nm L (args.map some ++ List.replicate (nm.length - args.length) none) h₁ → Rb (A.deeper (envD i cd pm L f)) k →
      W z (A.deeper (envD i cd pm L f)) (execs (dBody (stD i)) (envD i cd pm L f)) h₁ (fun fl h' => Q (retOf fl) h')) :
    W z A (call (.ref f) args) h Q := fun n => by
  simp only [okDef, Bool.and_eq_true, beq_iff_eq, Bool.not_eq_true', decide_eq_true_eq, List.all_eq_true, beq_eq_false_iff_ne] at hok
  obtain ⟨⟨⟨⟨⟨⟨h1, h2⟩, h3⟩, h4⟩, h5⟩, h6⟩, h7⟩ := hok
  have hz : ((nm.take args.length).zip args).map (·.1) = nm.take args.length := zip_fst (by rw [List.length_take]; omega)
  refine wpAny_call (codeAny_call_def (fd := fnD i cd pm) (body := dBody (stD i)) (binds := (nm.take args.length).zip args) (by have := r.d; omega) (G.k _ _ hl) rfl G.nolimit (codeRec_of G.k hcd) rfl
    (BindsTo.of_eq hb) (fun x hx => by simpa using h4 x hx) (fun x hx => h7 x.1 (mem_zip_fst hx)) (fun h₁ hns hk => ?_) h2 h3 h1)
  have F : MF h nm h.objs.size (args.map some ++ List.replicate (nm.length - args.length) none) h₁ := by
    refine ⟨?_, fun a o _ e => hk a o e, fresh_size h⟩
    obtain ⟨o, es, ep, a, b, c, d⟩ := hns
    exact ⟨o, es, ep, a, b, c, fun y => (d y).trans ((lookup_reverse (by rw [hz]; exact h5.sublist (List.take_sublist _ _)) y).trans (lkv_zip nm args _ y h6))⟩
  have rb : Rb (A.deeper (envD i cd pm h.objs.size f)) k := ⟨r.deeper _, by
    obtain ⟨l, e⟩ := r.f
    exact ⟨envD i cd pm h.objs.size f, l, by simp only [Around.deeper, e]; rfl, h3, h2, rfl, rfl⟩⟩
  refine (body _ _ F rb).use (n + ((nm.take args.length).zip args).length) fun fl h' n' q => ?_
  cases fl <;> exact ⟨h', n', rfl, q⟩

theorem W.callW {f : Addr} {pos : Pos} {e : Expr} {rest : List Expr} {env : Env} {Q : Value → Heap → Prop} {i : Nat} {cd pm : Value}
    (hl : (KK z.w).lookup f = some (objD i cd pm))
    (q : W z A (spliced (backTo pos (starEach (e :: rest) env))) h (fun vs h1 => GL z h1 ∧ W z A (call (.ref f) vs) h1 Q))
    (he : starEach (e :: rest) env = (false, eval e env) :: starEach rest env := by rfl) (hplain : (backTo pos (starEach rest env)).any (·.1) = false := by rfl) :
    W z A (callWith pos (.ref f) [] (backTo pos (starEach (e :: rest) env)) []) h Q := fun n => by
  rw [he] at q ⊢
  refine callWith_of (P := fun h => (KK z.w).In h) (by show ((false || (backTo pos (starEach rest env)).any (·.1)) || false) = false; rw [hplain]; rfl) (fun h1 X => ⟨.frame, .inl rfl, ?_⟩)
    (Calls.evalArgs_plain (q.use n fun vs h1 n1 q1 => ⟨q1.1.k, q1.2 n1⟩))
  exact (Looks.ld (part := none) (X _ _ hl)).andThen .now

/-- a call by a name of the text's own def -/
theorem W.ng {x : Str} {pos : Pos} {env : Env} {Q : Value → Heap → Prop} (G : GL z h) (v : Value) (q : Q v h) (e : nsIn (KK z.w) mainGlobals x = some (some v) := by kernel_rfl!)
    (hg : env.globals = mainGlobals := by rfl) (hk : (env.scope.kind == .function && env.kindOf x == some .globalImplicit && !(x == ("__debug__" : Str))) = true := by kernel_rfl!) : W z A (eval (.Name x pos) env) h Q := fun n => by
  obtain ⟨mg, mb, T⟩ := G.t
  simp only [Bool.and_eq_true, beq_iff_eq, Bool.not_eq_true'] at hk
  exact Calls.Name_function_global hk.1.1 hk.1.2 (Calls.loadGlobal_global (by rw [hg]; exact T.g) (mg_of G.k T.g e) (W.ok q)) hk.2
theorem W.nb {x : Str} {pos : Pos} {env : Env} {Q : Value → Heap → Prop} (G : GL z h) {v : Value} (hv : bootBuiltins x = some v) (q : Q v h) (e : nsIn (KK z.w) mainGlobals x = some none := by kernel_rfl!)
    (hg : env.globals = mainGlobals := by rfl) (hb : env.builtins = builtinsNs := by rfl)
    (hk : (env.scope.kind == .function && env.kindOf x == some .globalImplicit && !(x == ("__debug__" : Str)) && !(x == ("__name__" : Str))) = true := by kernel_rfl!) : W z A (eval (.Name x pos) env) h Q := fun n => by
  obtain ⟨mg, mb, T⟩ := G.t
  simp only [Bool.and_eq_true, beq_iff_eq, Bool.not_eq_true', beq_eq_false_iff_ne] at hk
  exact Calls.Name_function_global hk.1.1.1 hk.1.1.2 (Calls.loadGlobal_builtin (by rw [hg]; exact T.g) (mg_none_of G.k T.g e) (by rw [hb]; exact T.b) ((T.builtins x hk.2).trans hv) (W.ok q)) (by simpa using hk.1.2)
theorem W.callN {x : Str} {p pos : Pos} {args : List Expr} {env : Env} {Q : Value → Heap → Prop}
    (q : W z A (eval (.Name x p) env) h (fun f h1 => W z A (callWith pos f [] (backTo pos (starEach args env)) []) h1 Q)) : W z A (eval (.Call (.Name x p) args [] pos) env) h Q := fun n =>
  Call_Name rfl (q.use n fun _ _ n1 q1 => q1 n1)

/-! ## ints -/
variable {a b : Int} {t u : Tok} {Q : Value → Heap → Prop}
theorem W.add (q : ∀ t, Q (.int (a + b) t) h) : W z A (binaryOp .Add (.int a t) (.int b u)) h Q := fun n => wpAny_add_int (W.ok (q n))
theorem W.subI (q : ∀ t, Q (.int (a - b) t) h) : W z A (binaryOp .Sub (.int a t) (.int b u)) h Q := fun n => SiftDown.sub_int (W.ok (q n))
theorem W.mul (hm : IntMulOk a b) (q : ∀ t, Q (.int (a * b) t) h) : W z A (binaryOp .Mult (.int a t) (.int b u)) h Q := fun n => mul_int (W.ok (q n)) hm
theorem W.neg (q : ∀ t, Q (.int (-a) t) h) : W z A (unaryOp .USub (.int a t)) h Q := fun n => neg_int (W.ok (q n))
theorem W.fdiv {k : Nat} (G : GL z h) (r : Rb A k) (hb : b ≠ 0) (q : ∀ t, Q (.int (a.fdiv b) t) h) : W z A (binaryOp .FloorDiv (.int a t) (.int b u)) h Q := fun n => by
  obtain ⟨e, l, h1, h2, h3, h4, h5⟩ := r.b
  exact floordiv_int hb (W.ok (q n)) (Or.inr (PySem.PylongRoom.of G.nolimit (by have := r.r.d; show A.depth + 100 < _; omega) (PySem.SeerAt.of G.seer rfl h1 h2 h3 h4 h5)))
theorem W.fmod (hb : b ≠ 0) (q : ∀ t, Q (.int (a.fmod b) t) h) : W z A (binaryOp .Mod (.int a t) (.int b u)) h Q := fun n => mod_int' hb (W.ok (q n))
theorem W.pow {m : Int} (hn : 0 ≤ m) (hs : (Builtin.Int.intBits a : Int) * m ≤ 2 ^ 27) (q : ∀ t, Q (.int (a ^ m.toNat) t) h) : W z A (binaryOp .Pow (.int a t) (.int m u)) h Q := fun n => pow_int hn hs (W.ok (q n))
theorem W.absI (q : ∀ t, Q (.int (if a < 0 then -a else a) t) h) : W z A (call (.builtin "abs") [.int a t]) h Q := fun n => call_abs_int fun t tk => ⟨h, tk, rfl, q t⟩
end
end NN
end

section
open PySem PySem.W PyProof.Rows
set_option linter.unusedVariables false
set_option linter.unusedSimpArgs false
namespace NN
set_option maxRecDepth 10000

theorem IsTup.ext {h h' : Heap} {a : Addr} {xs : Array Value} (t : IsTup h a xs) (x : Ext h h') : IsTup h' a xs := t.keeps x.ks
/-- a tuple is no dict: a store into a frame leaves it -/
theorem IsTup.same {h h' : Heap} {a L : Addr} {xs : Array Value} {m : Str → Option Value} (t : IsTup h a xs) (hn : h.Ns L m) (hs : Heap.SameBut L h h') : IsTup h' a xs := by
  obtain ⟨o, ho, hc, n, hd⟩ := t
  obtain ⟨oL, es, ep, hL, hdL, _⟩ := hn
  refine ⟨o, (hs.2 a ?_).trans ho, hc, n, hd⟩
  rintro rfl
  rw [hL] at ho; cases ho; rw [hd] at hdL; cases hdL

section
variable {z : Z} {A : Around} {h h₀ : Heap} {env : Env} {nm : List Str} {vs : List (Option Value)}

theorem W.newTup {xs : List Value} {Q : Value → Heap → Prop} (q : ∀ a h', Ext h h' → IsTup h' a xs.toArray → h.get? a = none → Q (.ref a) h') (hsz : xs.length ≤ sizeLine := by size_fits) : W z A (newTuple xs) h Q := fun n =>
  wpAny_newObj_type (W.ok (n := n) (q _ _ (Ext.push h _) ⟨_, Heap.get?_push_size _ rfl, rfl, 0, rfl⟩ (fresh_size h))) (by show xs.toArray.size ≤ sizeLine; rw [List.size_toArray]; exact hsz)
theorem W.newLst {xs : List Value} {Q : Value → Heap → Prop} (q : ∀ a h', Ext h h' → h'.IsList a xs.toArray → h.get? a = none → Q (.ref a) h') (hsz : xs.length ≤ sizeLine := by size_fits) : W z A (newList xs) h Q := fun n =>
  wpAny_newObj_type (W.ok (n := n) (q _ _ (Ext.push h _) ⟨_, Heap.get?_push_size _ rfl, rfl, 0, rfl⟩ (fresh_size h))) (by show xs.toArray.size ≤ sizeLine; rw [List.size_toArray]; exact hsz)
theorem W.tuple {elts : List Expr} {k : Nat} {pos : Pos} {Q : Value → Heap → Prop} (q : W z A (spliced (backTo pos (starEach elts env))) h (fun xs h1 => W z A (newTuple xs) h1 Q)) : W z A (eval (.Tuple elts k pos) env) h Q := fun n =>
  Tuple_ (q.use n fun _ _ n1 q1 => q1 n1)
theorem W.list {elts : List Expr} {pos : Pos} {Q : Value → Heap → Prop} (q : W z A (spliced (backTo pos (starEach elts env))) h (fun xs h1 => W z A (newList xs) h1 Q)) : W z A (eval (.List elts pos) env) h Q := fun n =>
  List_ (q.use n fun _ _ n1 q1 => q1 n1)

/-- an item of a tuple at a written place -/
theorem W.tupC {value slice : Expr} {t : Addr} {xs : List Value} {u : Tok} {x : Value} {Q : Value → Heap → Prop} (j : Nat) (ht : IsTup h t xs.toArray) (q : Q x h) (hx : xs[j]? = some x := by rfl) (hj : j < 2 ^ 62 := by decide)
    (hs : subscripted slice false (.ref t) (.int (j : Int) u) = operate [.ref t, .int (j : Int) u] (getItem (.ref t) (.int (j : Int) u)) := by rfl) :
    W z A (subscriptTail value slice (.ref t) (.int (j : Int) u)) h Q := fun n =>
  item_tupleT ht (by omega) (by omega) (j := j) (by
    have hlt := (List.getElem?_eq_some_iff.mp hx).1
    have h0 : ¬ ((j : Int) < 0) := by omega
    have h1 : (decide ((0 : Int) ≤ (j : Int)) && decide ((j : Int) < (xs.length : Int))) = true := by simp; omega
    unfold seqIndex?
    rw [if_neg h0]
    show (if (decide ((0 : Int) ≤ (j : Int)) && decide ((j : Int) < (xs.length : Int))) = true then _ else _) = _
    rw [if_pos h1]; rfl) hx (W.ok q) hs

theorem W.tup0 {value slice : Expr} {t : Addr} {x y : Value} {u : Tok} {Q : Value → Heap → Prop} (ht : IsTup h t #[x, y]) (q : Q x h)
    (hs : subscripted slice false (.ref t) (.int 0 u) = operate [.ref t, .int 0 u] (getItem (.ref t) (.int 0 u)) := by rfl) :
    W z A (subscriptTail value slice (.ref t) (.int 0 u)) h Q := W.tupC (xs := [x, y]) 0 ht q rfl (by decide) hs
theorem W.tup1 {value slice : Expr} {t : Addr} {x y : Value} {u : Tok} {Q : Value → Heap → Prop} (ht : IsTup h t #[x, y]) (q : Q y h)
    (hs : subscripted slice false (.ref t) (.int 1 u) = operate [.ref t, .int 1 u] (getItem (.ref t) (.int 1 u)) := by rfl) :
    W z A (subscriptTail value slice (.ref t) (.int 1 u)) h Q := W.tupC (xs := [x, y]) 1 ht q rfl (by decide) hs

theorem W.ltI {a b : Int} {t u : Tok} {Q : Value → Heap → Prop} (q : Q (.bool (decide (a < b))) h) : W z A (compareOp .Lt (.int a t) (.int b u)) h Q := fun n => PyProof.Rows.lt_int (W.ok q)
theorem W.gtI {a b : Int} {t u : Tok} {Q : Value → Heap → Prop} (q : Q (.bool (decide (b < a))) h) : W z A (compareOp .Gt (.int a t) (.int b u)) h Q := fun n => PyProof.Rows.gt_int (W.ok q)
theorem W.eqI {a b : Int} {t u : Tok} {Q : Value → Heap → Prop} (q : Q (.bool (a == b)) h) : W z A (compareOp .Eq (.int a t) (.int b u)) h Q := fun n => PyProof.Rows.eq_int (W.ok q)
theorem W.neI {a b : Int} {t u : Tok} {Q : Value → Heap → Prop} (q : Q (.bool (a != b)) h) : W z A (compareOp .NotEq (.int a t) (.int b u)) h Q := fun n => PyProof.Rows.ne_int (W.ok q)

/-- x, y = a display -/
theorem W.asg2 {elts k tpos value pos} {x y : Str} {Q : Flow → Heap → Prop} {l : Nat} (r : Rm A l)
    (q : W z A (eval value env) h (fun v h1 => ∃ t a b, v = .ref t ∧ IsTup h1 t #[a, b] ∧ ∀ h2, Ext h1 h2 → W z A (storeName env y b) h2 (fun _ h3 => W z A (storeName env x a) h3 (fun _ => Q .next))))
    (hw : swappedStores [.Tuple elts k tpos] value env = PySem.Sem.pure (some [x, y])) (hs : swapsWithSole [.Tuple elts k tpos] value pos.line env = PySem.Sem.pure false := by rfl) :
    W z A (exec (.Assign [.Tuple elts k tpos] value pos) env) h Q := fun n =>
  Assign_Tuple_swapped (names := [x, y]) (q.use n fun v h1 n1 q1 => by
    obtain ⟨t, a, b, rfl, ht, q1⟩ := q1
    refine unpackItems_tuple (items := #[a, b]) r.h ht fun h2 he => ?_
    have e := Ext.ofNew he
    show wpAny _ _ (do PySem.holding [a] (bindName env y b); (do PySem.holding [] (bindName env x a); Pure.pure ())) _ _ _
    refine wpAny_bind (wpAny_holding (wpAny_bindName ((q1 h2 e).use n1 fun _ h3 n3 q3 => ?_)))
    exact wpAny_bind (wpAny_holding (wpAny_bindName (q3.use n3 fun _ _ _ q4 => wpAny_pure (W.ok q4))))) hs hw

theorem W.whl {test body orelse pos} {Q : Flow → Heap → Prop} (I : Nat → Heap → Prop)
    (turn : ∀ n h, I n h → W z A (isTrue test env (eval test env)) h (fun b h2 =>
        if b then W z A (execs body env) h2 (fun f h3 => match f with
            | .next | .cont => ∃ m, m < n ∧ I m h3
            | .brk => Q .next h3
            | .ret v => Q (.ret v) h3)
        else W z A (execs orelse env) h2 Q)) (n : Nat) (h0 : I n h) : W z A (exec (.While test body orelse pos) env) h Q := fun k =>
  wpAny_While (codeAny_whileLoop (fun n s => ∃ h' k', s = at_ z h' k' ∧ I n h') (fun n s hI => by
    obtain ⟨h', k', rfl, hI⟩ := hI
    refine (turn n h' hI).use k' fun b h2 k2 q2 => ?_
    cases b with
    | true =>
      simp only [if_true] at q2 ⊢
      refine q2.use k2 fun f h3 k3 q3 => ?_
      cases f with
      | next => obtain ⟨m, hm, hI⟩ := q3; exact ⟨m, hm, h3, k3, rfl, hI⟩
      | cont => obtain ⟨m, hm, hI⟩ := q3; exact ⟨m, hm, h3, k3, rfl, hI⟩
      | brk => exact W.ok q3
      | ret v => exact W.ok q3
    | false =>
      simp only [Bool.false_eq_true, if_false] at q2 ⊢
      exact q2.use k2 fun f h3 k3 q3 => W.ok q3) n ⟨h, k, rfl, h0⟩)
end

/-! ## the plain defs of rationals -/
theorem boot_abs : bootBuiltins "abs" = some (.builtin "abs") := by decide +kernel

section
variable {z : Z} {A : Around} {h : Heap}
theorem W.callB {id : String} {pos : Pos} {e : Expr} {rest : List Expr} {env : Env} {first : List Value} {Q : Value → Heap → Prop}
    (q : W z A (spliced (backTo pos (starEach (e :: rest) env))) h (fun vs h1 => W z A (call (.builtin id) (first ++ vs)) h1 Q))
    (he : starEach (e :: rest) env = (false, eval e env) :: starEach rest env := by rfl) (hplain : (backTo pos (starEach rest env)).any (·.1) = false := by rfl) :
    W z A (callWith pos (.builtin id) first (backTo pos (starEach (e :: rest) env)) []) h Q := fun n => by
  rw [he] at q ⊢
  exact Calls.callWith_builtin (by show (false || (backTo pos (starEach rest env)).any (·.1)) = false; rw [hplain]; rfl) (Calls.evalArgs_plain (q.use n fun vs h1 n1 q1 => q1 n1))

theorem gcd_W {a b : Int} {t u : Tok} {k : Nat} {Q : Value → Heap → Prop} (G : GL z h) (r : Rm A (k + 3)) (q : ∀ h' t, Ext h h' → Q (.int (Int.gcd a b) t) h') : W z A (call (.ref 63) [.int a t, .int b u]) h Q := by
  refine W.def 8 nm_gcd G r (lk_gcd _) (cd_gcd _) (by kernel_rfl!) (by kernel_rfl!) fun L h₁ F R => ?_
  have r' := R.r
  have G' := G.ext F.keep
  refine W.cons (W.asg2 (x := Str.ofString "a") (y := Str.ofString "b") r' (W.tuple (W.sp (W.callN (W.nb G' boot_abs (W.callB (W.sp (W.nl F 0 (W.sp0 (W.absI fun t1 => ?_))))))) )) (by kernel_rfl!))
  refine W.sp (W.callN (W.nb G' boot_abs (W.callB (W.sp (W.nl F 1 (W.sp0 (W.absI fun t2 => ?_)))))))
  refine W.sp0 (W.newTup (fun a' h2 e2 T2 _ => ⟨_, _, _, rfl, T2, fun h3 e3 => ?_⟩))
  refine W.store ((F.ext e2).ext e3) 1 fun h4 F4 _ => W.store F4 0 fun h5 F5 _ => ?_
  refine W.cons (W.whl (fun n h' => ∃ a' b' t u, MF h nm_gcd L [some (.int a' t), some (.int b' u)] h' ∧ 0 ≤ a' ∧ 0 ≤ b' ∧ Int.gcd a' b' = Int.gcd a b ∧ n = b'.toNat) (fun n h6 I => ?_) _
    ⟨_, _, _, _, F5, by split <;> omega, by split <;> omega, by split <;> split <;> simp, rfl⟩)
  obtain ⟨a', b', t, u, F6, ha, hb, hg, rfl⟩ := I
  refine W.tcmp (W.nl F6 1 (W.cint fun _ => W.neI (W.tb ?_)))
  by_cases hz : b' = 0
  · subst hz
    refine W.nil (W.cons (W.ret (W.nl F6 0 ?_)))
    have : a' = (Int.gcd a b : Int) := by rw [← hg]; simp; omega
    rw [this]
    exact q _ _ F6.keep
  · have hne : (b' != 0) = true := by simpa using hz
    rw [if_pos hne]
    refine W.cons (W.asg2 (x := Str.ofString "a") (y := Str.ofString "b") r' (W.tuple (W.sp (W.nl F6 1 (W.sp (W.bin (W.nl F6 0 (W.nl F6 1 (W.fmod hz fun t1 => ?_)))))))) (by kernel_rfl!))
    refine W.sp0 (W.newTup (fun a2 h2 e2 T2 _ => ⟨_, _, _, rfl, T2, fun h3 e3 => ?_⟩))
    refine W.store ((F6.ext e2).ext e3) 1 fun h4 F4 _ => W.store F4 0 fun h5 F5 _ => ?_
    refine W.nil ⟨_, ?_, _, _, _, _, F5, hb, ?_, ?_, rfl⟩
    · rw [Int.fmod_eq_emod_of_nonneg _ hb]; have := Int.emod_lt_of_pos a' (b := b') (by omega); have := Int.emod_nonneg a' hz; omega
    · exact Int.fmod_nonneg ha hb
    · rw [← hg, Int.fmod_eq_emod_of_nonneg _ hb]
      unfold Int.gcd
      rw [Int.natAbs_emod_of_nonneg ha, Nat.gcd_comm, ← Nat.gcd_rec, Nat.gcd_comm]
end
end NN
end

section
open PySem PySem.W PyProof.Rows
set_option linter.unusedVariables false
set_option linter.unusedSimpArgs false
namespace NN
set_option maxRecDepth 10000

/-! ## sizes of rationals -/
noncomputable abbrev bl (n : Int) : Nat := Builtin.Int.intBits n
theorem bl_le {n : Int} {k : Nat} : bl n ≤ k ↔ n.natAbs < 2 ^ k := by
  unfold bl Builtin.Int.intBits
  by_cases h : n = 0
  · subst h; simp [Nat.two_pow_pos]
  · have h' : (n == 0) = false := by simpa using h
    rw [h']
    simp only [Bool.false_eq_true, if_false]
    rw [← Nat.log2_lt (by omega)]
    omega
theorem bl_lt (n : Int) : n.natAbs < 2 ^ bl n := bl_le.mp (Nat.le_refl _)
theorem bl_mul (a b : Int) : bl (a * b) ≤ bl a + bl b := by
  rw [bl_le, Int.natAbs_mul, Nat.pow_add]
  exact Nat.mul_lt_mul'' (bl_lt a) (bl_lt b)
theorem bl_add (a b : Int) {k : Nat} (ha : bl a ≤ k) (hb : bl b ≤ k) : bl (a + b) ≤ k + 1 := by
  rw [bl_le] at *
  rw [Nat.pow_succ]; omega
theorem bl_ediv {a b : Int} {k : Nat} (h : bl a ≤ k) (hb : 0 ≤ b) : bl (a / b) ≤ k := by
  rw [bl_le] at *
  refine Nat.lt_of_le_of_lt ?_ h
  exact Int.natAbs_ediv_le_natAbs a b
theorem mulOk {a b : Int} (h : bl a + bl b ≤ 2 ^ 27) : IntMulOk a b := by
  unfold IntMulOk
  simp only [Bool.and_eq_true, decide_eq_true_eq, not_and]
  intro _ 
  have : ¬ (Builtin.Int.intTooBig ((bl a : Int) + (bl b : Int)) = true) := by
    unfold Builtin.Int.intTooBig bitsLine
    simp only [decide_eq_true_eq]
    have : ((2 ^ 27 : Nat) : Int) = 134217728 := by decide
    omega
  exact this

noncomputable def sz (q : Rat) : Nat := max (bl q.num) (bl q.den)
theorem sz_num (q : Rat) : bl q.num ≤ sz q := Nat.le_max_left _ _
theorem sz_den (q : Rat) : bl q.den ≤ sz q := Nat.le_max_right _ _
theorem sz_divInt {a b : Int} {k : Nat} (ha : bl a ≤ k) (hb : bl b ≤ k) (h1 : 1 ≤ k) : sz (Rat.divInt a b) ≤ k := by
  unfold sz
  refine Nat.max_le.mpr ⟨?_, ?_⟩
  · rw [Rat.num_divInt]
    refine bl_ediv ?_ (by omega)
    rw [bl_le] at *
    rw [Int.natAbs_mul]
    rcases Int.lt_trichotomy b 0 with h | h | h
    · rw [Int.sign_eq_neg_one_of_neg h]; simpa using ha
    · subst h; simp [Nat.two_pow_pos]
    · rw [Int.sign_eq_one_of_pos h]; simpa using ha
  · rw [Rat.den_divInt]
    rw [bl_le] at *
    split
    · show 1 < 2 ^ k
      calc 1 < 2 ^ 1 := by decide
        _ ≤ 2 ^ k := Nat.pow_le_pow_right (by decide) h1
    · show (((b.natAbs / b.gcd a : Nat) : Int)).natAbs < 2 ^ k
      simp only [Int.natAbs_natCast]
      exact Nat.lt_of_le_of_lt (Nat.div_le_self _ _) hb
theorem sz_pos (q : Rat) : 1 ≤ sz q := by
  have h := sz_den q
  have := q.den_pos
  rcases Nat.lt_or_ge (sz q) 1 with h1 | h1
  · have : bl (q.den : Int) ≤ 0 := by omega
    rw [bl_le] at this
    simp at this
    omega
  · exact h1
theorem sz_add (p q : Rat) : sz (p + q) ≤ sz p + sz q + 1 := by
  rw [show p + q = Rat.divInt (p.num * q.den + q.num * p.den) (p.den * q.den) by
    rw [← Rat.divInt_add_divInt _ _ (by have := p.den_nz; omega) (by have := q.den_nz; omega), Rat.num_divInt_den, Rat.num_divInt_den]]
  refine sz_divInt (bl_add _ _ ?_ ?_) ?_ (by omega)
  · exact Nat.le_trans (bl_mul _ _) (Nat.add_le_add (sz_num p) (sz_den q))
  · have := bl_mul q.num p.den; have := sz_num q; have := sz_den p; omega
  · have := bl_mul p.den q.den; have := sz_den q; have := sz_den p; omega
theorem mul_eq (p q : Rat) : p * q = Rat.divInt (p.num * q.num) (p.den * q.den) := by
  rw [← Rat.divInt_mul_divInt, Rat.num_divInt_den, Rat.num_divInt_den]
theorem sz_mul (p q : Rat) : sz (p * q) ≤ sz p + sz q := by
  rw [mul_eq]
  have := sz_pos p
  refine sz_divInt ?_ ?_ (by omega)
  · exact Nat.le_trans (bl_mul _ _) (Nat.add_le_add (sz_num p) (sz_num q))
  · exact Nat.le_trans (bl_mul _ _) (Nat.add_le_add (sz_den p) (sz_den q))
theorem div_eq (p q : Rat) : p / q = Rat.divInt (p.num * q.den) (p.den * q.num) := by
  rw [Rat.div_def, Rat.inv_def, ← Rat.divInt_mul_divInt, Rat.num_divInt_den]
theorem sz_div (p q : Rat) : sz (p / q) ≤ sz p + sz q := by
  rw [div_eq]
  have := sz_pos p
  refine sz_divInt ?_ ?_ (by omega)
  · exact Nat.le_trans (bl_mul _ _) (Nat.add_le_add (sz_num p) (sz_den q))
  · exact Nat.le_trans (bl_mul _ _) (Nat.add_le_add (sz_den p) (sz_num q))
theorem bl_neg (n : Int) : bl (-n) = bl n := by
  unfold bl Builtin.Int.intBits
  by_cases h : n = 0
  · subst h; rfl
  · have h1 : (n == 0) = false := by simpa using h
    have h2 : (-n == 0) = false := by simp; omega
    rw [h1, h2, Int.natAbs_neg]
theorem sz_neg (q : Rat) : sz (-q) = sz q := by
  unfold sz; rw [Rat.neg_num, Rat.neg_den, bl_neg]
theorem sz_pow (q : Rat) (n : Nat) : sz (q ^ n) ≤ sz q * n + 1 := by
  induction n with
  | zero => rw [Rat.pow_zero, Nat.mul_zero]; exact (show sz 1 ≤ 1 by decide +kernel)
  | succ n ih =>
    rw [Rat.pow_succ]
    have := sz_mul (q ^ n) q
    rw [Nat.mul_succ]; omega

/-! ## rationals on the heap -/
noncomputable def RatAt (h : Heap) (v : Value) (q : Rat) : Prop := ∃ a t u, v = .ref a ∧ IsTup h a #[.int q.num t, .int (q.den : Int) u]
theorem RatAt.ext {h h' : Heap} {v : Value} {q : Rat} (x : RatAt h v q) (e : Ext h h') : RatAt h' v q := let ⟨a, t, u, r, T⟩ := x; ⟨a, t, u, r, IsTup.ext T e⟩
theorem RatAt.same {h h' : Heap} {L : Addr} {v : Value} {q : Rat} {m : Str → Option Value} (x : RatAt h v q) (hn : h.Ns L m) (hs : Heap.SameBut L h h') : RatAt h' v q := let ⟨a, t, u, r, T⟩ := x; ⟨a, t, u, r, IsTup.same T hn hs⟩

section
variable {z : Z} {A : Around} {h : Heap}
theorem rat_W {a b : Int} {t u : Tok} {k : Nat} {Q : Value → Heap → Prop} (G : GL z h) (r : Rm A (k + 4)) (hb : b ≠ 0) (q : ∀ h' v, Ext h h' → RatAt h' v (Rat.divInt a b) → Q v h') : W z A (call (.ref 71) [.int a t, .int b u]) h Q := by
  refine W.def 11 nm_rat G r (lk_rat _) (cd_rat _) (by kernel_rfl!) (by kernel_rfl!) fun L h₁ F R => ?_
  have r' := R.r
  have G' := G.ext F.keep
  have hb' : (b == 0) = false := by simpa using hb
  refine W.cons (W.iff (W.tcmp (W.nl F 1 (W.cint fun _ => W.eqI (W.tb ?_)))))
  rw [hb', if_neg Bool.false_ne_true]
  refine W.nil ?_
  have fin : ∀ (g : Int) h1, Ext h₁ h1 → g ≠ 0 → a.fdiv g = (Rat.divInt a b).num → b.fdiv g = (Rat.divInt a b).den → ∀ t1, 
      W z (A.deeper (envD 11 (.ref 70) (.str (Str.ofString "cas.rats") 260) L 71)) (storeName (envD 11 (.ref 70) (.str (Str.ofString "cas.rats") 260) L 71) (Str.ofString "g") (.int g t1)) h1 (fun _ h2 => 
        W z (A.deeper (envD 11 (.ref 70) (.str (Str.ofString "cas.rats") 260) L 71)) (execs (((dBody (stD 11)).drop 2)) (envD 11 (.ref 70) (.str (Str.ofString "cas.rats") 260) L 71)) h2 (fun fl h' => Q (retOf fl) h')) := by
    intro g h1 e1 hg h3 h4 t1
    refine W.store (F.ext e1) 2 fun h2 F2 _ => ?_
    have G2 := G.ext F2.keep
    refine W.cons (W.ret (W.tuple (W.sp (W.bin (W.nl F2 0 (W.nl F2 2 (W.fdiv G2 R hg fun t2 => ?_)))))))
    refine W.sp (W.bin (W.nl F2 1 (W.nl F2 2 (W.fdiv G2 R hg fun t3 => W.sp0 (W.newTup fun a' h' e' T _ => q h' _ (F2.keep.trans e') ?_)))))
    rw [h3, h4] at T
    exact ⟨_, _, _, rfl, T⟩
  have hG : (b.gcd a : Int) ≠ 0 := by
    have := Int.gcd_pos_of_ne_zero_left a hb
    omega
  have hGc : Int.gcd a b = b.gcd a := Int.gcd_comm _ _
  have da : (b.gcd a : Int) ∣ a := Int.gcd_dvd_right _ _
  have db : (b.gcd a : Int) ∣ b := Int.gcd_dvd_left _ _
  refine W.cons (W.asg (W.ifx (W.tcmp (W.nl F 1 (W.cint fun _ => W.gtI (W.tb ?_))))))
  by_cases hp : 0 < b
  · rw [decide_eq_true hp]
    simp only [if_true]
    refine W.callN (W.ng G' (.ref 63) (W.callW (lk_gcd _) (W.sp (W.nl F 0 (W.sp (W.nl F 1 (W.sp0 ⟨G', gcd_W (k := k) G' r' fun h1 t1 e1 => ?_⟩)))))))
    refine fin _ h1 e1 (by rw [hGc]; exact hG) ?_ ?_ _
    · rw [Rat.num_divInt, Int.sign_eq_one_of_pos hp, Int.one_mul, hGc, Int.fdiv_eq_ediv_of_nonneg _ (by omega)]
    · rw [Rat.den_divInt, if_neg hb, hGc, Int.fdiv_eq_ediv_of_nonneg _ (by omega), Int.natCast_ediv]
      congr 1; omega
  · rw [decide_eq_false hp]
    simp only [Bool.false_eq_true, if_false]
    refine W.bin (W.cint fun _ => W.callN (W.ng G' (.ref 63) (W.callW (lk_gcd _) (W.sp (W.nl F 0 (W.sp (W.nl F 1 (W.sp0 ⟨G', gcd_W (k := k) G' r' fun h1 t1 e1 => W.subI fun t2 => ?_⟩))))))))
    have hn : b < 0 := by omega
    refine fin _ h1 e1 (by rw [hGc]; omega) ?_ ?_ _
    · rw [Rat.num_divInt, Int.sign_eq_neg_one_of_neg hn, hGc, Int.zero_sub, Int.fdiv_eq_ediv_of_dvd (Int.neg_dvd.mpr da), Int.ediv_neg, Int.neg_mul, Int.one_mul, Int.neg_ediv_of_dvd da]
    · rw [Rat.den_divInt, if_neg hb, hGc, Int.zero_sub, Int.fdiv_eq_ediv_of_dvd (Int.neg_dvd.mpr db), Int.ediv_neg, Int.natCast_ediv, ← Int.neg_ediv_of_dvd db]
      congr 1; omega
end
end NN
end

section
open PySem PySem.W PyProof.Rows
set_option linter.unusedVariables false
set_option linter.unusedSimpArgs false
namespace NN
set_option maxRecDepth 10000
section
variable {z : Z} {A : Around} {h : Heap}
theorem add_eq (p q : Rat) : p + q = Rat.divInt (p.num * q.den + q.num * p.den) (p.den * q.den) := by
  rw [← Rat.divInt_add_divInt _ _ (by have := p.den_nz; omega) (by have := q.den_nz; omega), Rat.num_divInt_den, Rat.num_divInt_den]

theorem radd_W {va vb : Value} {p q : Rat} {k : Nat} {Q : Value → Heap → Prop} (G : GL z h) (r : Rm A (k + 5)) (ha : RatAt h va p) (hb : RatAt h vb q) (hs : sz p + sz q ≤ 2 ^ 27)
    (c : ∀ h' v, Ext h h' → RatAt h' v (p + q) → Q v h') : W z A (call (.ref 78) [va, vb]) h Q := by
  refine W.def 12 nm_radd G r (lk_radd _) (cd_radd _) (by kernel_rfl!) (by kernel_rfl!) fun L h₁ F R => ?_
  have G' := G.ext F.keep
  obtain ⟨a, t, u, rfl, Ta⟩ := ha.ext F.keep
  obtain ⟨b, t', u', rfl, Tb⟩ := hb.ext F.keep
  have := sz_num p; have := sz_den p; have := sz_num q; have := sz_den q
  refine W.cons (W.ret (W.callN (W.ng G' (.ref 71) (W.callW (lk_rat _) (W.sp (W.bin (W.bin (W.sub (W.nl F 0 (W.cint fun _ => W.tup0 Ta ?_)))))))))) 
  refine W.sub (W.nl F 1 (W.cint fun _ => W.tup1 Tb (W.mul (mulOk (by omega)) fun t1 => ?_)))
  refine W.bin (W.sub (W.nl F 1 (W.cint fun _ => W.tup0 Tb (W.sub (W.nl F 0 (W.cint fun _ => W.tup1 Ta (W.mul (mulOk (by omega)) fun t2 => W.add fun t3 => ?_)))))))
  refine W.sp (W.bin (W.sub (W.nl F 0 (W.cint fun _ => W.tup1 Ta (W.sub (W.nl F 1 (W.cint fun _ => W.tup1 Tb (W.mul (mulOk (by omega)) fun t2 => ?_))))))))
  refine W.sp0 ⟨G', rat_W (k := k) G' R.r ?_ fun h' v e Rv => c h' v (F.keep.trans e) ?_⟩
  · have := p.den_pos; have := q.den_pos
    exact Int.mul_ne_zero (by omega) (by omega)
  · rw [add_eq]; exact Rv

theorem rmul_W {va vb : Value} {p q : Rat} {k : Nat} {Q : Value → Heap → Prop} (G : GL z h) (r : Rm A (k + 5)) (ha : RatAt h va p) (hb : RatAt h vb q) (hs : sz p + sz q ≤ 2 ^ 27)
    (c : ∀ h' v, Ext h h' → RatAt h' v (p * q) → Q v h') : W z A (call (.ref 85) [va, vb]) h Q := by
  refine W.def 13 nm_rmul G r (lk_rmul _) (cd_rmul _) (by kernel_rfl!) (by kernel_rfl!) fun L h₁ F R => ?_
  have G' := G.ext F.keep
  obtain ⟨a, t, u, rfl, Ta⟩ := ha.ext F.keep
  obtain ⟨b, t', u', rfl, Tb⟩ := hb.ext F.keep
  have := sz_num p; have := sz_den p; have := sz_num q; have := sz_den q
  refine W.cons (W.ret (W.callN (W.ng G' (.ref 71) (W.callW (lk_rat _) (W.sp (W.bin (W.sub (W.nl F 0 (W.cint fun _ => W.tup0 Ta ?_))))))))) 
  refine W.sub (W.nl F 1 (W.cint fun _ => W.tup0 Tb (W.mul (mulOk (by omega)) fun t1 => ?_)))
  refine W.sp (W.bin (W.sub (W.nl F 0 (W.cint fun _ => W.tup1 Ta (W.sub (W.nl F 1 (W.cint fun _ => W.tup1 Tb (W.mul (mulOk (by omega)) fun t2 => ?_))))))))
  refine W.sp0 ⟨G', rat_W (k := k) G' R.r ?_ fun h' v e Rv => c h' v (F.keep.trans e) ?_⟩
  · have := p.den_pos; have := q.den_pos
    exact Int.mul_ne_zero (by omega) (by omega)
  · rw [mul_eq]; exact Rv

theorem rdiv_W {va vb : Value} {p q : Rat} {k : Nat} {Q : Value → Heap → Prop} (G : GL z h) (r : Rm A (k + 5)) (ha : RatAt h va p) (hb : RatAt h vb q) (hs : sz p + sz q ≤ 2 ^ 27) (hq : q ≠ 0)
    (c : ∀ h' v, Ext h h' → RatAt h' v (p / q) → Q v h') : W z A (call (.ref 92) [va, vb]) h Q := by
  refine W.def 14 nm_rdiv G r (lk_rdiv _) (cd_rdiv _) (by kernel_rfl!) (by kernel_rfl!) fun L h₁ F R => ?_
  have G' := G.ext F.keep
  obtain ⟨a, t, u, rfl, Ta⟩ := ha.ext F.keep
  obtain ⟨b, t', u', rfl, Tb⟩ := hb.ext F.keep
  have := sz_num p; have := sz_den p; have := sz_num q; have := sz_den q
  refine W.cons (W.ret (W.callN (W.ng G' (.ref 71) (W.callW (lk_rat _) (W.sp (W.bin (W.sub (W.nl F 0 (W.cint fun _ => W.tup0 Ta ?_))))))))) 
  refine W.sub (W.nl F 1 (W.cint fun _ => W.tup1 Tb (W.mul (mulOk (by omega)) fun t1 => ?_)))
  refine W.sp (W.bin (W.sub (W.nl F 0 (W.cint fun _ => W.tup1 Ta (W.sub (W.nl F 1 (W.cint fun _ => W.tup0 Tb (W.mul (mulOk (by omega)) fun t2 => ?_))))))))
  refine W.sp0 ⟨G', rat_W (k := k) G' R.r ?_ fun h' v e Rv => c h' v (F.keep.trans e) ?_⟩
  · have := p.den_pos
    exact Int.mul_ne_zero (by omega) (by rw [Ne, Rat.num_eq_zero]; exact hq)
  · rw [div_eq]; exact Rv

theorem rneg_W {va : Value} {p : Rat} {k : Nat} {Q : Value → Heap → Prop} (G : GL z h) (r : Rm A (k + 1)) (ha : RatAt h va p) 
    (c : ∀ h' v, Ext h h' → RatAt h' v (-p) → Q v h') : W z A (call (.ref 99) [va]) h Q := by
  refine W.def 15 nm_rneg G r (lk_rneg _) (cd_rneg _) (by kernel_rfl!) (by kernel_rfl!) fun L h₁ F R => ?_
  obtain ⟨a, t, u, rfl, Ta⟩ := ha.ext F.keep
  refine W.cons (W.ret (W.tuple (W.sp (W.bin (W.cint fun _ => W.sub (W.nl F 0 (W.cint fun _ => W.tup0 Ta (W.subI fun t1 => ?_))))))))
  refine W.sp (W.sub (W.nl F 0 (W.cint fun _ => W.tup1 Ta (W.sp0 (W.newTup fun a' h' e T _ => c h' _ (F.keep.trans e) ?_)))))
  rw [Int.zero_sub, ← Rat.neg_num, ← Rat.neg_den] at T
  exact ⟨_, _, _, rfl, T⟩

theorem rpower_W {va : Value} {p : Rat} {m : Nat} {t : Tok} {k : Nat} {Q : Value → Heap → Prop} (G : GL z h) (r : Rm A (k + 1)) (ha : RatAt h va p) (hs : sz p * m ≤ 2 ^ 27)
    (c : ∀ h' v, Ext h h' → RatAt h' v (p ^ m) → Q v h') : W z A (call (.ref 113) [va, .int (m : Int) t]) h Q := by
  refine W.def 17 nm_rpower G r (lk_rpower _) (cd_rpower _) (by kernel_rfl!) (by kernel_rfl!) fun L h₁ F R => ?_
  obtain ⟨a, t, u, rfl, Ta⟩ := ha.ext F.keep
  have h0 : decide ((m : Int) < 0) = false := by simp
  refine W.cons (W.iff (W.tcmp (W.nl F 1 (W.cint fun _ => W.ltI (W.tb ?_)))))
  rw [h0, if_neg Bool.false_ne_true]
  refine W.nil ?_
  have hp : ∀ x : Int, bl x ≤ sz p → ((bl x : Nat) : Int) * (m : Int) ≤ 2 ^ 27 := fun x hx => by
    have := Nat.le_trans (Nat.mul_le_mul_right m hx) hs
    rw [← Int.natCast_mul]
    have h27 : ((2 : Int) ^ 27) = ((2 ^ 27 : Nat) : Int) := by decide
    rw [h27]; omega
  refine W.cons (W.ret (W.tuple (W.sp (W.bin (W.sub (W.nl F 0 (W.cint fun _ => W.tup0 Ta (W.nl F 1 (W.pow (by omega) (hp _ (sz_num p)) fun t1 => ?_)))))))))
  refine W.sp (W.bin (W.sub (W.nl F 0 (W.cint fun _ => W.tup1 Ta (W.nl F 1 (W.pow (by omega) (hp _ (sz_den p)) fun t2 => W.sp0 (W.newTup fun a' h' e T _ => c h' _ (F.keep.trans e) ?_)))))))
  exact ⟨_, t1, t2, rfl, by rw [Rat.num_pow, Rat.den_pow]; simpa using T⟩
end
end NN
end

section
open PySem PySem.W PyProof.Rows
set_option linter.unusedVariables false
set_option linter.unusedSimpArgs false
namespace NN
set_option maxRecDepth 100000
open AutoSeq1 (wpAny_loadPart')

theorem istup_iff {h : Heap} {a : Addr} {xs : Array Value} : h.IsTuple a xs ↔ IsTup h a xs := Iff.rfl

/-! ## enumerate over a tuple -/
section
variable {prog : Program} {w : World} {A : Around} {E : Value → Shared → Prop} {s : Shared}

theorem nextOf_tup_item {it t : Addr} {i : Nat} {items : Array Value} {x : Value} {Q : Value → Shared → Prop} (hit : s.heap.IsTupleIter it t i) (ht : s.heap.IsTuple t items) (hx : items[i]? = some x)
    (hQ : ∀ h', h'.IsTupleIter it t (i + 1) → Heap.SameBut it s.heap h' → Q x { s with heap := h' }) : wpAny (model prog w) A (Builtin.SmallTypes.nextOf (.ref it)) Q E s := by
  obtain ⟨o, ho, hc, hd⟩ := id hit
  obtain ⟨ot, hot, _, nt, hdt⟩ := ht
  unfold Builtin.SmallTypes.nextOf
  refine wpAny_bind (wpAny_callSpecial?_slot (name := Str.ofString "__next__") hit.typeIs F.slot_tuple_iterator_next
    (wpAny_call_entry F.slot_tuple_iterator_next hit.typeIs F.entry_tuple_iterator_next ?_ (F.args_tuple_iterator_next_1 _)))
  show wpAny _ _ (field (.ref it) 0 >>= _) _ _ s
  refine wpAny_bind (wpAny_field ho hd (x := .ref t) rfl ?_)
  show wpAny _ _ (if (Value.ref t == Value.none) = true then _ else _) _ _ s
  rw [if_neg (show ¬ ((Value.ref t == Value.none) = true) from Bool.false_ne_true)]
  show wpAny _ _ (field (.ref it) 1 >>= _) _ _ s
  refine wpAny_bind (wpAny_field ho hd (x := .int i 0) rfl ?_)
  show wpAny _ _ (seqItems? (.ref t) >>= _) _ _ s
  refine wpAny_bind (wpAny_seqItems hot hdt ?_)
  simp only [Int.toNat_natCast, hx]
  refine wpAny_bind (wpAny_setField ho hd (by simp) (wpAny_pure ⟨x, rfl, wpAny_pure (hQ _ ?_ (Heap.SameBut.update ..))⟩))
  exact ⟨_, Heap.get?_update_self _ ho (Obj.isFreed_of_fields (Obj.data_mapFields hd _)), (Obj.cls_mapFields ..).trans hc, by
    rw [Obj.data_mapFields hd]; simp [rawInt]⟩

theorem nextOf_tup_end {it t : Addr} {i : Nat} {items : Array Value} {Q : Value → Shared → Prop} (hh : A.handled = none) (hit : s.heap.IsTupleIter it t i) (ht : s.heap.IsTuple t items) (hx : items[i]? = none)
    (hE : ∀ h' e, Heap.ExtBut it s.heap h' → (∃ o, h'.get? e = some o ∧ o.cls = .type "StopIteration") → E (.ref e) { s with heap := h' }) :
    wpAny (model prog w) A (Builtin.SmallTypes.nextOf (.ref it)) Q E s := by
  obtain ⟨o, ho, hc, hd⟩ := id hit
  obtain ⟨ot, hot, _, nt, hdt⟩ := ht
  unfold Builtin.SmallTypes.nextOf
  refine wpAny_bind (wpAny_callSpecial?_slot (name := Str.ofString "__next__") hit.typeIs F.slot_tuple_iterator_next
    (wpAny_call_entry F.slot_tuple_iterator_next hit.typeIs F.entry_tuple_iterator_next ?_ (F.args_tuple_iterator_next_1 _)))
  show wpAny _ _ (field (.ref it) 0 >>= _) _ _ s
  refine wpAny_bind (wpAny_field ho hd (x := .ref t) rfl ?_)
  show wpAny _ _ (if (Value.ref t == Value.none) = true then _ else _) _ _ s
  rw [if_neg (show ¬ ((Value.ref t == Value.none) = true) from Bool.false_ne_true)]
  show wpAny _ _ (field (.ref it) 1 >>= _) _ _ s
  refine wpAny_bind (wpAny_field ho hd (x := .int i 0) rfl ?_)
  show wpAny _ _ (seqItems? (.ref t) >>= _) _ _ s
  refine wpAny_bind (wpAny_seqItems hot hdt ?_)
  simp only [Int.toNat_natCast, hx]
  refine wpAny_bind (wpAny_rule (wpAny_bind (wpAny_setField ho hd (by simp) ?_)))
  show wpAny _ _ (newExc (.type "StopIteration") [] >>= _) _ _ _
  refine wpAny_bind ?_
  simp only [newExc, newTuple]
  refine wpAny_bind (wpAny_newObj_type ?_ (by size_fits))
  refine wpAny_bind (m := firstArgMember _ _) (wpAny_of_eq (a := Value.none) (by first | rfl | (simp only [firstArgMember]; rfl)) ?_)
  refine wpAny_newObj_type ?_ (by size_fits)
  simp only [raiseNew]
  refine wpAny_bind (wpAny_handled ?_)
  first | rw [show A.in1.handled = none from hh] | rw [hh]
  refine wpAny_bind (wpAny_pure (wpAny_throw ?_))
  exact hE _ _ (((Heap.SameBut.update ..).extBut.push _).push _) ⟨_, Heap.get?_push_size _ rfl, rfl⟩

theorem drawsTup (hh : A.handled = none) (it l : Addr) (hne : l ≠ it) (items : Array Value) :
    Draws prog w A it [it, l] items.size (fun i v => items[i]? = some v) (fun i h => h.IsTupleIter it l i ∧ h.IsTuple l items) where
  live := fun _ _ st => let ⟨o, ho, _⟩ := st.1; ⟨o, ho⟩
  frame := fun _ _ _ st hk => ⟨st.1.at fun o e => hk it (by simp) o e, st.2.at fun o e => hk l (by simp) o e⟩
  item := fun i s Q E hi st hQ => by
    refine nextOf_tup_item st.1 st.2 (x := items[i]) (by simp [hi]) fun h' hit' hs' => ?_
    exact hQ _ h' s.toks (by simp [hi]) ⟨hit', st.2.extBut hs'.extBut hne⟩ hs'
  done := fun s Q E st hE => nextOf_tup_end hh st.1 st.2 (by simp) hE

theorem meets_enum_tup (l : Addr) (items : Array Value) (n : Nat) (dct : Option Addr) (sl : Array (Option Value)) :
    Meets (Builtin.«enumerate.__new__» ⟨[.type "enumerate", .ref l], []⟩) (fun _ R s => s.heap.get? l = some { cls := .type "tuple", dict := dct, data := .seq items n, slots := sl } ∧
      R (.ok (.ret (.ref (s.heap.push { cls := .type "tuple_iterator", data := .fields #[.ref l, .int 0 0] }).objs.size)))
        { s with heap := (s.heap.push { cls := .type "tuple_iterator", data := .fields #[.ref l, .int 0 0] }).push { cls := .type "enumerate", data := .fields #[.none, .bool false, .ref s.heap.objs.size, rawInt 0, .none, .none] } }) :=
  .of_wp fun prog w A R s h => by
    obtain ⟨hp, g, d, tk, os⟩ := s; obtain ⟨hl, h⟩ := h
    have hsub := sub_enumerate
    have hL : Heap.IsTuple (Shared.heap ⟨hp, g, d, tk, os⟩) l items := ⟨_, hl, rfl, n, rfl⟩
    wp_walk using wpAny_loadPart' hl
    refine wpAny_stack_any fun st => wpAny_pure ?_
    split
    · rename_i c _ _ _ _ _
      cases (c == Value.type "enumerate")
      · wp_walk using wpAny_loadPart' hl, wpAny_pyIter_tuple hL
        exact ⟨_, rfl, h⟩
      · wp_walk using wpAny_loadPart' hl, wpAny_pyIter_tuple hL
        exact ⟨_, rfl, h⟩
    · wp_walk using wpAny_loadPart' hl, wpAny_pyIter_tuple hL
      exact ⟨_, rfl, h⟩

theorem call_enum_tup {l : Addr} {items : Array Value} {Q : Value → Shared → Prop} (hL : s.heap.IsTuple l items)
    (h : ∀ h', IsEnum h' (s.heap.objs.size + 1) s.heap.objs.size 0 .none → h'.IsTupleIter s.heap.objs.size l 0 →
      (∀ b o, s.heap.get? b = some o → h'.get? b = some o) → Q (.ref (s.heap.objs.size + 1)) { s with heap := h' }) :
    wpAny (model prog w) A (call (.type "enumerate") [.ref l]) Q E s := by
  obtain ⟨⟨c, dct, dt, sl⟩, hl, hc, n, hd⟩ := hL
  replace hc : c = .type "tuple" := hc
  replace hd : dt = .seq items n := hd
  subst hc hd
  refine callType_new F.called_enumerate (by decide) (F.typeCall_enumerate_1 _) (F.newCall_enumerate_1 _) (fun obj => F.args_object_init_2 obj _) F.entry_enumerate_new
    (meets_enum_tup l items n dct sl) ⟨hl, ?_⟩
  have hz : (s.heap.push { cls := .type "tuple_iterator", data := .fields #[.ref l, .int 0 0] }).objs.size = s.heap.objs.size + 1 := Heap.size_push ..
  show _ ∧ _
  rw [hz]
  have he : IsEnum ((s.heap.push { cls := .type "tuple_iterator", data := .fields #[.ref l, .int 0 0] }).push
      { cls := .type "enumerate", data := .fields #[.none, .bool false, .ref s.heap.objs.size, rawInt 0, .none, .none] }) (s.heap.objs.size + 1) s.heap.objs.size 0 .none := by
    have := Heap.get?_push_size (s.heap.push { cls := .type "tuple_iterator", data := .fields #[.ref l, .int 0 0] })
      (o := { cls := .type "enumerate", data := .fields #[.none, .bool false, .ref s.heap.objs.size, rawInt 0, .none, .none] }) rfl
    rw [hz] at this; exact this
  exact ⟨⟨_, he, rfl⟩, h _ he ⟨_, Heap.get?_push_of_some _ (Heap.get?_push_size _ rfl), rfl, rfl⟩ fun b o x => Heap.get?_push_of_some _ (Heap.get?_push_of_some _ x)⟩
end

/-! ## the keys of a dict, whatever they are -/
/-- the dict's object, written raw -/
noncomputable def DRaw (h : Heap) (d : Addr) (es : Array DictEntry) (ep : Nat) : Prop := ∃ o, h.get? d = some o ∧ o.ExactDict ∧ o.data = .dict es ep
theorem DRaw.typeIs {s : Shared} {d : Addr} {es ep} (x : DRaw s.heap d es ep) : s.TypeIs (.ref d) "dict" := let ⟨o, ho, hc, _⟩ := x; ⟨o, ho, hc.1⟩
theorem DRaw.at {h h' : Heap} {d : Addr} {es ep} (x : DRaw h d es ep) (e : ∀ o, h.get? d = some o → h'.get? d = some o) : DRaw h' d es ep := let ⟨o, ho, r⟩ := x; ⟨o, e o ho, r⟩

section
variable {prog : Program} {w : World} {A : Around} {E : Value → Shared → Prop} {s : Shared}
theorem iter_raw {d : Addr} {es : Array DictEntry} {ep : Nat} {Q : Value → Shared → Prop} (hd : (d == sysModules) = false) (hm : DRaw s.heap d es ep)
    (hQ : Q (.ref s.heap.objs.size) { s with heap := s.heap.push { cls := .type "dict_keyiterator", data := .fields #[.ref d, .int 0 0, .int es.size 0, .int ep 0] } }) :
    wpAny (model prog w) A (pyIter (.ref d)) Q E s := by
  have hT := hm.typeIs
  obtain ⟨o, ho, hc, hdat⟩ := hm
  refine wpAny_pyIter_slot hT F.slot_dict_iter (wpAny_call_entry F.slot_dict_iter hT F.entry_dict_iter ?_ (F.args_dict_iter_1 _))
  unfold Builtin.«dict.__iter__»
  refine wpAny_bind ?_
  unfold Builtin.Dict.dictSlotNone
  refine wpAny_bind (wpAny_notOrdered_dict hT ?_)
  show wpAny _ _ (pure (Value.ref d)) _ _ s
  refine wpAny_pure ?_
  show wpAny _ _ (Builtin.Dict.showsAll d >>= _) _ _ s
  unfold Builtin.Dict.showsAll
  rw [if_neg (by rw [hd]; exact Bool.false_ne_true)]
  refine wpAny_bind (wpAny_pure ?_)
  refine wpAny_bind (wpAny_dictEntries ho hdat ?_)
  refine wpAny_bind (wpAny_dictEpoch ho hdat ?_)
  refine wpAny_bind (wpAny_newObj_type (wpAny_pure ⟨_, rfl, "dict_keyiterator", _, ⟨_, Heap.get?_push_size _ rfl, rfl⟩, F.slot_dict_keyiterator_next.lookup, ?_⟩))
  simpa [rawInt] using hQ

theorem next_raw_item {it d : Addr} {i ep : Nat} {es : Array DictEntry} {e : DictEntry} {Q : Option Value → Shared → Prop} (hit : s.heap.IsKeyIter it d i es.size ep) (hm : DRaw s.heap d es ep) (hx : es[i]? = some e)
    (hQ : ∀ h', h'.IsKeyIter it d (i + 1) es.size ep → Heap.SameBut it s.heap h' → Q (some e.key) { s with heap := h' }) : wpAny (model prog w) A (pyNext (.ref it)) Q E s := by
  obtain ⟨o, ho, hc, hd⟩ := id hit
  obtain ⟨od, hod, hcd, hdd⟩ := id hm
  unfold pyNext
  refine wpAny_bind (wpAny_attempt (wpAny_callSpecial?_slot (name := Str.ofString "__next__") hit.typeIs F.slot_dict_keyiterator_next
    (wpAny_call_entry F.slot_dict_keyiterator_next hit.typeIs F.entry_dict_keyiterator_next ?_ (F.args_dict_keyiterator_next_1 _))))
  refine wpAny_bind (wpAny_pure ?_)
  refine wpAny_bind ?_
  refine wpAny_bind ?_
  first | refine wpAny_bind (wpAny_typeNameOfWhole_keyiter hit.typeIs (wpAny_pure ?_)) | refine wpAny_bind (wpAny_typeNameOf_keyiter hit.typeIs (wpAny_pure ?_))
  refine wpAny_bind (wpAny_fieldsOf ho hd ?_)
  have hown : Builtin.Dict_items.ownsTuple "dict_keyiterator" = false := by decide
  simp only [hown, Bool.false_eq_true, if_false]
  show wpAny _ _ (if (Value.ref d == Value.none) = true then _ else _) _ _ s
  rw [if_neg (show ¬ ((Value.ref d == Value.none) = true) from Bool.false_ne_true)]
  refine wpAny_bind (wpAny_pure ?_)
  refine wpAny_bind (wpAny_dictEntries hod hdd ?_)
  rw [if_neg (by simp)]
  refine wpAny_bind (wpAny_pure ?_)
  refine wpAny_bind (wpAny_dictEpoch hod hdd ?_)
  rw [if_neg (by simp)]
  refine wpAny_pure ?_
  simp only [show ¬ ((i : Int) < 0) from by omega, if_false, Int.toNat_natCast, hx]
  refine wpAny_bind ?_
  first | refine wpAny_bind (wpAny_typeNameOfWhole_keyiter hit.typeIs (wpAny_pure ?_)) | refine wpAny_bind (wpAny_typeNameOf_keyiter hit.typeIs (wpAny_pure ?_))
  refine wpAny_bind (wpAny_isOneOf_keyiter hit.typeIs ?_)
  show wpAny _ _ (setField (.ref it) 1 (rawInt ((i : Int) + 1)) >>= _) _ _ s
  refine wpAny_bind (wpAny_setField ho hd (by simp) ?_)
  have hit' : (s.heap.update it (Obj.mapFields (·.setIfInBounds 1 (rawInt ((i : Int) + 1))))).IsKeyIter it d (i + 1) es.size ep :=
    ⟨_, Heap.get?_update_self _ ho (Obj.isFreed_of_fields (Obj.data_mapFields hd _)), (Obj.cls_mapFields ..).trans hc, by rw [Obj.data_mapFields hd]; simp [rawInt]⟩
  refine wpAny_bind (wpAny_holding ?_)
  refine wpAny_bind (wpAny_isOneOf_keyiter (s := { s with heap := s.heap.update it (Obj.mapFields (·.setIfInBounds 1 (rawInt ((i : Int) + 1)))) }) hit'.typeIs ?_)
  show wpAny _ _ (pure e.key) _ _ _
  exact wpAny_pure (wpAny_pure ⟨_, rfl, wpAny_pure (hQ _ hit' (Heap.SameBut.update ..))⟩)

theorem next_raw_end {it d : Addr} {i ep : Nat} {es : Array DictEntry} {Q : Option Value → Shared → Prop} (hh : A.handled = none) (hit : s.heap.IsKeyIter it d i es.size ep) (hm : DRaw s.heap d es ep) (hx : es[i]? = none)
    (hQ : ∀ h', Heap.ExtBut it s.heap h' → Q none { s with heap := h' }) : wpAny (model prog w) A (pyNext (.ref it)) Q E s := by
  obtain ⟨o, ho, hc, hd⟩ := id hit
  obtain ⟨od, hod, hcd, hdd⟩ := id hm
  unfold pyNext
  refine wpAny_bind (wpAny_attempt (wpAny_callSpecial?_slot (name := Str.ofString "__next__") hit.typeIs F.slot_dict_keyiterator_next
    (wpAny_call_entry F.slot_dict_keyiterator_next hit.typeIs F.entry_dict_keyiterator_next ?_ (F.args_dict_keyiterator_next_1 _))))
  refine wpAny_bind (wpAny_pure ?_)
  refine wpAny_bind ?_
  refine wpAny_bind ?_
  first | refine wpAny_bind (wpAny_typeNameOfWhole_keyiter hit.typeIs (wpAny_pure ?_)) | refine wpAny_bind (wpAny_typeNameOf_keyiter hit.typeIs (wpAny_pure ?_))
  refine wpAny_bind (wpAny_fieldsOf ho hd ?_)
  have hown : Builtin.Dict_items.ownsTuple "dict_keyiterator" = false := by decide
  simp only [hown, Bool.false_eq_true, if_false]
  show wpAny _ _ (if (Value.ref d == Value.none) = true then _ else _) _ _ s
  rw [if_neg (show ¬ ((Value.ref d == Value.none) = true) from Bool.false_ne_true)]
  refine wpAny_bind (wpAny_pure ?_)
  refine wpAny_bind (wpAny_dictEntries hod hdd ?_)
  rw [if_neg (by simp)]
  refine wpAny_bind (wpAny_pure ?_)
  refine wpAny_bind (wpAny_dictEpoch hod hdd ?_)
  rw [if_neg (by simp)]
  refine wpAny_pure ?_
  simp only [show ¬ ((i : Int) < 0) from by omega, if_false, Int.toNat_natCast, hx]
  refine wpAny_bind ?_
  first | refine wpAny_bind (wpAny_typeNameOfWhole_keyiter hit.typeIs (wpAny_pure ?_)) | refine wpAny_bind (wpAny_typeNameOf_keyiter hit.typeIs (wpAny_pure ?_))
  show wpAny _ _ (setField (.ref it) 0 .none >>= _) _ _ s
  refine wpAny_bind (wpAny_setField ho hd (by simp) ?_)
  show wpAny _ _ (newExc (.type "StopIteration") [] >>= _) _ _ _
  refine wpAny_bind ?_
  simp only [newExc, newTuple]
  refine wpAny_bind (wpAny_newObj_type ?_ (by size_fits))
  refine wpAny_bind (m := firstArgMember _ _) (wpAny_of_eq (a := Value.none) (by first | rfl | (simp only [firstArgMember]; rfl)) ?_)
  refine wpAny_newObj_type ?_ (by size_fits)
  simp only [raiseNew]
  refine wpAny_bind (wpAny_handled ?_)
  rw [show A.in1.handled = none from hh]
  refine wpAny_bind (wpAny_pure (wpAny_throw ?_))
  refine wpAny_bind (wpAny_isInstance (T := "StopIteration") (b := true) ⟨_, Heap.get?_push_size _ rfl, rfl⟩ isSubtype_stop ?_)
  exact wpAny_pure (hQ _ (((Heap.SameBut.update ..).extBut.push _).push _))

theorem isKeyIter_at {h h' : Heap} {it d i n ep} (x : h.IsKeyIter it d i n ep) (e : ∀ o, h.get? it = some o → h'.get? it = some o) : h'.IsKeyIter it d i n ep := let ⟨o, ho, r⟩ := x; ⟨o, e o ho, r⟩
theorem walksKeys (hh : A.handled = none) (I d : Addr) (hne : d ≠ I) (es : Array DictEntry) (ep : Nat) {tg : Expr} (htg : ∀ elts k pos, tg ≠ .Tuple elts k pos) (htl : ∀ elts pos, tg ≠ .List elts pos) :
    W.KTurns prog w A tg I [I, d] [I] es.size (fun i v _ => (es[i]?).map (·.key) = some v) (fun i v h => (es[i]?).map (·.key) = some v ∧ h.IsKeyIter I d (i + 1) es.size ep ∧ DRaw h d es ep)
      (fun i h => h.IsKeyIter I d i es.size ep ∧ DRaw h d es ep) where
  sub := fun b hb => by rw [List.mem_singleton.mp hb]; exact List.mem_cons_self
  frame := fun i h h' st hk => ⟨isKeyIter_at st.1 fun o e => hk I (by simp) o e, st.2.at fun o e => hk d (by simp) o e⟩
  item := fun i s Q E hi st hQ => next_raw_item st.1 st.2 (e := es[i]) (by simp [hi]) fun h' hit hs =>
    hQ _ h' s.toks ⟨by simp [hi], hit, st.2.at fun o e => (hs.2 d hne).trans e⟩ fun b o hb e => (hs.2 b (by simpa using hb)).trans e
  go := fun i v s Q E hm hQ => by
    have e : letOwnedTupleGo tg (.ref I) v = pure () := by
      unfold letOwnedTupleGo
      split
      · exact absurd rfl (htg _ _ _)
      · exact absurd rfl (htl _ _)
      · rfl
    rw [e]
    exact wpAny_pure (hQ s.heap hm.1 hm.2 fun _ _ _ e => e)
  done := fun s Q E st hQ => next_raw_end hh st.1 st.2 (by simp) fun h' he => hQ h' s.toks fun b o hb e => he b o (by simpa using hb) e
end
end NN
end

section
open PySem PySem.W PyProof.Rows
set_option linter.unusedVariables false
set_option linter.unusedSimpArgs false
namespace NN
set_option maxRecDepth 10000

theorem fresh_ge (h : Heap) (a : Addr) (ha : h.objs.size ≤ a) : h.get? a = none := by
  cases e : h.get? a with
  | none => rfl
  | some o => exact absurd (Heap.lt_size e) (Nat.not_lt.mpr ha)

noncomputable abbrev Turns (z : Z) (A : Around) (tg : Expr) (I : Addr) (fp wr : List Addr) (n : Nat) (P Md : Nat → Value → Heap → Prop) (St : Nat → Heap → Prop) : Prop := W.KTurns Pr z.w A tg I fp wr n P Md St

/-- the loop over the iterator it, from the heap h -/
noncomputable def Loop (z : Z) (A : Around) (tg : Expr) (body : List Stmt) (env : Env) (it : Value) (h : Heap) (Q : Flow → Heap → Prop) : Prop :=
  ∀ n, codeAny (model Pr z.w) A (.forLoop tg it body [] env) (fun r s' => match r with | .ok f => ∃ h' n', s' = at_ z h' n' ∧ Q f h' | .error _ => False) (at_ z h n)

section
variable {z : Z} {A : Around} {h : Heap} {env : Env}
theorem W.forS {tg iter : Expr} {body : List Stmt} {pos : Pos} {Q : Flow → Heap → Prop}
    (q : W z A (eval iter env) h (fun x h1 => W z A (pyIter x) h1 (fun it h2 => Loop z A tg body env it h2 Q)))
    (hs : ∀ x, foldedSetIterable iter env x = PySem.Sem.pure x := by intro _; rfl) : W z A (exec (.For tg iter body [] pos) env) h Q := fun n =>
  wpAny_For (q.use n fun x h1 n1 q1 => q1.use n1 fun it h2 n2 q2 => codeAny_mono (q2 n2) fun r s' hr => by cases r with | ok f => exact hr | error e => exact hr.elim) hs

theorem Loop.intro {tg : Expr} {body : List Stmt} {I : Addr} {fp wr : List Addr} {n : Nat} {P Md : Nat → Value → Heap → Prop} {St : Nat → Heap → Prop} {Q : Flow → Heap → Prop}
    (K : Turns z A tg I fp wr n P Md St) (J : Nat → Heap → Prop) (hst : St 0 h) (h0 : J 0 h) (hJ : ∀ i h h', J i h → Keep (· ∈ wr) h h' → J i h')
    (step : ∀ i v h1, i < n → P i v h1 → J i h1 → W z A (assign tg env v) h1 (fun _ h2 => W z A (execs body env) h2 (fun f h3 => match f with
      | .next | .cont => J (i + 1) h3 ∧ (∀ b ∈ fp, ∀ o, h1.get? b = some o → h3.get? b = some o)
      | .brk => Q .next h3
      | .ret v => Q (.ret v) h3)))
    (hQ : ∀ h', J n h' → Q .next h') : Loop z A tg body env (.ref I) h Q := fun n0 => by
  refine codeAny_forLoop_any (fun k s => ∃ i h' n', s = at_ z h' n' ∧ i ≤ n ∧ k = n - i ∧ St i h' ∧ J i h') (fun k s hI => ?_) n ⟨0, h, n0, rfl, Nat.zero_le _, rfl, hst, h0⟩
  obtain ⟨i, h', n', rfl, hi, rfl, st, j⟩ := hI
  by_cases hlt : i < n
  · refine K.item i _ _ _ hlt st fun v h1 tk hMd hk => ?_
    refine K.go i v _ _ _ hMd fun h2 hP st2 hk2 => ?_
    have kk : Keep (· ∈ wr) h' h2 := fun b o hb e => hk2 b o hb (hk b o hb e)
    refine (step i v h2 hlt hP (hJ i h' h2 j kk)).use tk fun _ h3 n3 q3 => ?_
    refine q3.use n3 fun f h4 n4 q4 => ?_
    cases f with
    | next => exact ⟨n - (i + 1), by omega, i + 1, h4, n4, rfl, hlt, rfl, K.frame _ _ _ st2 fun b hb o e => q4.2 b hb o e, q4.1⟩
    | cont => exact ⟨n - (i + 1), by omega, i + 1, h4, n4, rfl, hlt, rfl, K.frame _ _ _ st2 fun b hb o e => q4.2 b hb o e, q4.1⟩
    | brk => exact W.ok q4
    | ret v => exact W.ok q4
  · have e : i = n := by omega
    subst e
    refine K.done _ _ _ st fun h1 tk hk => wpAny_execs_nil ?_
    exact ⟨h1, tk, rfl, hQ h1 (hJ _ h' h1 j fun b o hb e => hk b o hb e)⟩

theorem W.asgN {x : Str} {pos : Pos} {v : Value} {Q : Unit → Heap → Prop} (q : W z A (storeName env x v) h Q) : W z A (assign (.Name x pos) env v) h Q := fun n => wpAny_assign_Name (q n)
/-- a pair unpacked into two targets -/
theorem W.asgP {t1 t2 : Expr} {k : Nat} {pos : Pos} {T : Addr} {a b : Value} {l : Nat} {Q : Unit → Heap → Prop} (r : Rm A l) (hT : IsTup h T #[a, b])
    (q : ∀ h1, Ext h h1 → W z A (assign t1 env a) h1 (fun _ h2 => W z A (assign t2 env b) h2 Q))
    (he : assignEach [t1, t2] env = [(false, assign t1 env), (false, assign t2 env)] := by rfl) : W z A (assign (.Tuple [t1, t2] k pos) env (.ref T)) h Q := fun n => by
  refine assign_Tuple_tuple r.h (items := #[a, b]) hT (by rw [he]; rfl) (by rw [he]; rfl) fun h1 e1 => ?_
  rw [he]
  show wpAny _ _ (do PySem.holding [b] (assign t1 env a); (do PySem.holding [] (assign t2 env b); Pure.pure ())) _ _ _
  refine wpAny_bind (wpAny_holding ((q h1 (Ext.ofNew e1)).use n fun _ h2 n2 q2 => ?_))
  exact wpAny_bind (wpAny_holding (q2.use n2 fun _ h3 n3 q3 => wpAny_pure (W.ok q3)))
theorem W.asgT {elts k tpos value pos} {Q : Flow → Heap → Prop} (q : W z A (eval value env) h (fun v h1 => W z A (assign (.Tuple elts k tpos) env v) h1 (fun _ => Q .next)))
    (hs : swapsWithSole [.Tuple elts k tpos] value pos.line env = PySem.Sem.pure false := by rfl) (hw : swappedStores [.Tuple elts k tpos] value env = PySem.Sem.pure none := by rfl) :
    W z A (exec (.Assign [.Tuple elts k tpos] value pos) env) h Q := fun n => Assign_Tuple (q.use n fun _ _ n1 q1 => q1.use n1 fun _ _ _ q2 => W.ok q2) hs hw
theorem W.cont {pos : Pos} {Q : Flow → Heap → Prop} (q : Q .cont h) : W z A (exec (.Continue pos) env) h Q := fun _ => SiftDown.continue_ (W.ok q)

/-! ## iterators made -/
theorem W.iterList {l : Addr} {items : Array Value} {Q : Value → Heap → Prop} (hl : h.IsList l items) (q : ∀ I h', Ext h h' → h.get? I = none → h'.IsListIter I l 0 → Q (.ref I) h') : W z A (pyIter (.ref l)) h Q := fun n =>
  wpAny_pyIter_list hl (W.ok (q _ _ (Ext.push h _) (fresh_size h) ⟨_, Heap.get?_push_size _ rfl, rfl, rfl⟩))
theorem W.iterTup {l : Addr} {items : Array Value} {Q : Value → Heap → Prop} (hl : IsTup h l items) (q : ∀ I h', Ext h h' → h.get? I = none → h'.IsTupleIter I l 0 → Q (.ref I) h') : W z A (pyIter (.ref l)) h Q := fun n =>
  wpAny_pyIter_tuple (s := at_ z h n) hl (W.ok (q _ _ (Ext.push h _) (fresh_size h) ⟨_, Heap.get?_push_size _ rfl, rfl, rfl⟩))
theorem W.iterDict {d : Addr} {es : Array DictEntry} {ep : Nat} {Q : Value → Heap → Prop} (hd : (d == sysModules) = false) (hl : DRaw h d es ep) (q : ∀ I h', Ext h h' → h.get? I = none → h'.IsKeyIter I d 0 es.size ep → Q (.ref I) h') : W z A (pyIter (.ref d)) h Q := fun n =>
  iter_raw (s := at_ z h n) hd hl (W.ok (q _ _ (Ext.push h _) (fresh_size h) ⟨_, Heap.get?_push_size _ rfl, rfl, rfl⟩))
theorem W.enumTup {l : Addr} {items : Array Value} {Q : Value → Heap → Prop} (hl : IsTup h l items) (q : ∀ e I h', Ext h h' → h.get? e = none → h.get? I = none → e ≠ I → IsEnum h' e I 0 .none → h'.IsTupleIter I l 0 → Q (.ref e) h') :
    W z A (call (.type "enumerate") [.ref l]) h Q := fun n =>
  call_enum_tup (s := at_ z h n) hl fun h' he hi hk => W.ok (q _ _ h' (Ext.of hk) (fresh_ge h _ (Nat.le_succ _)) (fresh_size h) (Nat.succ_ne_self _) he hi)
theorem W.enumList {l : Addr} {items : Array Value} {Q : Value → Heap → Prop} (hl : h.IsList l items) (q : ∀ e I h', Ext h h' → h.get? e = none → h.get? I = none → e ≠ I → IsEnum h' e I 0 .none → h'.IsListIter I l 0 → Q (.ref e) h') :
    W z A (call (.type "enumerate") [.ref l]) h Q := fun n =>
  call_enumerate_list (s := at_ z h n) hl fun h' he hi _ hk => W.ok (q _ _ h' (Ext.of hk) (fresh_ge h _ (Nat.le_succ _)) (fresh_size h) (Nat.succ_ne_self _) he hi)
theorem W.iterEnum {e it : Addr} {i : Int} {old : Value} {Q : Value → Heap → Prop} (he : IsEnum h e it i old) (q : Q (.ref e) h) : W z A (pyIter (.ref e)) h Q := fun n => wpAny_pyIter_enum (s := at_ z h n) he (W.ok q)

theorem turnsEnumTup {elts : List Expr} {k : Nat} {pos : Pos} (hh : A.handled = none) (e it l : Addr) (hei : e ≠ it) (hle : l ≠ e) (hli : l ≠ it) (items : Array Value) :
    Turns z A (.Tuple elts k pos) e [e, it, l] [e, it] items.size
      (fun i v h => ∃ T vals, v = .ref T ∧ (∃ t x, items[i]? = some x ∧ vals = #[.int (i : Int) t, x]) ∧ h.IsTuple T vals)
      (fun i v h => ∃ T vals, v = .ref T ∧ (∃ t x, items[i]? = some x ∧ vals = #[.int (i : Int) t, x]) ∧ h.IsTuple T vals ∧ ((∃ x, IsEnumOut h e it ((i : Int) + 1) x T) ∧ (h.IsTupleIter it l (i + 1) ∧ h.IsTuple l items) ∧ T ≠ e ∧ T ≠ it))
      (fun i h => (∃ old, IsEnum h e it (i : Int) old) ∧ (h.IsTupleIter it l i ∧ h.IsTuple l items)) :=
  W.KTurns.ofWalksU (WalksT.enumerateD (drawsTup (A := A.in1) hh it l hli items) e hei (by simp [hei, Ne.symm hle]) (by simp)).toU
theorem turnsEnumList {elts : List Expr} {k : Nat} {pos : Pos} (hh : A.handled = none) (e it l : Addr) (hei : e ≠ it) (hle : l ≠ e) (hli : l ≠ it) (items : Array Value) :
    Turns z A (.Tuple elts k pos) e [e, it, l] [e, it] items.size
      (fun i v h => ∃ T vals, v = .ref T ∧ (∃ t x, items[i]? = some x ∧ vals = #[.int (i : Int) t, x]) ∧ h.IsTuple T vals)
      (fun i v h => ∃ T vals, v = .ref T ∧ (∃ t x, items[i]? = some x ∧ vals = #[.int (i : Int) t, x]) ∧ h.IsTuple T vals ∧ ((∃ x, IsEnumOut h e it ((i : Int) + 1) x T) ∧ (h.IsListIter it l (i + 1) ∧ h.IsList l items) ∧ T ≠ e ∧ T ≠ it))
      (fun i h => (∃ old, IsEnum h e it (i : Int) old) ∧ (h.IsListIter it l i ∧ h.IsList l items)) :=
  W.KTurns.ofWalksU (WalksT.enumerateD (Draws.list (A := A.in1) hh it l hli items) e hei (by simp [hei, Ne.symm hle]) (by simp)).toU
theorem letOwned_name {x : Str} {p : Pos} {a b : Value} : letOwnedTupleGo (.Name x p) a b = PySem.Sem.pure () := rfl
theorem turnsList {x : Str} {p : Pos} (hh : A.handled = none) (I l : Addr) (hne : l ≠ I) (items : Array Value) :
    Turns z A (.Name x p) I [I, l] [I] items.size (fun i v _ => items[i]? = some v) (fun i v h => items[i]? = some v ∧ (h.IsListIter I l (i + 1) ∧ h.IsList l items)) (fun i h => h.IsListIter I l i ∧ h.IsList l items) :=
  W.KTurns.ofWalks (Walks.list hh I l hne items) fun i v s Q E _ hQ => by rw [letOwned_name]; exact wpAny_pure hQ
end
end NN
end

section
open PySem PySem.W PyProof.Rows
set_option linter.unusedVariables false
set_option linter.unusedSimpArgs false
namespace NN
set_option maxRecDepth 10000

/-- the tuples stand -/
noncomputable def TK (h h' : Heap) : Prop := ∀ a xs, IsTup h a xs → IsTup h' a xs
theorem TK.refl (h : Heap) : TK h h := fun _ _ x => x
theorem TK.trans {h h' h'' : Heap} (x : TK h h') (y : TK h' h'') : TK h h'' := fun a xs t => y a xs (x a xs t)
theorem TK.ext {h h' : Heap} (x : Ext h h') : TK h h' := fun _ _ t => IsTup.ext t x
theorem TK.same {h h' : Heap} {L : Addr} {m : Str → Option Value} (hn : h.Ns L m) (hs : Heap.SameBut L h h') : TK h h' := fun _ _ t => IsTup.same t hn hs
theorem TK.keep {D : Addr → Prop} {h h' : Heap} (x : Keep D h h') (hd : ∀ b, D b → ∀ xs, ¬ IsTup h b xs) : TK h h' := fun a xs t => by
  obtain ⟨o, ho, r⟩ := t
  exact ⟨o, x a o (fun d => hd a d xs ⟨o, ho, r⟩) ho, r⟩
theorem RatAt.tk {h h' : Heap} {v : Value} {q : Rat} (x : RatAt h v q) (e : TK h h') : RatAt h' v q := let ⟨a, t, u, r, T⟩ := x; ⟨a, t, u, r, e _ _ T⟩

section
variable {z : Z} {A : Around} {h : Heap} {env : Env}
theorem W.tests0 {Q : Bool → Heap → Prop} (q : Q true h) :
    W z A (forIn ([] : List Expr) true fun c r => if r = true then do let ok ← PySem.isTrue c env (eval c env); Pure.pure (ForInStep.yield ok) else Pure.pure (ForInStep.yield r)) h Q := fun n => wpAny_tests_nil (W.ok q)
theorem W.tests1 {c : Expr} {Q : Bool → Heap → Prop} (q : W z A (PySem.isTrue c env (eval c env)) h Q) :
    W z A (forIn [c] true fun c r => if r = true then do let ok ← PySem.isTrue c env (eval c env); Pure.pure (ForInStep.yield ok) else Pure.pure (ForInStep.yield r)) h Q := fun n => wpAny_tests_one (q n)

noncomputable abbrev testsOf (ifs : List Expr) (env : Env) : Sem Bool := forIn ifs true fun c r => if r = true then do let ok ← PySem.isTrue c env (eval c env); Pure.pure (ForInStep.yield ok) else Pure.pure (ForInStep.yield r)

theorem W.append {D : Addr} {xs : List Value} {x : Value} {Q : Value → Heap → Prop} (hl : h.IsList D xs.toArray) (hs : xs.length ≤ sizeLine) (q : ∀ h', h'.IsList D (xs ++ [x]).toArray → Heap.SameBut D h h' → Q .none h') : W z A (call (.builtin "list.append") [.ref D, x]) h Q := fun n =>
  wpAny_list_append (s := at_ z h n) hl (fun h' hl' hs' => W.ok (q h' (by simpa using hl') hs')) (by simpa using hs)

theorem not_tup_list {h : Heap} {D : Addr} {xs : Array Value} (hl : h.IsList D xs) : ∀ ys, ¬ IsTup h D ys := fun ys t => by
  obtain ⟨o, ho, hc, _⟩ := hl
  obtain ⟨o', ho', hc', _⟩ := t
  rw [ho] at ho'; cases ho'; rw [hc] at hc'
  exact absurd hc' (by decide)
theorem not_tup_ns {h : Heap} {D : Addr} {m : Str → Option Value} (hl : h.Ns D m) : ∀ ys, ¬ IsTup h D ys := fun ys t => by
  obtain ⟨o, es, ep, ho, hd, _⟩ := hl
  obtain ⟨o', ho', _, n, hd'⟩ := t
  rw [ho] at ho'; cases ho'; rw [hd] at hd'; cases hd'
theorem isList_at {h h' : Heap} {D : Addr} {xs : Array Value} (hl : h.IsList D xs) (e : ∀ o, h.get? D = some o → h'.get? D = some o) : h'.IsList D xs := let ⟨o, ho, r⟩ := hl; ⟨o, e o ho, r⟩
theorem MF.same {h₀ h h' : Heap} {nm : List Str} {L a : Addr} {vs : List (Option Value)} (F : MF h₀ nm L vs h) (hs : Heap.SameBut a h h') (hL : L ≠ a) (ha : h₀.get? a = none) : MF h₀ nm L vs h' :=
  F.keepD (Keep.same hs) hL (fun b hb => by rw [hb]; exact ha)

/-- what a comprehension gives back: Post of the made object, the place of its names, the heap -/
noncomputable def CompRun (z : Z) (A : Around) (e : Expr) (scope : Scope) (cl : List (Str × Addr)) (env : Env) (newAcc : Sem Value) (I : Addr) (hs : Heap) (Post : Value → Addr → Heap → Prop) : Prop :=
  ∀ (E : Value → Shared → Prop) k, wpAny (model Pr z.w) A newAcc (fun acc s₃ => wpAny (model Pr z.w) A (newFunctionEnv scope env.globals cl [] env.qual none .none (some env)) (fun cenv s₄ =>
    codeAny (model Pr z.w) A (.compStart e 0 (.ref I) acc { cenv with scope := relabel scope env }) (fun r s' => match r with | .ok _ => ∃ h' n', s' = at_ z h' n' ∧ Post acc cenv.locals h' | .error _ => False) s₄) E s₃) E (at_ z hs k)

theorem compRunL {elt iter tg : Expr} {ifs : List Expr} {scope : Scope} {pos : Pos} {cl : List (Str × Addr)} {I : Addr} {fp wr : List Addr} {n : Nat} {P Md : Nat → Value → Heap → Prop} {St : Nat → Heap → Prop} {hs hO : Heap} {nmO nmc : List Str} {vsO : List (Option Value)}
    {Post : Value → Addr → Heap → Prop}
    (K : Turns z A tg I fp wr n P Md St) (hst : St 0 hs) (hn : n ≤ sizeLine) (self : ∀ h Q, St 0 h → Q (.ref I) h → W z A (pyIter (.ref I)) h Q)
    (hnt : ∀ i h, St i h → ∀ b ∈ wr, ∀ xs, ¬ IsTup h b xs) (hfp : ∀ b ∈ fp, ∃ o, hs.get? b = some o)
    (F : MF hO nmO env.locals vsO hs) (hLw : env.locals ∉ wr) (hwO : ∀ b ∈ wr, hO.get? b = none)
    (hk : scope.kind = .function) (hcell : ∀ y ∈ scope.names, y.2 ≠ .cell)
    (Dm : Addr → Prop) (hDm : ∀ a, Dm a → (∃ o, hs.get? a = some o) ∧ hO.get? a = none ∧ a ≠ env.locals ∧ a ∉ fp)
    (V : Nat → List (Option Value) → Prop) (J : Addr → Addr → Nat → List Value → Heap → Prop)
    (J0 : ∀ D C h, hs.get? D = none → hs.get? C = none → D ≠ C → Ext hs h → J D C 0 [] h)
    (hJ : ∀ D C i xs h h', hs.get? D = none → hs.get? C = none → D ≠ C → J D C i xs h → Keep (fun b => b ∈ wr ∨ b = D ∨ b = C ∨ b = env.locals) h h' → TK h h' → J D C i xs h')
    (asg : ∀ C i v h1 vs (Q : Unit → Heap → Prop), i < n → P i v h1 → MF hO nmc C vs h1 → vs.length = nmc.length →
      (∀ h2 vs', V i vs' → vs'.length = nmc.length → MF hO nmc C vs' h2 → Keep (fun b => b = C) h1 h2 → TK h1 h2 → Q () h2) → W z A (assign tg (compEnvC scope cl C env) v) h1 Q)
    (step : ∀ D C i xs h2 vs', i < n → V i vs' → hs.get? D = none → hs.get? C = none → (∃ ys, h2.IsList D ys) → MF hO nmc C vs' h2 → MF hO nmO env.locals vsO h2 → Keep (fun b => b ∈ wr ∨ Dm b) hs h2 → TK hs h2 → J D C i xs h2 → St (i + 1) h2 →
      W z A (testsOf ifs (compEnvC scope cl C env)) h2 (fun ok h3 => if ok = true then W z A (eval elt (compEnvC scope cl C env)) h3 (fun x h4 => Keep Dm h2 h4 ∧ TK h2 h4 ∧ J D C (i + 1) (xs ++ [x]) h4) else Keep Dm h2 h3 ∧ TK h2 h3 ∧ J D C (i + 1) xs h3))
    (fin : ∀ D C xs h', hs.get? D = none → hs.get? C = none → D ≠ C → h'.IsList D xs.toArray → (∃ m, h'.Ns C m) → MF hO nmO env.locals vsO h' → Keep (fun b => b ∈ wr ∨ Dm b) hs h' → TK hs h' → J D C n xs h' → Post (.ref D) C h') :
    CompRun z A (.ListComp elt [⟨tg, iter, ifs, 0⟩] scope pos) scope cl env (newList []) I hs Post := fun E k => by
  refine wpAny_newObj_type (wpAny_newFunctionEnv hcell (by intro y hy; simp at hy) (fun h₁ hns₁ hsb₁ => ?_) hk)
  dsimp only at hns₁ hsb₁ ⊢
  generalize hH2 : hs.push { cls := .type "list", dict := none, data := .seq ([] : List Value).toArray } = H2 at hns₁ hsb₁ ⊢
  have e2 : Ext hs H2 := by rw [← hH2]; exact Ext.push hs _
  have hD2 : H2.get? hs.objs.size = some { cls := .type "list", dict := none, data := .seq ([] : List Value).toArray } := by rw [← hH2]; exact Heap.get?_push_size _ rfl
  have e3 : Ext H2 h₁ := fun b o _ e => hsb₁.extBut b o (Nat.ne_of_lt (Heap.lt_size e)) (Heap.get?_push_of_some _ e)
  have hDf : hs.get? hs.objs.size = none := fresh_size hs
  have hCf2 : H2.get? H2.objs.size = none := fresh_size H2
  have hCf : hs.get? H2.objs.size = none := by
    cases e : hs.get? H2.objs.size with
    | none => rfl
    | some o => have := e2.get e; rw [hCf2] at this; cases this
  have hDC : hs.objs.size ≠ H2.objs.size := fun e => by rw [e] at hD2; rw [hCf2] at hD2; cases hD2
  generalize hs.objs.size = D at *
  generalize hC : H2.objs.size = C at *
  have e1 : Ext hs h₁ := e2.trans e3
  have hD1 := e3.get hD2
  have hOC : hO.get? C = none := by
    cases e : hO.get? C with
    | none => rfl
    | some o => have := F.keep.get e; rw [hCf] at this; cases this
  have hOD : hO.get? D = none := by
    cases e : hO.get? D with
    | none => rfl
    | some o => have := F.keep.get e; rw [hDf] at this; cases this
  have hLC : env.locals ≠ C := fun e => by obtain ⟨o, _, _, ho, _⟩ := F.ns; rw [e, hCf] at ho; cases ho
  have hLD : env.locals ≠ D := fun e => by obtain ⟨o, _, _, ho, _⟩ := F.ns; rw [e, hDf] at ho; cases ho
  have hCfp : ∀ b ∈ fp, b ≠ C ∧ b ≠ D := fun b hb => by
    obtain ⟨o, ho⟩ := hfp b hb
    exact ⟨fun e => (by rw [e, hCf] at ho; cases ho), fun e => (by rw [e, hDf] at ho; cases ho)⟩
  have hDmC : ∀ b, Dm b → b ≠ C ∧ b ≠ D := fun b hb => by
    obtain ⟨⟨o, ho⟩, _⟩ := hDm b hb
    exact ⟨fun e => (by rw [e, hCf] at ho; cases ho), fun e => (by rw [e, hDf] at ho; cases ho)⟩
  have hst1 : St 0 h₁ := K.frame _ _ _ hst fun b _ o e => e1.get e
  have loop : ∀ k, codeAny (model Pr z.w) A (.compLoop (.ListComp elt [⟨tg, iter, ifs, 0⟩] scope pos) 0 (.ref I) (.ref D) (compEnvC scope cl C env))
      (fun r s' => match r with | .ok _ => ∃ h' n', s' = at_ z h' n' ∧ Post (.ref D) C h' | .error _ => False) (at_ z h₁ k) := by
    intro k
    refine codeAny_loop rfl (fun m s => ∃ i xs h' n' vs, s = at_ z h' n' ∧ i ≤ n ∧ m = n - i ∧ xs.length ≤ i ∧ St i h' ∧ h'.IsList D xs.toArray ∧ MF hO nmc C vs h' ∧ vs.length = nmc.length ∧ MF hO nmO env.locals vsO h' ∧ Keep (fun b => b ∈ wr ∨ Dm b) hs h' ∧ TK hs h' ∧ J D C i xs h')
      (fun m s hI => ?_) n ⟨0, [], h₁, k, List.replicate nmc.length none, rfl, Nat.zero_le _, rfl, Nat.le_refl _, hst1, ⟨_, hD1, rfl, 0, rfl⟩, ⟨?_, F.keep.trans e1, hOC⟩, by simp, F.ext e1, Ext.to e1, TK.ext e1, J0 D C h₁ hDf hCf hDC e1⟩
    rotate_left
    · obtain ⟨o, es, ep, a, b, c, d⟩ := hns₁
      exact ⟨o, es, ep, a, b, c, fun y => (d y).trans (by rw [lkv_none]; rfl)⟩
    obtain ⟨i, xs, h', n', vs, rfl, hi, rfl, hxs, st, hl, FC, hvs, FO, kh, tk, j⟩ := hI
    show wpAny _ A ((compTurn (.ListComp elt [⟨tg, iter, ifs, 0⟩] scope pos) 0 (.ref I) (.ref D) (compEnvC scope cl C env)).onRaise (fun x => do noteFrame x (compEnvC scope cl C env); theTreesLotGoes x)) _ _ _
    refine wpAny_noted ?_
    rw [compTurn_list]
    refine wpAny_bind (wpAny_standAt (wpAny_bind ?_))
    by_cases hlt : i < n
    · refine K.item i _ _ _ hlt st fun v h1 tk1 hMd hk1 => ?_
      refine wpAny_bind (K.go i v _ _ _ hMd fun h2 hP st2 hk2 => ?_)
      have kw : Keep (· ∈ wr) h' h2 := fun b o hb e => hk2 b o hb (hk1 b o hb e)
      have tw : TK h' h2 := TK.keep kw fun b hb => hnt i h' st b hb
      have hCw : C ∉ wr := fun hb => (hCfp C (K.sub _ hb)).1 rfl
      have hDw : D ∉ wr := fun hb => (hCfp D (K.sub _ hb)).2 rfl
      have FC2 := FC.keepD kw hCw hwO
      have FO2 := FO.keepD kw hLw hwO
      have hl2 := isList_at hl fun o e => kw _ o hDw e
      refine wpAny_bind ((asg C i v h2 vs (fun _ h3 => ∃ vs', V i vs' ∧ vs'.length = nmc.length ∧ MF hO nmc C vs' h3 ∧ Keep (fun b => b = C) h2 h3 ∧ TK h2 h3) hlt hP FC2 hvs fun h3 vs' a b c d e => ⟨vs', a, b, c, d, e⟩).use tk1 fun _ h3 n3 q3 => ?_)
      obtain ⟨vs', hV, hvs', FC3, kC, tC⟩ := q3
      have FO3 := FO2.keepD kC hLC (fun b hb => by rw [hb]; exact hOC)
      have hl3 := isList_at hl2 fun o e => kC _ o hDC e
      have kh3 : Keep (fun b => b ∈ wr ∨ Dm b) hs h3 := fun b o hb e => kC b o (fun q => by rw [q, hCf] at e; cases e) (kw b o (fun q => hb (.inl q)) (kh b o hb e))
      have tk3 := (tk.trans tw).trans tC
      have j3 := hJ D C i xs h' h3 hDf hCf hDC j (fun b o hb e => kC b o (fun q => hb (.inr (.inr (.inl q)))) (kw b o (fun q => hb (.inl q)) e)) (tw.trans tC)
      have st3 : St (i + 1) h3 := K.frame _ _ _ st2 fun b hb o e => kC b o (hCfp b hb).1 e
      have fin3 : ∀ h4, Keep Dm h3 h4 → TK h3 h4 → St (i + 1) h4 ∧ MF hO nmc C vs' h4 ∧ MF hO nmO env.locals vsO h4 ∧ h4.IsList D xs.toArray ∧ Keep (fun b => b ∈ wr ∨ Dm b) hs h4 ∧ TK hs h4 := fun h4 k4 t4 =>
        ⟨K.frame _ _ _ st3 fun b hb o e => k4 b o (fun q => (hDm b q).2.2.2 hb) e, FC3.keepD k4 (fun q => (hDmC C q).1 rfl) (fun b q => (hDm b q).2.1), FO3.keepD k4 (fun q => (hDm _ q).2.2.1 rfl) (fun b q => (hDm b q).2.1),
          isList_at hl3 fun o e => k4 _ o (fun q => (hDmC D q).2 rfl) e, fun b o hb e => k4 b o (fun q => hb (.inr q)) (kh3 b o hb e), tk3.trans t4⟩
      refine wpAny_bind ((step D C i xs h3 vs' hlt hV hDf hCf ⟨_, hl3⟩ FC3 FO3 kh3 tk3 j3 st3).use n3 fun ok h4 n4 q4 => ?_)
      cases ok with
      | false =>
        simp only [Bool.false_eq_true, if_false] at q4 ⊢
        obtain ⟨k4, t4, j4⟩ := q4
        obtain ⟨a, b, c, d, e, f⟩ := fin3 h4 k4 t4
        exact wpAny_pure ⟨rfl, n - (i + 1), by omega, i + 1, xs, h4, n4, vs', rfl, hlt, rfl, by omega, a, d, b, hvs', c, e, f, j4⟩
      | true =>
        simp only [if_true] at q4 ⊢
        refine wpAny_bind (wpAny_bind (q4.use n4 fun x h5 n5 q5 => ?_))
        obtain ⟨k4, t4, j4⟩ := q5
        obtain ⟨a, b, c, d, e, f⟩ := fin3 h5 k4 t4
        refine wpAny_bind ((W.append (x := x) (Q := fun _ h6 => h6.IsList D (xs ++ [x]).toArray ∧ Heap.SameBut D h5 h6) d (by omega) fun h6 a b => ⟨a, b⟩).use n5 fun _ h6 n6 q6 => wpAny_pure (wpAny_pure ?_))
        obtain ⟨l6, s6⟩ := q6
        have kD : Keep (fun b => b = D) h5 h6 := Keep.same s6
        have t6 : TK h5 h6 := TK.keep kD fun b hb => by rw [hb]; exact not_tup_list d
        refine ⟨rfl, n - (i + 1), by omega, i + 1, xs ++ [x], h6, n6, vs', rfl, hlt, rfl, by simp; omega, K.frame _ _ _ a fun b hb o e => kD b o (hCfp b hb).2 e, l6, b.keepD kD (fun q => hDC q.symm) (fun b q => by rw [q]; exact hOD), hvs', c.keepD kD hLD (fun b q => by rw [q]; exact hOD),
          fun b o hb q => kD b o (fun q' => by rw [q', hDf] at q; cases q) (e b o hb q), f.trans t6, hJ D C _ _ h5 h6 hDf hCf hDC j4 (fun b o hb e => kD b o (fun q => hb (.inr (.inl q))) e) t6⟩
    · have e : i = n := by omega
      subst e
      refine K.done _ _ _ st fun h1 tk1 hk1 => wpAny_pure ?_
      have kw : Keep (· ∈ wr) h' h1 := fun b o hb e => hk1 b o hb e
      have tw : TK h' h1 := TK.keep kw fun b hb => hnt _ h' st b hb
      have hCw : C ∉ wr := fun hb => (hCfp C (K.sub _ hb)).1 rfl
      have hDw : D ∉ wr := fun hb => (hCfp D (K.sub _ hb)).2 rfl
      exact ⟨h1, tk1, rfl, fin D C xs h1 hDf hCf hDC (isList_at hl fun o e => kw _ o hDw e) ⟨_, (FC.keepD kw hCw hwO).ns⟩ (FO.keepD kw hLw hwO) (fun b o hb e => kw b o (fun q => hb (.inl q)) (kh b o hb e)) (tk.trans tw)
        (hJ D C _ _ h' h1 hDf hCf hDC j (fun b o hb e => kw b o (fun q => hb (.inl q)) e) tw)⟩
  refine codeAny_compStart_list (loop _) ?_
  exact (self h₁ (fun v h2 => v = .ref I ∧ h2 = h₁) hst1 ⟨rfl, rfl⟩).use _ fun v h2 n2 q2 => by obtain ⟨rfl, rfl⟩ := q2; exact loop n2

/-- a list comprehension as a value -/
theorem W.lcomp {elt iter tg : Expr} {ifs : List Expr} {scope : Scope} {pos : Pos} {cl : List (Str × Addr)} {Q : Value → Heap → Prop} (hclos : closureFor scope env = PySem.Sem.pure cl)
    (hk : scope.kind = .function) (hnames : ∀ x ∈ scope.names, x.2 = .local → scope.names.lookup x.1 = some .local)
    (q : W z A (eval iter env) h (fun x h1 => W z A (pyIter x) h1 (fun it hs => ∃ I, it = .ref I ∧ CompRun z A (.ListComp elt [⟨tg, iter, ifs, 0⟩] scope pos) scope cl env (newList []) I hs
      (fun acc C h' => (∃ m, h'.Ns C m) ∧ ∀ h'', Heap.SameBut C h' h'' → Q acc h''))))
    (hs : ∀ x, foldedSetIterable iter env x = PySem.Sem.pure x := by intro _; rfl) : W z A (eval (.ListComp elt [⟨tg, iter, ifs, 0⟩] scope pos) env) h Q := fun n => by
  rw [eval_ListComp]
  refine wpAny_comprehension_free (gs := []) rfl hs hclos hk hnames (q.use n fun x h1 n1 q1 => q1.use n1 fun it h2 n2 q2 => ?_)
  obtain ⟨I, rfl, q2⟩ := q2
  refine wpAny_mono (q2 (fun _ _ => False) n2) (fun acc s3 q3 => wpAny_mono q3 (fun cenv s4 q4 => codeAny_mono q4 fun r s' hr => ?_) fun _ _ e => e) fun _ _ e => e
  cases r with
  | error e => exact hr.elim
  | ok f =>
    obtain ⟨h', n', rfl, ⟨m, hm⟩, q5⟩ := hr
    exact ⟨m, hm, fun h'' hs'' => W.ok (q5 h'' hs'')⟩

/-- a list comprehension stored into a local name -/
theorem W.asgLcomp {elt iter tg : Expr} {ifs : List Expr} {scope : Scope} {pos spos py : Pos} {y : Str} {cl : List (Str × Addr)} {Q : Flow → Heap → Prop} (hclos : closureFor scope env = PySem.Sem.pure cl)
    (hk : scope.kind = .function) (hnames : ∀ x ∈ scope.names, x.2 = .local → scope.names.lookup x.1 = some .local)
    (q : W z A (eval iter env) h (fun x h1 => W z A (pyIter x) h1 (fun it hs => ∃ I, it = .ref I ∧ CompRun z A (.ListComp elt [⟨tg, iter, ifs, 0⟩] scope pos) scope cl env (newList []) I hs
      (fun acc C h' => W z A (storeName env y acc) h' (fun _ h2 => (∃ m, h2.Ns C m) ∧ ∀ h'', Heap.SameBut C h2 h'' → Q .next h'')))))
    (hsw : swapsWithSole [.Name y py] (.ListComp elt [⟨tg, iter, ifs, 0⟩] scope pos) spos.line env = PySem.Sem.pure true)
    (hs : ∀ x, foldedSetIterable iter env x = PySem.Sem.pure x := by intro _; rfl) : W z A (exec (.Assign [.Name y py] (.ListComp elt [⟨tg, iter, ifs, 0⟩] scope pos) spos) env) h Q := fun n => by
  rw [PyProof.Rows.exec_Assign]
  refine wpAny_bind (wpAny_standAt ?_)
  rw [hsw]
  refine wpAny_bind (wpAny_pure ?_)
  rw [if_pos rfl, arm_evalThenUse_ListComp]
  refine wpAny_bind (wpAny_bind ?_)
  refine wpAny_comprehension_free (gs := []) rfl hs hclos hk hnames (q.use n fun x h1 n1 q1 => q1.use n1 fun it h2 n2 q2 => ?_)
  obtain ⟨I, rfl, q2⟩ := q2
  refine wpAny_mono (q2 (fun _ _ => False) n2) (fun acc s3 q3 => wpAny_mono q3 (fun cenv s4 q4 => codeAny_mono q4 fun r s' hr => ?_) fun _ _ e => e) fun _ _ e => e
  cases r with
  | error e => exact hr.elim
  | ok f =>
    obtain ⟨h', n', rfl, q5⟩ := hr
    show wpAny _ _ (assign (.Name y py) env acc) _ _ _
    refine wpAny_assign_Name (q5.use n' fun _ h3 n3 q6 => ?_)
    obtain ⟨⟨m, hm⟩, q7⟩ := q6
    exact ⟨m, hm, fun h'' hs'' => wpAny_pure (wpAny_pure (W.ok (q7 h'' hs'')))⟩
end
end NN
end

section
open PySem PySem.W PyProof.Rows
set_option linter.unusedVariables false
set_option linter.unusedSimpArgs false
namespace NN
set_option maxRecDepth 10000

/-! ## defs with cells -/
noncomputable def mk : List Bool → List Value → List (Option Value)
  | true :: bs, v :: vs => some v :: mk bs vs
  | false :: bs, _ :: vs => none :: mk bs vs
  | _, _ => []
/-- the mask tells which parameters are plain locals; the others are cells -/
noncomputable def maskOk (K : Str → Option NameKind) : List Str → List Bool → Bool
  | [], [] => true
  | n :: ns, true :: bs => K n == some .local && maskOk K ns bs
  | n :: ns, false :: bs => K n == some .cell && maskOk K ns bs
  | _, _ => false
theorem lkv_notin : ∀ {ns : List Str} {vs : List (Option Value)} {y : Str}, y ∉ ns → lkv ns vs y = none
  | [], _, _, _ => by simp [lkv]
  | _ :: _, [], _, _ => by simp [lkv]
  | a :: as, v :: vs, y, h => by
    rw [List.mem_cons, not_or] at h
    simp only [lkv, if_neg h.1]
    exact lkv_notin h.2
theorem bindL_mask (K : Str → Option NameKind) : ∀ (ns : List Str) (args : List Value) (bs : List Bool) (m : Str → Option Value) (y : Str), ns.Nodup → maskOk K ns bs = true → ns.length = args.length →
    bindL K (ns.zip args) m y = (match lkv ns (mk bs args) y with | some v => some v | none => m y)
  | [], [], bs, m, y, _, _, _ => by simp [bindL, lkv]
  | [], _ :: _, _, _, _, _, _, h => by simp at h
  | _ :: _, [], _, _, _, _, _, h => by simp at h
  | n :: ns, a :: args, bs, m, y, hn, hb, hl => by
    rw [List.nodup_cons] at hn
    have hl' : ns.length = args.length := by simpa using hl
    match bs, hb with
    | true :: bs, hb =>
      simp only [maskOk, Bool.and_eq_true, beq_iff_eq] at hb
      simp only [List.zip_cons_cons, bindL, mk, lkv, hb.1, if_true]
      rw [bindL_mask K ns args bs _ y hn.2 hb.2 hl']
      by_cases e : y = n
      · subst e; rw [lkv_notin hn.1]; simp
      · simp [e]
    | false :: bs, hb =>
      simp only [maskOk, Bool.and_eq_true, beq_iff_eq] at hb
      have hne : ¬ (K n = some .local) := by rw [hb.1]; decide
      simp only [List.zip_cons_cons, bindL, mk, lkv, if_neg hne]
      rw [bindL_mask K ns args bs _ y hn.2 hb.2 hl']
      by_cases e : y = n
      · subst e; rw [lkv_notin hn.1]; simp
      · simp [e]
theorem mk_length (K : Str → Option NameKind) : ∀ {ns : List Str} {bs : List Bool} {args : List Value}, maskOk K ns bs = true → ns.length = args.length → (mk bs args).length = ns.length
  | [], [], [], _, _ => rfl
  | [], _ :: _, _, h, _ => by simp [maskOk] at h
  | [], [], _ :: _, _, h => by simp at h
  | _ :: _, _, [], _, h => by simp at h
  | n :: ns, [], _, h, _ => by simp [maskOk] at h
  | n :: ns, true :: bs, a :: args, h, hl => by simp [maskOk] at h; simp [mk, mk_length K h.2 (by simpa using hl)]
  | n :: ns, false :: bs, a :: args, h, hl => by simp [maskOk] at h; simp [mk, mk_length K h.2 (by simpa using hl)]
theorem lkv_append : ∀ (ns qs : List Str) (vs : List (Option Value)) (k : Nat) (y : Str), vs.length = ns.length → lkv (ns ++ qs) (vs ++ List.replicate k none) y = lkv ns vs y
  | [], qs, [], k, y, _ => by rw [List.nil_append, List.nil_append, lkv_none]; simp [lkv]
  | [], _, _ :: _, _, _, h => by simp at h
  | _ :: _, _, [], _, _, h => by simp at h
  | a :: as, qs, v :: vs, k, y, h => by
    simp only [List.cons_append, lkv]
    rw [lkv_append as qs vs k y (by simpa using h)]

noncomputable def okDefC (i : Nat) (nm : List Str) (bs : List Bool) : Bool :=
  (dScope (stD i)).kind == .function && !(dScope (stD i)).isCoroutine && !(dScope (stD i)).isGenerator &&
    decide nm.Nodup && decide (bs.length ≤ nm.length) && maskOk (fun n => (dScope (stD i)).names.lookup n) (nm.take bs.length) bs &&
    (nm.take bs.length).all (fun n => (dScope (stD i)).names.lookup n == some .local || ((cellsFrom 0 (dScope (stD i)).names []).lookup n).isSome)
theorem cellsFrom_isSome : ∀ (names : List (Str × NameKind)) (a b : Nat) (l1 l2 : List (Str × Addr)) (n : Str), (∀ n, (l1.lookup n).isSome = (l2.lookup n).isSome) → ((cellsFrom a names l1).lookup n).isSome = ((cellsFrom b names l2).lookup n).isSome
  | [], _, _, _, _, _, h => h _
  | (x, k) :: r, a, b, l1, l2, n, h => by
    unfold cellsFrom
    split
    · refine cellsFrom_isSome r _ _ _ _ n fun n' => ?_
      simp only [List.lookup_cons]
      cases n' == x <;> simp [h]
    · exact cellsFrom_isSome r _ _ _ _ n h
theorem maskOk_len {K : Str → Option NameKind} : ∀ {ns : List Str} {bs : List Bool}, maskOk K ns bs = true → ns.length = bs.length
  | [], [], _ => rfl
  | [], _ :: _, h => by simp [maskOk] at h
  | n :: ns, [], h => by simp [maskOk] at h
  | n :: ns, true :: bs, h => by simp [maskOk] at h; simp [maskOk_len h.2]
  | n :: ns, false :: bs, h => by simp [maskOk] at h; simp [maskOk_len h.2]
theorem maskOk_mem {K : Str → Option NameKind} : ∀ {ns : List Str} {bs : List Bool} {n : Str}, maskOk K ns bs = true → n ∈ ns → K n = some .local ∨ K n = some .cell
  | [], _, _, _, h => by simp at h
  | n :: ns, [], _, h, _ => by simp [maskOk] at h
  | n :: ns, true :: bs, x, h, hx => by
    simp [maskOk] at h
    rcases List.mem_cons.mp hx with rfl | hx
    · exact .inl h.1
    · exact maskOk_mem h.2 hx
  | n :: ns, false :: bs, x, h, hx => by
    simp [maskOk] at h
    rcases List.mem_cons.mp hx with rfl | hx
    · exact .inr h.1
    · exact maskOk_mem h.2 hx

noncomputable abbrev envC (i : Nat) (cd pm : Value) (L f : Addr) : Env := callEnvC (fnD i cd pm) L f

section
variable {z : Z} {A : Around} {h : Heap}
theorem W.defC {f : Addr} (i : Nat) {cd pm : Value} {args : List Value} (nm : List Str) (bs : List Bool) {k : Nat} {Q : Value → Heap → Prop} (G : GL z h) (r : Rm A (k + 1))
    (hl : (KK z.w).lookup f = some (objD i cd pm)) (hcd : codeIn (KK z.w) cd (dName (stD i)) = true) (hok : okDefC i nm bs = true) (hlen : args.length = bs.length)
    (hb : bindArgs (fnD i cd pm) ⟨args, []⟩ = PySem.Sem.pure ((nm.take bs.length).zip args))
    (body : ∀ L hb h₁, Ext h hb → MF hb nm L (mk bs args ++ List.replicate (nm.length - bs.length) none) h₁ → Rb (A.deeper (envC i cd pm L f)) k →
      (∀ x c v, (envC i cd pm L f).cells.lookup x = some c → bindC (envC i cd pm L f).kindOf ((nm.take bs.length).zip args) (fun _ => none) x = some v → hb.IsCell c (some v)) →
      W z (A.deeper (envC i cd pm L f)) (execs (dBody (stD i)) (envC i cd pm L f)) h₁ (fun fl h' => Q (retOf fl) h')) :
    W z A (call (.ref f) args) h Q := fun n => by
  simp only [okDefC, Bool.and_eq_true, beq_iff_eq, Bool.not_eq_true', decide_eq_true_eq, List.all_eq_true, Bool.or_eq_true] at hok
  obtain ⟨⟨⟨⟨⟨⟨h1, h2⟩, h3⟩, h4⟩, h5⟩, h6⟩, h7⟩ := hok
  have hz : (nm.take bs.length).length = args.length := by rw [List.length_take]; omega
  refine wpAny_call (codeAny_call_cells (fd := fnD i cd pm) (body := dBody (stD i)) (binds := (nm.take bs.length).zip args) (by have := r.d; omega) (G.k _ _ hl) rfl G.nolimit (codeRec_of G.k hcd) rfl
    hb rfl (fun x hx => ?_) (fun s₁ X => ?_) h2 h3 h1)
  · have hm := mem_zip_fst hx
    rcases maskOk_mem h6 hm with q | q
    · exact .inl q
    · refine .inr ⟨q, ?_⟩
      rcases h7 x.1 hm with q' | q'
      · have q : List.lookup x.1 (dScope (stD i)).names = some NameKind.cell := q
        rw [q'] at q; cases q
      · rw [← q']; exact cellsFrom_isSome _ _ _ _ _ _ fun _ => rfl
  · obtain ⟨h₁, tk, rfl⟩ := X.toInCall.same
    have hLs : h.get? h.objs.size = none := fresh_size h
    have F : MF (h₁.hide h.objs.size) nm h.objs.size (mk bs args ++ List.replicate (nm.length - bs.length) none) h₁ := by
      refine ⟨?_, fun a o _ e => Heap.of_hide e, Heap.hide_self _ _⟩
      obtain ⟨o, es, ep, a, b, c, d⟩ := X.toInCall.ns
      refine ⟨o, es, ep, a, b, c, fun y => (d y).trans ?_⟩
      have e1 := bindL_mask (fun n => (dScope (stD i)).names.lookup n) (nm.take bs.length) args bs (fun _ => none) y (h4.sublist (List.take_sublist _ _)) h6 hz
      have e2 := lkv_append (nm.take bs.length) (nm.drop bs.length) (mk bs args) (nm.length - bs.length) y (mk_length _ h6 hz)
      rw [List.take_append_drop] at e2
      rw [e2]
      refine e1.trans ?_
      cases lkv (nm.take bs.length) (mk bs args) y <;> rfl
    have rb : Rb (A.deeper (envC i cd pm h.objs.size f)) k := ⟨r.deeper _, by
      obtain ⟨l, e⟩ := r.f
      exact ⟨envC i cd pm h.objs.size f, l, by simp only [Around.deeper, e]; rfl, h3, h2, rfl, rfl⟩⟩
    have ex : Ext h (h₁.hide h.objs.size) := fun b o _ e => by
      rw [Heap.hide_ne]
      · exact X.toInCall.keep b o e
      · intro q; rw [q, hLs] at e; cases e
    refine (body h.objs.size (h₁.hide h.objs.size) h₁ ex F rb (fun x c v hc hv => ?_)).use tk fun fl h' n' q => ?_
    · obtain ⟨o, ho, hd⟩ := X.cell x c hc
      rw [show bindC (callEnvC (fnD i cd pm) h.objs.size f).kindOf ((nm.take bs.length).zip args) (fun _ => none) x = some v from hv] at hd
      have hne : c ≠ h.objs.size := Nat.ne_of_gt (X.above x c (mem_of_lookup hc))
      exact ⟨o, by rw [Heap.hide_ne _ hne]; exact ho, hd⟩
    · cases fl <;> exact ⟨h', n', rfl, q⟩

/-- a name that is a cell of the frame, or of the comprehension's -/
theorem W.nc {x : Str} {pos : Pos} {c : Addr} {v : Value} {env : Env} {Q : Value → Heap → Prop} (hv : h.IsCell c (some v)) (q : Q v h) (hc : env.cells.lookup x = some c)
    (hk : (env.scope.kind == .function && env.kindOf x == some .cell && !(x == ("__debug__" : Str))) = true) : W z A (eval (.Name x pos) env) h Q := fun n => by
  simp only [Bool.and_eq_true, beq_iff_eq, Bool.not_eq_true'] at hk
  exact wpAny_Name (wpAny_loadName_cell hk.1.1 hk.1.2 hc hv (W.ok q)) hk.2
end
end NN
end

section
open PySem PySem.W PyProof.Rows
set_option linter.unusedVariables false
set_option linter.unusedSimpArgs false
namespace NN
set_option maxRecDepth 10000

theorem intsAre_length {vs : List Value} {ns : List Int} (h : IntsAre vs ns) : vs.length = ns.length := by
  induction h with
  | nil => rfl
  | cons n t _ ih => simp [ih]
theorem intsAre_get {vs : List Value} {ns : List Int} (h : IntsAre vs ns) : ∀ {i : Nat} {v : Value}, vs[i]? = some v → ∃ n t, ns[i]? = some n ∧ v = .int n t := by
  induction h with
  | nil => intro i v e; simp at e
  | cons n t _ ih =>
    intro i v e
    cases i with
    | zero => simp at e; exact ⟨n, t, by simp, e.symm⟩
    | succ i => simp at e; obtain ⟨n', t', a, b⟩ := ih e; exact ⟨n', t', by simpa using a, b⟩
theorem intsAre_snoc {vs : List Value} {ns : List Int} (h : IntsAre vs ns) (n : Int) (t : Tok) : IntsAre (vs ++ [.int n t]) (ns ++ [n]) := by
  induction h with
  | nil => exact .cons n t .nil
  | cons m u _ ih => exact .cons m u ih

/-- a tuple of ints -/
noncomputable def KeyAt (h : Heap) (v : Value) (ks : List Int) : Prop := ∃ a vs, v = .ref a ∧ IsTup h a vs.toArray ∧ IntsAre vs ks
theorem KeyAt.tk {h h' : Heap} {v : Value} {ks : List Int} (x : KeyAt h v ks) (e : TK h h') : KeyAt h' v ks := let ⟨a, vs, r, T, I⟩ := x; ⟨a, vs, r, e _ _ T, I⟩
theorem KeyAt.ext {h h' : Heap} {v : Value} {ks : List Int} (x : KeyAt h v ks) (e : Ext h h') : KeyAt h' v ks := x.tk (TK.ext e)

section
variable {z : Z} {A : Around} {h : Heap} {env : Env}
theorem W.callT {T : String} {pos : Pos} {e : Expr} {rest : List Expr} {Q : Value → Heap → Prop}
    (q : W z A (spliced (backTo pos (starEach (e :: rest) env))) h (fun vs h1 => W z A (call (.type T) vs) h1 Q))
    (he : starEach (e :: rest) env = (false, eval e env) :: starEach rest env := by rfl) (hplain : (backTo pos (starEach rest env)).any (·.1) = false := by rfl) :
    W z A (callWith pos (.type T) [] (backTo pos (starEach (e :: rest) env)) []) h Q := fun n => callWith_type1 (q.use n fun _ _ n1 q1 => q1 n1) he hplain
theorem W.tupOfList {l : Addr} {xs : List Value} {Q : Value → Heap → Prop} {k : Nat} (r : Rm A k) (hl : h.IsList l xs.toArray) (hs : xs.length ≤ sizeLine) (q : ∀ a h', Ext h h' → IsTup h' a xs.toArray → h.get? a = none → Q (.ref a) h') : W z A (call (.type "tuple") [.ref l]) h Q := fun n => by
  refine call_tuple_list (s := at_ z h n) hl ?_ (hsz := by simpa using hs)
  intro h' hk
  have e := Ext.of hk
  refine W.ok (q _ _ (e.trans (Ext.push h' _)) ⟨_, Heap.get?_push_size _ rfl, rfl, 0, rfl⟩ ?_)
  cases e' : h.get? h'.objs.size with
  | none => rfl
  | some o => have := e.get e'; rw [fresh_size] at this; cases this
theorem boot_enumerate : bootBuiltins "enumerate" = some (.type "enumerate") := by decide +kernel

/-- the two names of a pair that an enumerate handed out -/
theorem asgPair {scope : Scope} {cl : List (Str × Addr)} {C : Addr} {x1 x2 : Str} {p1 p2 tp : Pos} {k : Nat} {hO h1 : Heap} {vs : List (Option Value)} {T : Addr} {a b : Value} {l : Nat} {Q : Unit → Heap → Prop} (r : Rm A l)
    (hT : IsTup h1 T #[a, b]) (F : MF hO [x1, x2] C vs h1) (hv : vs.length = 2)
    (q : ∀ h2, MF hO [x1, x2] C [some a, some b] h2 → Keep (fun b => b = C) h1 h2 → TK h1 h2 → Q () h2)
    (ok1 : okName (compEnvC scope cl C env).scope [x1, x2] x1 0 = true) (ok2 : okName (compEnvC scope cl C env).scope [x1, x2] x2 1 = true) :
    W z A (assign (.Tuple [.Name x1 p1, .Name x2 p2] k tp) (compEnvC scope cl C env) (.ref T)) h1 Q := by
  obtain ⟨v1, v2, rfl⟩ : ∃ v1 v2, vs = [v1, v2] := by
    match vs, hv with
    | [v1, v2], _ => exact ⟨v1, v2, rfl⟩
  refine W.asgP r hT fun h2 e2 => W.asgN ?_
  refine W.store (env := compEnvC scope cl C env) (F.ext e2) 0 (fun h3 F3 s3 => W.asgN (W.store (env := compEnvC scope cl C env) F3 1 (fun h4 F4 s4 => ?_) ok2 (by simp))) ok1 (by simp)
  have k3 : Keep (fun b => b = C) h2 h3 := Keep.same s3
  have k4 : Keep (fun b => b = C) h3 h4 := Keep.same s4
  exact q h4 F4 ((e2.to.trans k3).trans k4) (((TK.ext e2).trans (TK.same (F.ext e2).ns s3)).trans (TK.same F3.ns s4))
theorem asgOne {scope : Scope} {cl : List (Str × Addr)} {C : Addr} {x1 : Str} {p1 : Pos} {hO h1 : Heap} {vs : List (Option Value)} {a : Value} {Q : Unit → Heap → Prop} 
    (F : MF hO [x1] C vs h1) (hv : vs.length = 1)
    (q : ∀ h2, MF hO [x1] C [some a] h2 → Keep (fun b => b = C) h1 h2 → TK h1 h2 → Q () h2)
    (ok1 : okName (compEnvC scope cl C env).scope [x1] x1 0 = true) : W z A (assign (.Name x1 p1) (compEnvC scope cl C env) a) h1 Q := by
  obtain ⟨v1, rfl⟩ : ∃ v1, vs = [v1] := by
    match vs, hv with
    | [v1], _ => exact ⟨v1, rfl⟩
  refine W.asgN (W.store (env := compEnvC scope cl C env) F 0 (fun h3 F3 s3 => ?_) ok1 (by simp))
  exact q h3 F3 (Keep.same s3) (TK.same F.ns s3)

theorem not_tup_cls {h : Heap} {b : Addr} {o : Obj} {c : String} (ho : h.get? b = some o) (hc : o.cls = .type c) (hne : c ≠ "tuple") : ∀ ys, ¬ IsTup h b ys := fun ys t => by
  obtain ⟨o', ho', hc', _⟩ := t
  rw [ho] at ho'; cases ho'; rw [hc] at hc'
  injection hc' with e; exact hne e


/-- a comprehension whose element makes new things alone -/
theorem compRunP {elt iter tg : Expr} {ifs : List Expr} {scope : Scope} {pos : Pos} {cl : List (Str × Addr)} {I : Addr} {fp wr : List Addr} {n : Nat} {P Md : Nat → Value → Heap → Prop} {St : Nat → Heap → Prop} {hs hO : Heap} {nmO nmc : List Str} {vsO : List (Option Value)}
    {Post : Value → Addr → Heap → Prop}
    (K : Turns z A tg I fp wr n P Md St) (hst : St 0 hs) (hn : n ≤ sizeLine) (self : ∀ h Q, St 0 h → Q (.ref I) h → W z A (pyIter (.ref I)) h Q)
    (hnt : ∀ i h, St i h → ∀ b ∈ wr, ∀ xs, ¬ IsTup h b xs) (hfp : ∀ b ∈ fp, ∃ o, hs.get? b = some o)
    (F : MF hO nmO env.locals vsO hs) (hLw : env.locals ∉ wr) (hwO : ∀ b ∈ wr, hO.get? b = none)
    (hk : scope.kind = .function) (hcell : ∀ y ∈ scope.names, y.2 ≠ .cell)
    (V : Nat → List (Option Value) → Prop) (J : Nat → List Value → Heap → Prop)
    (J0 : ∀ h, Ext hs h → J 0 [] h) (hJ : ∀ i xs h h', J i xs h → TK h h' → J i xs h')
    (asg : ∀ C i v h1 vs (Q : Unit → Heap → Prop), i < n → P i v h1 → MF hO nmc C vs h1 → vs.length = nmc.length →
      (∀ h2 vs', V i vs' → vs'.length = nmc.length → MF hO nmc C vs' h2 → Keep (fun b => b = C) h1 h2 → TK h1 h2 → Q () h2) → W z A (assign tg (compEnvC scope cl C env) v) h1 Q)
    (step : ∀ C i xs h2 vs', i < n → V i vs' → MF hO nmc C vs' h2 → MF hO nmO env.locals vsO h2 → TK hs h2 → J i xs h2 →
      W z A (testsOf ifs (compEnvC scope cl C env)) h2 (fun ok h3 => if ok = true then W z A (eval elt (compEnvC scope cl C env)) h3 (fun x h4 => Ext h2 h4 ∧ J (i + 1) (xs ++ [x]) h4) else Ext h2 h3 ∧ J (i + 1) xs h3))
    (fin : ∀ D C xs h', hs.get? D = none → hs.get? C = none → D ≠ C → h'.IsList D xs.toArray → (∃ m, h'.Ns C m) → MF hO nmO env.locals vsO h' → Keep (fun b => b ∈ wr) hs h' → TK hs h' → J n xs h' → Post (.ref D) C h') :
    CompRun z A (.ListComp elt [⟨tg, iter, ifs, 0⟩] scope pos) scope cl env (newList []) I hs Post :=
  compRunL K hst hn self hnt hfp F hLw hwO hk hcell (fun _ => False) (fun _ h => h.elim) V (fun _ _ => J) (fun _ _ h _ _ _ e => J0 h e) (fun _ _ i xs h h' _ _ _ j _ t => hJ i xs h h' j t) asg
    (fun D C i xs h2 vs' hi hV _ _ _ FC FO kh tk j _ => (step C i xs h2 vs' hi hV FC FO tk j).mono fun ok h3 q => by
      cases ok with
      | false => simp only [Bool.false_eq_true, if_false] at q ⊢; exact ⟨q.1, TK.ext q.1, q.2⟩
      | true => simp only [if_true] at q ⊢; exact q.mono fun x h4 q4 => ⟨q4.1, TK.ext q4.1, q4.2⟩)
    (fun D C xs h' a b c d e f g hh i => fin D C xs h' a b c d e f (g.weak fun b hb => hb.elim id fun x => x.elim) hh i)

theorem not_tup_enum {h : Heap} {e it : Addr} {i : Int} {old : Value} (x : IsEnum h e it i old) : ∀ ys, ¬ IsTup h e ys := not_tup_cls x rfl (by decide)
theorem not_tup_titer {h : Heap} {it t : Addr} {i : Nat} (x : h.IsTupleIter it t i) : ∀ ys, ¬ IsTup h it ys := let ⟨o, ho, hc, _⟩ := x; not_tup_cls ho hc (by decide)
theorem not_tup_liter {h : Heap} {it t : Addr} {i : Nat} (x : h.IsListIter it t i) : ∀ ys, ¬ IsTup h it ys := let ⟨o, ho, hc, _⟩ := x; not_tup_cls ho hc (by decide)

noncomputable def okComp (scope : Scope) (env : Env) (nmc : List Str) : Bool :=
  scope.kind == .function && scope.names.all (fun y => !(y.2 == .cell)) && (List.range nmc.length).all (fun i => match nmc[i]? with | some x => okName (relabel scope env) nmc x i | none => false)

/-- [.. for x1, x2 in enumerate(a tuple)], the element making new things alone -/
theorem compEnumTup {elt iter : Expr} {scope : Scope} {pos tp p1 p2 : Pos} {x1 x2 : Str} {kt : Nat} {cl : List (Str × Addr)} {e I a : Addr} {hs hO : Heap} {nmO : List Str} {vsO : List (Option Value)} {vs : List Value} {k : Nat}
    {Post : Value → Addr → Heap → Prop} (r : Rm A k) (F : MF hO nmO env.locals vsO hs) (hE : IsEnum hs e I 0 .none) (hit : hs.IsTupleIter I a 0) (hT : IsTup hO a vs.toArray) (heO : hO.get? e = none) (hIO : hO.get? I = none) (heL : e ≠ env.locals) (hIL : I ≠ env.locals) (hne : e ≠ I)
    (hsz : vs.length ≤ sizeLine) (hok : okComp scope env [x1, x2] = true) (J : Nat → List Value → Heap → Prop) (J0 : ∀ h, Ext hs h → J 0 [] h) (hJ : ∀ i xs h h', J i xs h → TK h h' → J i xs h')
    (step : ∀ C (i : Nat) xs h2 x t, vs[i]? = some x → MF hO [x1, x2] C [some (.int (i : Int) t), some x] h2 → MF hO nmO env.locals vsO h2 → J i xs h2 → W z A (eval elt (compEnvC scope cl C env)) h2 (fun y h4 => Ext h2 h4 ∧ J (i + 1) (xs ++ [y]) h4))
    (fin : ∀ D C xs h', hs.get? D = none → hs.get? C = none → D ≠ C → h'.IsList D xs.toArray → (∃ m, h'.Ns C m) → MF hO nmO env.locals vsO h' → Keep (fun b => b ∈ [e, I]) hs h' → TK hs h' → J vs.length xs h' → Post (.ref D) C h') :
    CompRun z A (.ListComp elt [⟨.Tuple [.Name x1 p1, .Name x2 p2] kt tp, iter, [], 0⟩] scope pos) scope cl env (newList []) e hs Post := by
  simp only [okComp, Bool.and_eq_true, beq_iff_eq, List.all_eq_true, Bool.not_eq_true', beq_eq_false_iff_ne] at hok
  obtain ⟨⟨h1, h2⟩, h3⟩ := hok
  have o1 := h3 0 (by simp)
  have o2 := h3 1 (by simp)
  have hTs := F.keep
  have ha : ∃ o, hO.get? a = some o := let ⟨o, ho, _⟩ := hT; ⟨o, ho⟩
  obtain ⟨oa, hoa⟩ := ha
  have hae : a ≠ e := fun q => by rw [q, heO] at hoa; cases hoa
  have haI : a ≠ I := fun q => by rw [q, hIO] at hoa; cases hoa
  refine compRunP (nmc := [x1, x2]) (turnsEnumTup r.h e I a hne hae haI vs.toArray) ⟨⟨_, hE⟩, hit, IsTup.ext hT F.keep⟩ (by simpa using hsz) (fun h Q st q => ?_) (fun i h st b hb => ?_) (fun b hb => ?_) F
    (by simp [Ne.symm heL, Ne.symm hIL]) (fun b hb => ?_) h1 (fun y hy => h2 y hy) (fun i vs' => ∃ t x, vs[i]? = some x ∧ vs' = [some (.int (i : Int) t), some x]) J J0 hJ (fun C i v h1 ws Q hi hP FC hw q => ?_) (fun C i xs h2 vs' hi hV FC FO tk j => ?_) (fun D C xs h' a b c d e f g hh i => fin D C xs h' a b c d e f g hh (by simpa using i))
  · obtain ⟨⟨old, x⟩, _⟩ := st; exact W.iterEnum x q
  · obtain ⟨⟨old, x⟩, y, _⟩ := st
    simp only [List.mem_cons, List.not_mem_nil, or_false] at hb
    rcases hb with rfl | rfl
    · exact not_tup_enum x
    · exact not_tup_titer y
  · simp only [List.mem_cons, List.not_mem_nil, or_false] at hb
    rcases hb with rfl | rfl | rfl
    · exact ⟨_, hE⟩
    · obtain ⟨o, ho, _⟩ := hit; exact ⟨o, ho⟩
    · exact ⟨_, F.keep.get hoa⟩
  · simp only [List.mem_cons, List.not_mem_nil, or_false] at hb
    rcases hb with rfl | rfl
    · exact heO
    · exact hIO
  · obtain ⟨T, vals, rfl, ⟨t, x, hx, rfl⟩, hTT⟩ := hP
    exact asgPair r hTT FC hw (fun h2 F2 k2 t2 => q h2 _ ⟨t, x, by simpa using hx, rfl⟩ rfl F2 k2 t2) o1 o2
  · obtain ⟨t, x, hx, rfl⟩ := hV
    exact W.tests0 (by simp only [if_true]; exact step C i xs h2 x t hx FC FO j)
/-- what is made on a base is seen from the base before -/
theorem Ext.ofNewWr {h hs h' : Heap} {wr : List Addr} (x : Ext h hs) (y : Keep (fun b => b ∈ wr) hs h') (hw : ∀ b ∈ wr, h.get? b = none) : Ext h h' := fun b o _ e => y b o (fun q => by rw [hw b q] at e; cases e) (x.get e)

theorem zip_take {f : Int → Int → Int} {ka kb : List Int} {i : Nat} {x y : Int} (hx : ka[i]? = some x) (hy : kb[i]? = some y) : (List.zipWith f ka kb).take (i + 1) = (List.zipWith f ka kb).take i ++ [f x y] := by
  rw [List.take_add_one, List.getElem?_zipWith, hx, hy]; rfl

theorem W.tupV {value slice : Expr} {t : Addr} {xs : List Value} {u : Tok} {x : Value} {Q : Value → Heap → Prop} {j : Nat} (ht : IsTup h t xs.toArray) (hx : xs[j]? = some x) (hj : xs.length < 2 ^ 62) (q : Q x h)
    (hs : subscripted slice false (.ref t) (.int (j : Int) u) = operate [.ref t, .int (j : Int) u] (getItem (.ref t) (.int (j : Int) u)) := by rfl) :
    W z A (subscriptTail value slice (.ref t) (.int (j : Int) u)) h Q := W.tupC j ht q hx (by have := (List.getElem?_eq_some_iff.mp hx).1; omega) hs

theorem powers_product_W {va vb : Value} {ka kb : List Int} {k : Nat} {Q : Value → Heap → Prop} (G : GL z h) (r : Rm A (k + 2)) (ha : KeyAt h va ka) (hb : KeyAt h vb kb) (hl : ka.length = kb.length) (hn : ka.length ≤ 100)
    (q : ∀ h' v, Ext h h' → KeyAt h' v (List.zipWith (· + ·) ka kb) → Q v h') : W z A (call (.ref 44) [va, vb]) h Q := by
  refine W.defC 4 nm_powers_product [true, false] G r (lk_powers_product _) (cd_powers_product _) (by kernel_rfl!) rfl (by kernel_rfl!) fun L hb₀ h₁ e0 F R cells => ?_
  have G' := (G.ext e0).ext F.keep
  have hcell : hb₀.IsCell (L + 1) (some vb) := cells (Str.ofString "b") _ _ (by kernel_rfl!) (by kernel_rfl!)
  obtain ⟨a, vsa, rfl, Ta, Ia⟩ := ha.ext e0
  obtain ⟨b, vsb, rfl, Tb, Ib⟩ := hb.ext e0
  have la := intsAre_length Ia
  have lb := intsAre_length Ib
  have h100 : (100 : Nat) ≤ sizeLine := by decide
  refine W.cons (W.ret (W.callN (W.nb G' PyProof.Rows.boot_tuple (W.callT (W.sp ?_)))))
  refine W.lcomp (cl := [(Str.ofString "b", L + 1)]) (by kernel_rfl!) rfl (by decide +kernel) ?_
  refine W.callN (W.nb G' boot_enumerate (W.callT (W.sp (W.nl F 0 (W.sp0 (W.enumTup (IsTup.ext Ta F.keep) fun e I hs es he hI hne hE hit => W.iterEnum hE ⟨e, rfl, ?_⟩))))))
  have Fs := F.ext es
  have nO : ∀ x, h₁.get? x = none → hb₀.get? x = none := fun x hx => by
    cases e : hb₀.get? x with
    | none => rfl
    | some o => have := F.keep.get e; rw [hx] at this; cases this
  have nL : ∀ x, h₁.get? x = none → x ≠ L := fun x hx q => by obtain ⟨o, _, _, ho, _⟩ := F.ns; rw [← q, hx] at ho; cases ho
  refine compEnumTup (k := 0) (R.r.mono (Nat.zero_le _)) Fs hE hit Ta (nO e he) (nO I hI) (nL e he) (nL I hI) hne (by omega) (by kernel_rfl!)
    (fun i xs h => IntsAre xs ((List.zipWith (· + ·) ka kb).take i)) (fun _ _ => .nil) (fun _ _ _ _ j _ => j) (fun C i xs h2 x t hx FC FO j => ?_) (fun D C xs h' hD hC hDC hl' hm FO hk tk j => ?_)
  · obtain ⟨n1, t1, hn1, rfl⟩ := intsAre_get Ia hx
    have hlt : i < vsb.length := by have := (List.getElem?_eq_some_iff.mp hx).1; omega
    obtain ⟨n2, t2, hn2, hx2⟩ := intsAre_get Ib (List.getElem?_eq_getElem hlt)
    refine W.bin (W.nl FC 1 (W.sub (W.nc (c := L + 1) (hcell.keeps FC.keep.ks) (W.nl FC 0 (W.tupV (IsTup.ext Tb FC.keep) (x := .int n2 t2) (by rw [List.getElem?_eq_getElem hlt, hx2]) (by omega) (W.add fun t3 => ?_))) (by kernel_rfl!) (by kernel_rfl!))))
    refine ⟨fun _ _ _ e => e, ?_⟩
    rw [zip_take hn1 hn2]
    exact intsAre_snoc j _ _
  · refine ⟨hm, fun h'' hs'' => W.sp0 (W.tupOfList (xs := xs) R.r (isList_at hl' fun o e => (hs''.2 _ hDC).trans e) ?_ fun a' h3 e3 T3 _ => ?_)⟩
    · have := intsAre_length j; rw [List.length_take] at this; omega
    · rw [List.take_of_length_le (by rw [List.length_zipWith]; omega)] at j
      refine q h3 _ ?_ ⟨a', xs, rfl, T3, j⟩
      have x1 : Ext hb₀ h' := Ext.ofNewWr (Keep.trans F.keep es) hk fun b hb => by
        simp only [List.mem_cons, List.not_mem_nil, or_false] at hb
        rcases hb with rfl | rfl
        · exact nO _ he
        · exact nO _ hI
      refine (e0.trans ?_).trans e3
      intro b o _ e
      exact (hs''.2 b (fun q => by rw [q] at e; have := es.get (F.keep.get e); rw [hC] at this; cases this)).trans (x1.get e)
end
end NN
end

section
open PySem PySem.W PyProof.Rows
set_option linter.unusedVariables false
set_option linter.unusedSimpArgs false
namespace NN
set_option maxRecDepth 100000

/-- Python's > on tuples of ints -/
noncomputable def lexGt : List Int → List Int → Bool
  | x :: xs, y :: ys => if x = y then lexGt xs ys else decide (x > y)
  | [], _ => false
  | _ :: _, [] => true

section
variable {prog : Program} {w : World} {A : Around} {E : Value → Shared → Prop} {s : Shared}
theorem lexGt_nil (x y : List Int) (h : x = [] ∨ y = []) : lexGt x y = decide (x.length > y.length) := by
  match x, y, h with
  | [], y, _ => simp [lexGt]
  | a :: x, [], _ => simp [lexGt]

theorem itemsOfInts {vs : List Value} {ns : List Int} (h : IntsAre vs ns) : ItemsAre (intKind prog w) ns vs := by
  induction h with
  | nil => exact .nil
  | cons n t _ ih => exact .cons (intKind_is prog w n t) ih
theorem KeyAt.isKey {h : Heap} {a : Addr} {ks : List Int} (x : KeyAt h (.ref a) ks) : IsTupleKey (intKind prog w) h ks a := by
  obtain ⟨a', vs, e, ⟨o, ho, hc, n, hd⟩, I⟩ := x
  cases e
  exact ⟨o, vs.toArray, n, ho, hc, hd, itemsOfInts I⟩

theorem tuple_gt_tree {x y : List Int} {a b : Addr} {P : Fin → Shared → Prop} (hx : IsTupleKey (intKind prog w) s.heap x a) (hy : IsTupleKey (intKind prog w) s.heap y b) (h : P (.done (.ret (.bool (lexGt x y)))) s) :
    wpAny (model prog w) A (Builtin.«tuple.__gt__» ⟨[.ref a, .ref b], []⟩) P E s := by
  have hTb := hy.typeIs
  obtain ⟨oa, xs, na, hoa, _, hda, hia⟩ := hx
  obtain ⟨ob, ys, nb, hob, _, hdb, hib⟩ := hy
  show wpAny _ _ (isInstance (.ref b) (.type "tuple") >>= _) _ _ s
  refine wpAny_bind (wpAny_isInstance hTb isSubtype_tuple_tuple ?_)
  simp only [Bool.not_true, Bool.false_eq_true, if_false]
  refine wpAny_bind (wpAny_tupleItemsOf hoa hda ?_)
  refine wpAny_bind (wpAny_tupleItemsOf hob hdb ?_)
  refine wpAny_bind ?_
  refine wpAny_forIn_list _
    (fun rest r s' => r.1 = none ∧ s' = s ∧ ∃ x' y' xs' ys', rest = List.zip xs' ys' ∧ ItemsAre (intKind prog w) x' xs' ∧ ItemsAre (intKind prog w) y' ys' ∧ lexGt x' y' = lexGt x y ∧ (decide (xs'.length > ys'.length)) = decide (xs.size > ys.size))
    _ ?_ ?_ _ _ ⟨rfl, rfl, x, y, xs.toList, ys.toList, rfl, hia, hib, rfl, by simp⟩
  · rintro ⟨u, v⟩ rest r s' ⟨hr, rfl, x', y', xs', ys', hz, hx', hy', hdec, hlen⟩
    cases hx' with
    | nil => simp at hz
    | @cons k1 u' x'' xs'' h1 hx'' =>
      cases hy' with
      | nil => simp at hz
      | @cons k2 v' y'' ys'' h2 hy'' =>
        simp only [List.zip_cons_cons, List.cons.injEq, Prod.mk.injEq] at hz
        obtain ⟨⟨rfl, rfl⟩, rfl⟩ := hz
        refine wpAny_bind ((intKind prog w).eqBool (a := k1) (b := k2) h1 h2 ?_)
        by_cases hk : k1 = k2
        · subst hk
          rw [decide_eq_true rfl]
          simp only [Bool.not_true, Bool.false_eq_true, if_false]
          refine wpAny_pure ⟨rfl, rfl, x'', y'', xs'', ys'', rfl, hx'', hy'', ?_, by simpa using hlen⟩
          rw [← hdec]; simp [lexGt]
        · rw [decide_eq_false hk]
          simp only [Bool.not_false, if_true]
          obtain ⟨t1, rfl⟩ : ∃ t, u = .int k1 t := by
            have h1' : Value.isInt k1 u = true := h1
            cases u <;> simp_all [Value.isInt]
          obtain ⟨t2, rfl⟩ : ∃ t, v = .int k2 t := by
            have h2' : Value.isInt k2 v = true := h2
            cases v <;> simp_all [Value.isInt]
          refine wpAny_bind (wpAny_rule (wpAny_bind ?_))
          show wpAny _ _ (compareOp .Gt (.int k1 t1) (.int k2 t2)) _ _ _
          refine PyProof.Rows.gt_int ?_
          have e : decide (k2 < k1) = lexGt x y := by rw [← hdec]; simp [lexGt, hk]
          rw [e]
          exact wpAny_bind (wpAny_pure (wpAny_pure (wpAny_pure h)))
  · rintro ⟨r1, r2⟩ s' ⟨hr, rfl, x', y', xs', ys', hz, hx', hy', hdec, hlen⟩
    simp only at hr
    subst hr
    refine wpAny_pure ?_
    have hfin : decide (xs.size > ys.size) = lexGt x y := by
      rw [← hdec, ← hlen]
      cases hx' with
      | nil => simp [lexGt]
      | cons _ _ =>
        cases hy' with
        | nil => simp [lexGt]
        | cons _ _ => simp at hz
    show P (.done (.ret (.bool (decide (xs.size > ys.size))))) s'
    rw [hfin]; exact h

theorem gt_tuple {x y : List Int} {a b : Addr} {Q : Value → Shared → Prop} (hu : A.units < cLine) (hx : IsTupleKey (intKind prog w) s.heap x a) (hy : IsTupleKey (intKind prog w) s.heap y b) (h : Q (.bool (lexGt x y)) s) :
    wpAny (model prog w) A (compareOp .Gt (.ref a) (.ref b)) Q E s := by
  show wpAny _ _ (richCompare .Gt (.ref a) (.ref b)) Q E s
  exact wpAny_richCompare_same_room (op := .Gt) hx.typeIs hy.typeIs F.slot_tuple_gt
      (wpAny_call_entry F.slot_tuple_gt hx.typeIs F.entry_tuple_gt (tuple_gt_tree hx hy ⟨_, rfl, (fun e => nomatch e), h⟩) (F.args_tuple_gt_2 _ _)) hu
theorem eq_tuple {x y : List Int} {a b : Addr} {Q : Value → Shared → Prop} (hu : A.units < cLine) (hx : IsTupleKey (intKind prog w) s.heap x a) (hy : IsTupleKey (intKind prog w) s.heap y b) (h : Q (.bool (decide (x = y))) s) :
    wpAny (model prog w) A (compareOp .Eq (.ref a) (.ref b)) Q E s := by
  show wpAny _ _ (richCompare .Eq (.ref a) (.ref b)) Q E s
  exact wpAny_richCompare_same_room (op := .Eq) hx.typeIs hy.typeIs F.slot_tuple_eq
      (wpAny_call_entry F.slot_tuple_eq hx.typeIs F.entry_tuple_eq (tuple_eq_tree hx hy ⟨_, rfl, (fun e => nomatch e), h⟩) (F.args_tuple_eq_2 _ _)) hu

/-! ## a tuple turned round -/
theorem sliceApplied_rev {sl : Addr} {n : Nat} {u : Tok} {Q : Int × Int × Nat → Shared → Prop} (hs : s.heap.IsSliceOf sl .none .none (.int (-1) u)) (h : Q ((n : Int) - 1, -1, n) s) :
    wpAny (model prog w) A (Builtin.Slice.sliceApplied (.ref sl) (pure (n : Int))) Q E s := by
  obtain ⟨os, hos, hcs, hds⟩ := id hs
  unfold Builtin.Slice.sliceApplied Builtin.Slice.sliceFields
  refine wpAny_bind (wpAny_bind (wpAny_field hos hds (x := .none) rfl (wpAny_bind (wpAny_field hos hds (x := .none) rfl (wpAny_bind (wpAny_field hos hds (x := .int (-1) u) rfl (wpAny_pure ?_)))))))
  refine wpAny_bind (slicePart_int ?_)
  show wpAny _ _ (if ((-1 : Int) == 0) = true then _ else _) _ _ s
  rw [if_neg (by decide)]
  refine wpAny_bind (slicePart_none (wpAny_bind (slicePart_none (wpAny_bind (wpAny_pure ?_)))))
  show wpAny _ _ (pure ((n : Int) - 1, (-1 : Int), Builtin.Slice.slicePlaces ((n : Int) - 1) (-1) (-1))) _ _ s
  have e : Builtin.Slice.slicePlaces ((n : Int) - 1) (-1) (-1) = n := by
    unfold Builtin.Slice.slicePlaces
    have h1 : ¬ ((-1 : Int) > 0) := by decide
    have h2 : -(-1 : Int) = 1 := by decide
    simp only [h1, if_false, h2, Int.ediv_one]
    split <;> omega
  rw [e]
  exact wpAny_pure h
theorem filterMap_same {α β : Type} {f g : α → Option β} : ∀ {l : List α}, (∀ x ∈ l, f x = g x) → l.filterMap f = l.filterMap g
  | [], _ => rfl
  | a :: l, h => by
    rw [List.filterMap_cons, List.filterMap_cons, h a List.mem_cons_self, filterMap_same fun x hx => h x (List.mem_cons_of_mem _ hx)]
theorem pick_rev (xs : Array Value) : ((List.range xs.size).filterMap fun (k : Nat) => xs[(((xs.size : Int) - 1) + (k : Int) * (-1)).toNat]?).toArray = xs.toList.reverse.toArray := by
  congr 1
  refine List.ext_getElem? fun i => ?_
  have hf : ∀ k ∈ List.range xs.size, (fun (k : Nat) => xs[(((xs.size : Int) - 1) + (k : Int) * (-1)).toNat]?) k = (fun k => some (xs.toList.reverse[k]?.getD .none)) k := by
    intro k hk
    have := List.mem_range.mp hk
    have e : (((xs.size : Int) - 1) + (k : Int) * (-1)).toNat = xs.size - 1 - k := by omega
    simp only [e]
    rw [List.getElem?_reverse (by simpa using this)]
    simp only [Array.length_toList, Array.getElem?_toList]
    rw [Array.getElem?_eq_getElem (by omega)]
    rfl
  rw [filterMap_same hf]
  rw [show (fun k => some (xs.toList.reverse[k]?.getD Value.none)) = some ∘ (fun k => xs.toList.reverse[k]?.getD Value.none) from rfl, List.filterMap_eq_map, List.getElem?_map]
  by_cases hi : i < xs.size
  · rw [List.getElem?_range hi]
    rw [List.getElem?_eq_getElem (by simpa using hi)]
    simp only [Option.map_some, Option.some.injEq]
    rw [List.getElem?_eq_getElem (by simpa using hi)]
    rfl
  · rw [List.getElem?_eq_none (by simpa using hi), List.getElem?_eq_none (by simpa using hi)]; rfl

theorem getItem_tuple_rev {t sl : Addr} {items : Array Value} {u : Tok} {Q : Value → Shared → Prop} (ht : IsTup s.heap t items) (hs : s.heap.IsSliceOf sl .none .none (.int (-1) u))
    (h : Q (.ref s.heap.objs.size) { s with heap := s.heap.push { cls := .type "tuple", data := .seq items.toList.reverse.toArray } })
    (hsz : items.size ≤ sizeLine) : wpAny (model prog w) A (getItem (.ref t) (.ref sl)) Q E s := by
  have hdrop : sizeOk (.seq items.toList.reverse.toArray) := by
    show items.toList.reverse.toArray.size ≤ sizeLine
    rw [List.size_toArray, List.length_reverse, Array.length_toList]
    exact hsz
  obtain ⟨os, hos, hcs, hds⟩ := id hs
  have hTs : s.TypeIs (.ref sl) "slice" := ⟨os, hos, hcs⟩
  unfold getItem
  try with_reducible refine wpAny_holding ?_
  first | refine wpAny_bind (wpAny_pure ?_) | skip
  refine wpAny_bind (wpAny_sequenceKey ht.typeIs (by decide) ?_)
  refine wpAny_bind (wpAny_callSpecial?_slot (name := Str.ofString "__getitem__") ht.typeIs slot_tuple_getitem
    (wpAny_call_entry slot_tuple_getitem ht.typeIs entry_tuple_getitem ?_ (args_tuple_getitem _ _)))
  show wpAny _ _ (Builtin.Tuple.tupleItemsOf (.ref t) >>= _) _ _ s
  refine wpAny_bind (tupleItemsOf_ ht ?_)
  refine wpAny_bind (wpAny_typeOf hTs ?_)
  rw [if_pos (by decide)]
  refine wpAny_bind (sliceApplied_rev hs ?_)
  show wpAny _ _ (if (((items.size : Int) - 1) == 0 && (-1 : Int) == 1 && items.size == items.size) = true then _ else _) _ _ s
  rw [if_neg (by simp), pick_rev items]
  first
    | exact wpAny_bind (m := Builtin.Tuple.tupleExact _) (wpAny_newObj_type (wpAny_pure ⟨_, rfl, wpAny_pure h⟩) hdrop)
    | exact wpAny_bind (m := Builtin.Tuple.tupleExact _) (wpAny_newObj_type (wpAny_bind (wpAny_pure (wpAny_pure ⟨_, rfl, wpAny_pure h⟩))) hdrop)
    | exact wpAny_bind (wpAny_bind (m := Builtin.Tuple.tupleExact _) (wpAny_newObj_type (wpAny_pure (wpAny_pure ⟨_, rfl, wpAny_pure h⟩)) hdrop))
    | exact wpAny_bind (wpAny_bind (m := Builtin.Tuple.tupleExact _) (wpAny_newObj_type (wpAny_pure ⟨_, rfl, wpAny_pure h⟩) hdrop))
end

section
variable {z : Z} {A : Around} {h : Heap} {env : Env} {k : Nat}
theorem Rm.un {A : Around} {k : Nat} (r : Rm A k) : A.units < cLine := by have := r.u; omega
theorem W.gtT {va vb : Value} {x y : List Int} {Q : Value → Heap → Prop} (r : Rm A k) (ha : KeyAt h va x) (hb : KeyAt h vb y) (q : Q (.bool (lexGt x y)) h) : W z A (compareOp .Gt va vb) h Q := fun n => by
  obtain ⟨a, _, rfl, _⟩ := id ha
  obtain ⟨b, _, rfl, _⟩ := id hb
  exact gt_tuple (s := at_ z h n) r.un ha.isKey hb.isKey (W.ok q)
theorem W.eqT {va vb : Value} {x y : List Int} {Q : Value → Heap → Prop} (r : Rm A k) (ha : KeyAt h va x) (hb : KeyAt h vb y) (q : Q (.bool (decide (x = y))) h) : W z A (compareOp .Eq va vb) h Q := fun n => by
  obtain ⟨a, _, rfl, _⟩ := id ha
  obtain ⟨b, _, rfl, _⟩ := id hb
  exact eq_tuple (s := at_ z h n) r.un ha.isKey hb.isKey (W.ok q)
theorem RatAt.key {h : Heap} {v : Value} {q : Rat} (x : RatAt h v q) : KeyAt h v [q.num, (q.den : Int)] := let ⟨a, t, u, r, T⟩ := x; ⟨a, _, r, T, .cons _ _ (.cons _ _ .nil)⟩
theorem rat_key_eq (p q : Rat) : decide ([p.num, (p.den : Int)] = [q.num, (q.den : Int)]) = decide (p = q) := by
  by_cases h : p = q
  · subst h; simp
  · have : ¬ ([p.num, (p.den : Int)] = [q.num, (q.den : Int)]) := by
      intro e
      simp at e
      exact h (Rat.ext e.1 (by omega))
    simp [h, this]
theorem W.eqR {va vb : Value} {p q : Rat} {Q : Value → Heap → Prop} (r : Rm A k) (ha : RatAt h va p) (hb : RatAt h vb q) (c : Q (.bool (decide (p = q))) h) : W z A (compareOp .Eq va vb) h Q :=
  W.eqT r ha.key hb.key (by rw [rat_key_eq]; exact c)

theorem W.slice3 {st : Expr} {pos : Pos} {Q : Value → Heap → Prop} (q : W z A (eval st env) h (fun v h1 => ∀ a h2, Ext h1 h2 → h2.IsSliceOf a .none .none v → h1.get? a = none → Q (.ref a) h2)) : W z A (eval (.Slice none none (some st) pos) env) h Q := fun n => by
  show wpAny _ _ (do
    let l ← valueOrNone (evalOpt none env)
    let u ← PySem.holding [l] (valueOrNone (evalOpt none env))
    let s ← PySem.holding [l, u] (valueOrNone (evalOpt (some st) env))
    newFields "slice" [l, u, s]) _ _ _
  refine wpAny_bind (wpAny_pure (wpAny_bind (wpAny_holding (wpAny_pure (wpAny_bind (wpAny_holding ?_))))))
  show wpAny _ _ (eval st env) _ _ _
  refine q.use n fun v h1 n1 q1 => ?_
  exact wpAny_newObj_type (W.ok (q1 _ _ (Ext.push h1 _) (Heap.IsSliceOf.new ..) (fresh_size h1)))
theorem W.revTup {value : Expr} {st : Expr} {p : Pos} {t sl : Addr} {xs : List Value} {u : Tok} {Q : Value → Heap → Prop} (ht : IsTup h t xs.toArray) (hs : h.IsSliceOf sl .none .none (.int (-1) u)) (hsz : xs.length ≤ sizeLine)
    (q : ∀ a h', Ext h h' → IsTup h' a xs.reverse.toArray → Q (.ref a) h') : W z A (subscriptTail value (.Slice none none (some st) p) (.ref t) (.ref sl)) h Q := fun n =>
  tail_any (s := at_ z h n) (ops := [.ref t, .ref sl]) ht.typeIs slot_tuple_getitem.lookup (getItem_tuple_rev (s := at_ z h n) ht hs (W.ok (q _ _ (Ext.push h _) ⟨_, Heap.get?_push_size _ rfl, rfl, 0, rfl⟩)) (by simpa using hsz)) rfl

theorem W.sumTup {t : Addr} {vs : List Value} {ns : List Int} {Q : Value → Heap → Prop} (r : Rm A k) (hl : IsTup h t vs.toArray) (hi : IntsAre vs ns) (q : ∀ h' u, Ext h h' → Q (.int ns.sum u) h') : W z A (call (.builtin "sum") [.ref t]) h Q := fun n => by
  obtain ⟨xs, hx⟩ := hi.allInts.items
  have hn : numsOf vs.toArray.toList = ns := by rw [show vs.toArray.toList = vs from rfl, hi.numsOf]
  rw [hx] at hl hn
  rw [nums_intItems] at hn
  refine W.ktm_sumG (s := at_ z h n) r.h hl fun h' tk t' hk => ?_
  have e := q h' t' (Ext.of hk)
  rw [preSum_eq, List.take_of_length_le (by simp), hn]
  exact ⟨h', tk, rfl, e⟩
theorem W.addT {t b : Addr} {vs ws : List Value} {Q : Value → Heap → Prop} (ht : IsTup h t vs.toArray) (hb : IsTup h b ws.toArray) (hv : vs ≠ []) (hw : ws ≠ []) (hsz : vs.length + ws.length ≤ sizeLine)
    (q : ∀ a h', Ext h h' → IsTup h' a (vs ++ ws).toArray → Q (.ref a) h') : W z A (binaryOp .Add (.ref t) (.ref b)) h Q := fun n => by
  obtain ⟨⟨cls, dd, data, sl⟩, ho, hc, n1, hd⟩ := id ht
  obtain ⟨⟨cls2, dd2, data2, sl2⟩, ho2, hc2, n2, hd2⟩ := id hb
  simp only at hc hd hc2 hd2
  subst hc hd hc2 hd2
  have e : vs.toArray ++ ws.toArray = (vs ++ ws).toArray := by simp
  refine concat_meets (s := at_ z h n) ⟨_, ho, rfl⟩ ⟨_, ho2, rfl⟩ noFill_tuple_add seq_tuple_add PySem.F.slot_tuple_add PySem.F.entry_tuple_add (PySem.F.args_tuple_add_2 _ _)
        (tuple_addW2 t b vs.toArray ws.toArray n1 n2 dd dd2 sl sl2 (by simpa using hv) (by simpa using hw) (by rw [List.size_toArray, List.size_toArray]; exact hsz)) ⟨ho, ho2, ?_⟩
  rw [e]
  exact W.ok (q _ _ (Ext.push h _) ⟨_, Heap.get?_push_size _ rfl, rfl, 0, rfl⟩)
theorem W.eqS {x y : Str} {t u : Tok} {Q : Value → Heap → Prop} (q : Q (.bool (x == y)) h) : W z A (compareOp .Eq (.str x t) (.str y u)) h Q := fun n => PyProof.Rows.eq_str (W.ok q)
end
end NN
end

section
open PySem PySem.W PyProof.Rows
set_option linter.unusedVariables false
set_option linter.unusedSimpArgs false
namespace NN
set_option maxRecDepth 10000

inductive Ord where
  | lex | grlex | grevlex
  deriving DecidableEq
noncomputable def Ord.name : Ord → Str
  | .lex => Str.ofString "lex"
  | .grlex => Str.ofString "grlex"
  | .grevlex => Str.ofString "grevlex"
noncomputable def okey : Ord → List Int → List Int
  | .lex, ks => ks
  | .grlex, ks => ks.sum :: ks
  | .grevlex, ks => ks.sum :: ks.reverse.map fun x => -x
theorem name_lex (o : Ord) : (o.name == Str.ofString "lex") = decide (o = .lex) := by cases o <;> decide +kernel
theorem name_grlex (o : Ord) : (o.name == Str.ofString "grlex") = decide (o = .grlex) := by cases o <;> decide +kernel
theorem name_grevlex (o : Ord) : (o.name == Str.ofString "grevlex") = decide (o = .grevlex) := by cases o <;> decide +kernel

theorem none_of {h₀ h : Heap} (x : Ext h₀ h) {a : Addr} (e : h.get? a = none) : h₀.get? a = none := by
  cases q : h₀.get? a with
  | none => rfl
  | some o => have := x.get q; rw [e] at this; cases this
theorem MF.neL {h₀ h : Heap} {nm : List Str} {L : Addr} {vs : List (Option Value)} (F : MF h₀ nm L vs h) {a : Addr} (e : h.get? a = none) : a ≠ L := fun q => by
  obtain ⟨o, _, _, ho, _⟩ := F.ns; rw [← q, e] at ho; cases ho
theorem intsAre_reverse {vs : List Value} {ns : List Int} (h : IntsAre vs ns) : IntsAre vs.reverse ns.reverse := h.reverse

section
variable {z : Z} {A : Around} {h : Heap} {env : Env}
/-- [.. for x1 in a list or a tuple that stands], the element making new things alone -/
theorem compTup {elt iter : Expr} {ifs : List Expr} {scope : Scope} {pos p1 : Pos} {x1 : Str} {cl : List (Str × Addr)} {I a : Addr} {hs hO : Heap} {nmO : List Str} {vsO : List (Option Value)} {vs : List Value} {k : Nat}
    {Post : Value → Addr → Heap → Prop} (r : Rm A k) (F : MF hO nmO env.locals vsO hs) (hit : hs.IsTupleIter I a 0) (hT : IsTup hs a vs.toArray) (hIO : hO.get? I = none) (hIL : I ≠ env.locals) (haI : a ≠ I)
    (hsz : vs.length ≤ sizeLine) (hok : okComp scope env [x1] = true) (J : Nat → List Value → Heap → Prop) (J0 : ∀ h, Ext hs h → J 0 [] h) (hJ : ∀ i xs h h', J i xs h → TK h h' → J i xs h')
    (step : ∀ C (i : Nat) xs h2 x, vs[i]? = some x → MF hO [x1] C [some x] h2 → MF hO nmO env.locals vsO h2 → TK hs h2 → J i xs h2 →
      W z A (testsOf ifs (compEnvC scope cl C env)) h2 (fun ok h3 => if ok = true then W z A (eval elt (compEnvC scope cl C env)) h3 (fun y h4 => Ext h2 h4 ∧ J (i + 1) (xs ++ [y]) h4) else Ext h2 h3 ∧ J (i + 1) xs h3))
    (fin : ∀ D C xs h', hs.get? D = none → hs.get? C = none → D ≠ C → h'.IsList D xs.toArray → (∃ m, h'.Ns C m) → MF hO nmO env.locals vsO h' → Keep (fun b => b ∈ [I]) hs h' → TK hs h' → J vs.length xs h' → Post (.ref D) C h') :
    CompRun z A (.ListComp elt [⟨.Name x1 p1, iter, ifs, 0⟩] scope pos) scope cl env (newList []) I hs Post := by
  simp only [okComp, Bool.and_eq_true, beq_iff_eq, List.all_eq_true, Bool.not_eq_true', beq_eq_false_iff_ne] at hok
  obtain ⟨⟨h1, h2⟩, h3⟩ := hok
  have o1 := h3 0 (by simp)
  refine compRunP (nmc := [x1]) (W.KTurns.ofWalks (Walks.tuple r.h I a haI vs.toArray) fun i v s Q E _ hQ => by rw [letOwned_name]; exact wpAny_pure hQ) ⟨hit, hT⟩ (by simpa using hsz) (fun h Q st q n => wpAny_pyIter_tupleiter (s := at_ z h n) st.1 (W.ok q)) (fun i h st b hb => ?_) (fun b hb => ?_) F
    (by simp [Ne.symm hIL]) (fun b hb => by rw [List.mem_singleton.mp hb]; exact hIO) h1 (fun y hy => h2 y hy) (fun i vs' => ∃ x, vs[i]? = some x ∧ vs' = [some x]) J J0 hJ (fun C i v h1 ws Q hi hP FC hw q => ?_) (fun C i xs h2 vs' hi hV FC FO tk j => ?_) (fun D C xs h' a b c d e f g hh i => fin D C xs h' a b c d e f g hh (by simpa using i))
  · rw [List.mem_singleton.mp hb]; exact not_tup_titer st.1
  · simp only [List.mem_cons, List.not_mem_nil, or_false] at hb
    rcases hb with rfl | rfl
    · obtain ⟨o, ho, _⟩ := hit; exact ⟨o, ho⟩
    · obtain ⟨o, ho, _⟩ := hT; exact ⟨o, ho⟩
  · exact asgOne FC hw (fun h2 F2 k2 t2 => q h2 _ ⟨v, by simpa using hP, rfl⟩ rfl F2 k2 t2) o1
  · obtain ⟨x, hx, rfl⟩ := hV
    exact step C i xs h2 x hx FC FO tk j
theorem compLst {elt iter : Expr} {ifs : List Expr} {scope : Scope} {pos p1 : Pos} {x1 : Str} {cl : List (Str × Addr)} {I a : Addr} {hs hO : Heap} {nmO : List Str} {vsO : List (Option Value)} {vs : List Value} {k : Nat}
    {Post : Value → Addr → Heap → Prop} (r : Rm A k) (F : MF hO nmO env.locals vsO hs) (hit : hs.IsListIter I a 0) (hT : hs.IsList a vs.toArray) (hIO : hO.get? I = none) (hIL : I ≠ env.locals) (haI : a ≠ I)
    (hsz : vs.length ≤ sizeLine) (hok : okComp scope env [x1] = true) (J : Nat → List Value → Heap → Prop) (J0 : ∀ h, Ext hs h → J 0 [] h) (hJ : ∀ i xs h h', J i xs h → TK h h' → J i xs h')
    (step : ∀ C (i : Nat) xs h2 x, vs[i]? = some x → MF hO [x1] C [some x] h2 → MF hO nmO env.locals vsO h2 → TK hs h2 → J i xs h2 →
      W z A (testsOf ifs (compEnvC scope cl C env)) h2 (fun ok h3 => if ok = true then W z A (eval elt (compEnvC scope cl C env)) h3 (fun y h4 => Ext h2 h4 ∧ J (i + 1) (xs ++ [y]) h4) else Ext h2 h3 ∧ J (i + 1) xs h3))
    (fin : ∀ D C xs h', hs.get? D = none → hs.get? C = none → D ≠ C → h'.IsList D xs.toArray → (∃ m, h'.Ns C m) → MF hO nmO env.locals vsO h' → Keep (fun b => b ∈ [I]) hs h' → TK hs h' → J vs.length xs h' → Post (.ref D) C h') :
    CompRun z A (.ListComp elt [⟨.Name x1 p1, iter, ifs, 0⟩] scope pos) scope cl env (newList []) I hs Post := by
  simp only [okComp, Bool.and_eq_true, beq_iff_eq, List.all_eq_true, Bool.not_eq_true', beq_eq_false_iff_ne] at hok
  obtain ⟨⟨h1, h2⟩, h3⟩ := hok
  have o1 := h3 0 (by simp)
  refine compRunP (nmc := [x1]) (W.KTurns.ofWalks (Walks.list r.h I a haI vs.toArray) fun i v s Q E _ hQ => by rw [letOwned_name]; exact wpAny_pure hQ) ⟨hit, hT⟩ (by simpa using hsz) (fun h Q st q n => wpAny_pyIter_listiter (s := at_ z h n) st.1 (W.ok q)) (fun i h st b hb => ?_) (fun b hb => ?_) F
    (by simp [Ne.symm hIL]) (fun b hb => by rw [List.mem_singleton.mp hb]; exact hIO) h1 (fun y hy => h2 y hy) (fun i vs' => ∃ x, vs[i]? = some x ∧ vs' = [some x]) J J0 hJ (fun C i v h1 ws Q hi hP FC hw q => ?_) (fun C i xs h2 vs' hi hV FC FO tk j => ?_) (fun D C xs h' a b c d e f g hh i => fin D C xs h' a b c d e f g hh (by simpa using i))
  · rw [List.mem_singleton.mp hb]; exact not_tup_liter st.1
  · simp only [List.mem_cons, List.not_mem_nil, or_false] at hb
    rcases hb with rfl | rfl
    · obtain ⟨o, ho, _⟩ := hit; exact ⟨o, ho⟩
    · obtain ⟨o, ho, _⟩ := hT; exact ⟨o, ho⟩
  · exact asgOne FC hw (fun h2 F2 k2 t2 => q h2 _ ⟨v, by simpa using hP, rfl⟩ rfl F2 k2 t2) o1
  · obtain ⟨x, hx, rfl⟩ := hV
    exact step C i xs h2 x hx FC FO tk j

theorem order_key_W {o : Ord} {t : Tok} {v : Value} {ks : List Int} {k : Nat} {Q : Value → Heap → Prop} (G : GL z h) (r : Rm A (k + 2)) (hk : KeyAt h v ks) (h1 : ks ≠ []) (hn : ks.length ≤ 100)
    (q : ∀ h' r, Ext h h' → KeyAt h' r (okey o ks) → Q r h') : W z A (call (.ref 39) [.str o.name t, v]) h Q := by
  refine W.def 3 nm_order_key G r (lk_order_key _) (cd_order_key _) (by kernel_rfl!) (by kernel_rfl!) fun L h₁ F R => ?_
  have G' := G.ext F.keep
  have r' := R.r
  have h100 : 200 ≤ sizeLine := by decide
  have kk := hk.ext F.keep
  obtain ⟨a, vs, rfl, T, I⟩ := id kk
  have lv := intsAre_length I
  have hvs : vs ≠ [] := fun e => by subst e; exact h1 (List.length_eq_zero_iff.mp lv.symm)
  refine W.cons (W.iff (W.tcmp (W.nl F 0 (W.cstr fun _ => W.eqS (W.tb ?_)))))
  rw [name_lex]
  by_cases c1 : o = .lex
  · subst c1
    rw [if_pos (by simp)]
    exact W.cons (W.ret (W.nl F 1 (q _ _ F.keep kk)))
  rw [if_neg (by simpa using c1)]
  refine W.nil (W.cons (W.iff (W.tcmp (W.nl F 0 (W.cstr fun _ => W.eqS (W.tb ?_))))))
  rw [name_grlex]
  by_cases c2 : o = .grlex
  · subst c2
    rw [if_pos (by simp)]
    refine W.cons (W.ret (W.bin (W.tuple (W.sp (W.callN (W.nb G' boot_sum (W.callB (W.sp (W.nl F 1 (W.sp0 (W.sumTup r' T I fun h2 u e2 => ?_)))))))))))
    refine W.sp0 (W.newTup fun a2 h3 e3 T3 _ => W.nl ((F.ext e2).ext e3) 1 (W.addT T3 ((IsTup.ext T e2 |> fun x => IsTup.ext x e3)) (by simp) hvs (by simp; omega) fun a4 h4 e4 T4 => ?_))
    exact q h4 _ (((F.keep.trans e2).trans e3).trans e4) ⟨a4, _, rfl, T4, .cons _ _ I⟩
  rw [if_neg (by simpa using c2)]
  refine W.nil (W.cons (W.iff (W.tcmp (W.nl F 0 (W.cstr fun _ => W.eqS (W.tb ?_))))))
  rw [name_grevlex]
  have c3 : o = .grevlex := by cases o <;> simp_all
  subst c3
  rw [if_pos (by simp)]
  refine W.cons (W.ret (W.bin (W.tuple (W.sp (W.callN (W.nb G' boot_sum (W.callB (W.sp (W.nl F 1 (W.sp0 (W.sumTup r' T I fun h2 u e2 => ?_)))))))))))
  refine W.sp0 (W.newTup fun a2 h3 e3 T3 _ => ?_)
  have e13 : Ext h₁ h3 := e2.trans e3
  have F3 := F.ext e13
  have G3 := G'.ext e13
  refine W.callN (W.nb G3 PyProof.Rows.boot_tuple (W.callT (W.sp ?_)))
  refine W.lcomp (cl := []) (by kernel_rfl!) rfl (by decide +kernel) ?_
  refine W.sub (W.nl F3 1 (W.slice3 (W.un (W.cint fun _ => W.neg fun tm => fun sl h4 e4 hsl _ => ?_))))
  refine W.revTup (xs := vs) (IsTup.ext (IsTup.ext T e13) e4) hsl (by omega) fun ar h5 e5 T5 => W.iterTup T5 fun I6 hs e6 hI6 hit => ⟨I6, rfl, ?_⟩
  have e36 : Ext h3 hs := (e4.trans e5).trans e6
  have F6 := F3.ext e36
  have hI1 : h₁.get? I6 = none := none_of (e13.trans (e4.trans e5)) hI6
  refine compTup (vs := vs.reverse) r' F6 hit (IsTup.ext T5 e6) (none_of F.keep hI1) (F.neL hI1) (fun q => by obtain ⟨o, ho, _⟩ := T5; rw [q, hI6] at ho; cases ho) (by simp; omega) (by kernel_rfl!)
    (fun i xs h => IntsAre xs ((ks.reverse.map fun x => -x).take i)) (fun _ _ => .nil) (fun _ _ _ _ j _ => j) (fun C i xs h2 x hx FC FO tk j => ?_) (fun D C xs h' hD hC hDC hl' hm FO hk tk j => ?_)
  · obtain ⟨n1, t1, hn1, rfl⟩ := intsAre_get (intsAre_reverse I) hx
    refine W.tests0 ?_
    rw [if_pos rfl]
    refine W.un (W.nl FC 0 (W.neg fun t3 => ⟨fun _ _ _ e => e, ?_⟩))
    rw [List.take_add_one, List.getElem?_map, hn1]
    exact intsAre_snoc j _ _
  · refine ⟨hm, fun h'' hs'' => W.sp0 (W.tupOfList (xs := xs) r' (isList_at hl' fun o e => (hs''.2 _ hDC).trans e) ?_ fun a' h7 e7 T7 _ => ?_)⟩
    · have := intsAre_length j; simp at this; omega
    · rw [List.take_of_length_le (by simp; omega)] at j
      have x1 : Ext h3 h' := Ext.ofNewWr e36 hk fun b hb => by rw [List.mem_singleton.mp hb]; exact none_of (e4.trans e5) hI6
      have x2 : Ext h3 h'' := fun b o _ e => (hs''.2 b (fun q => by rw [q] at e; have := e36.get e; rw [hC] at this; cases this)).trans (x1.get e)
      have lx : xs.length = ks.length := by simpa using intsAre_length j
      refine W.addT (IsTup.ext (IsTup.ext T3 x2) e7) T7 (by simp) (fun e => by subst e; exact h1 (List.length_eq_zero_iff.mp lx.symm)) (by show 1 + xs.length ≤ sizeLine; omega) fun a8 h8 e8 T8 => ?_
      exact q h8 _ (((F.keep.trans e13).trans x2).trans (e7.trans e8)) ⟨a8, _, rfl, T8, .cons _ _ j⟩

theorem powers_quotient_W {va vb : Value} {ka kb : List Int} {k : Nat} {Q : Value → Heap → Prop} (G : GL z h) (r : Rm A (k + 2)) (ha : KeyAt h va ka) (hb : KeyAt h vb kb) (hl : ka.length = kb.length) (hn : ka.length ≤ 100)
    (q : ∀ h' v, Ext h h' → KeyAt h' v (List.zipWith (· - ·) ka kb) → Q v h') : W z A (call (.ref 56) [va, vb]) h Q := by
  refine W.defC 6 nm_powers_quotient [true, false] G r (lk_powers_quotient _) (cd_powers_quotient _) (by kernel_rfl!) rfl (by kernel_rfl!) fun L hb₀ h₁ e0 F R cells => ?_
  have G' := (G.ext e0).ext F.keep
  have hcell : hb₀.IsCell (L + 1) (some vb) := cells (Str.ofString "b") _ _ (by kernel_rfl!) (by kernel_rfl!)
  obtain ⟨a, vsa, rfl, Ta, Ia⟩ := ha.ext e0
  obtain ⟨b, vsb, rfl, Tb, Ib⟩ := hb.ext e0
  have la := intsAre_length Ia
  have lb := intsAre_length Ib
  have h100 : (100 : Nat) ≤ sizeLine := by decide
  refine W.cons (W.ret (W.callN (W.nb G' PyProof.Rows.boot_tuple (W.callT (W.sp ?_)))))
  refine W.lcomp (cl := [(Str.ofString "b", L + 1)]) (by kernel_rfl!) rfl (by decide +kernel) ?_
  refine W.callN (W.nb G' boot_enumerate (W.callT (W.sp (W.nl F 0 (W.sp0 (W.enumTup (IsTup.ext Ta F.keep) fun e I hs es he hI hne hE hit => W.iterEnum hE ⟨e, rfl, ?_⟩))))))
  have Fs := F.ext es
  refine compEnumTup (k := 0) (R.r.mono (Nat.zero_le _)) Fs hE hit Ta (none_of F.keep he) (none_of F.keep hI) (F.neL he) (F.neL hI) hne (by omega) (by kernel_rfl!)
    (fun i xs h => IntsAre xs ((List.zipWith (· - ·) ka kb).take i)) (fun _ _ => .nil) (fun _ _ _ _ j _ => j) (fun C i xs h2 x t hx FC FO j => ?_) (fun D C xs h' hD hC hDC hl' hm FO hk tk j => ?_)
  · obtain ⟨n1, t1, hn1, rfl⟩ := intsAre_get Ia hx
    have hlt : i < vsb.length := by have := (List.getElem?_eq_some_iff.mp hx).1; omega
    obtain ⟨n2, t2, hn2, hx2⟩ := intsAre_get Ib (List.getElem?_eq_getElem hlt)
    refine W.bin (W.nl FC 1 (W.sub (W.nc (c := L + 1) (hcell.keeps FC.keep.ks) (W.nl FC 0 (W.tupV (IsTup.ext Tb FC.keep) (x := .int n2 t2) (by rw [List.getElem?_eq_getElem hlt, hx2]) (by omega) (W.subI fun t3 => ?_))) (by kernel_rfl!) (by kernel_rfl!))))
    refine ⟨fun _ _ _ e => e, ?_⟩
    rw [zip_take hn1 hn2]
    exact intsAre_snoc j _ _
  · refine ⟨hm, fun h'' hs'' => W.sp0 (W.tupOfList (xs := xs) R.r (isList_at hl' fun o e => (hs''.2 _ hDC).trans e) ?_ fun a' h3 e3 T3 _ => ?_)⟩
    · have := intsAre_length j; rw [List.length_take] at this; omega
    · rw [List.take_of_length_le (by rw [List.length_zipWith]; omega)] at j
      refine q h3 _ ?_ ⟨a', xs, rfl, T3, j⟩
      have x1 : Ext hb₀ h' := Ext.ofNewWr (Keep.trans F.keep es) hk fun b hb => by
        simp only [List.mem_cons, List.not_mem_nil, or_false] at hb
        rcases hb with rfl | rfl
        · exact none_of F.keep he
        · exact none_of F.keep hI
      refine (e0.trans ?_).trans e3
      intro b o _ e
      exact (hs''.2 b (fun q => by rw [q] at e; have := es.get (F.keep.get e); rw [hC] at this; cases this)).trans (x1.get e)

/-- each exponent at most the other's -/
noncomputable def pdiv (ka kb : List Int) : Bool := (List.zipWith (fun x y => decide (x ≤ y)) ka kb).all id

theorem powers_divide_W {va vb : Value} {ka kb : List Int} {k : Nat} {Q : Value → Heap → Prop} (G : GL z h) (r : Rm A (k + 2)) (ha : KeyAt h va ka) (hb : KeyAt h vb kb) (hl : ka.length = kb.length) (hn : ka.length ≤ 100)
    (q : ∀ h', Ext h h' → Q (.bool (pdiv ka kb)) h') : W z A (call (.ref 51) [va, vb]) h Q := by
  refine W.def 5 nm_powers_divide G r (lk_powers_divide _) (cd_powers_divide _) (by kernel_rfl!) (by kernel_rfl!) fun L h₁ F R => ?_
  have G' := G.ext F.keep
  have r' := R.r
  obtain ⟨a, vsa, rfl, Ta, Ia⟩ := id ha
  obtain ⟨b, vsb, rfl, Tb, Ib⟩ := id hb
  have la := intsAre_length Ia
  have lb := intsAre_length Ib
  refine W.cons (W.forS (W.callN (W.nb G' boot_enumerate (W.callT (W.sp (W.nl F 0 (W.sp0 (W.enumTup (IsTup.ext Ta F.keep) fun e I hs es he hI hne hE hit => W.iterEnum hE ?_))))))))
  have hae : a ≠ e := fun q => by obtain ⟨o, ho, _⟩ := IsTup.ext Ta F.keep; rw [q, he] at ho; cases ho
  have haI : a ≠ I := fun q => by obtain ⟨o, ho, _⟩ := IsTup.ext Ta F.keep; rw [q, hI] at ho; cases ho
  have hwr : ∀ b ∈ [e, I], h.get? b = none := fun b hb => by
    simp only [List.mem_cons, List.not_mem_nil, or_false] at hb
    rcases hb with rfl | rfl
    · exact none_of F.keep he
    · exact none_of F.keep hI
  refine Loop.intro (turnsEnumTup r'.h e I a hne hae haI vsa.toArray) (fun i h' => (∃ v1 v2, MF h nm_powers_divide L [some (.ref a), some (.ref b), v1, v2] h') ∧ ((List.zipWith (fun x y => decide (x ≤ y)) ka kb).take i).all id = true) ⟨⟨_, hE⟩, hit, IsTup.ext (IsTup.ext Ta F.keep) es⟩
    ⟨⟨none, none, F.ext es⟩, rfl⟩ (fun i h1 h2 j kk => ⟨?_, j.2⟩) (fun i v h1 hi hP j => ?_) (fun h' j => ?_)
  · obtain ⟨⟨v1, v2, F1⟩, _⟩ := j
    exact ⟨v1, v2, F1.keepD kk (by simp [Ne.symm (F.neL he), Ne.symm (F.neL hI)]) hwr⟩
  · obtain ⟨T, vals, rfl, ⟨t, x, hx, rfl⟩, hTT⟩ := hP
    obtain ⟨⟨v1, v2, F1⟩, jj⟩ := j
    have hx' : vsa[i]? = some x := by simpa using hx
    obtain ⟨n1, t1, hn1, rfl⟩ := intsAre_get Ia hx'
    have hlt : i < vsb.length := by have := (List.getElem?_eq_some_iff.mp hx').1; omega
    obtain ⟨n2, t2, hn2, hx2⟩ := intsAre_get Ib (List.getElem?_eq_getElem hlt)
    refine W.asgP r' hTT fun h2 e2 => W.asgN (W.store (F1.ext e2) 2 fun h3 F3 s3 => W.asgN (W.store F3 3 fun h4 F4 s4 => ?_))
    refine W.cons (W.iff (W.tcmp (W.nl F4 3 (W.sub (W.nl F4 1 (W.nl F4 2 (W.tupV (IsTup.ext Tb F4.keep) (x := .int n2 t2) (by rw [List.getElem?_eq_getElem hlt, hx2]) (by omega) (W.gtI (W.tb ?_)))))))))
    by_cases c : n2 < n1
    · rw [if_pos (by simpa using c)]
      refine W.cons (W.ret (W.cbool ?_))
      have e1 : pdiv ka kb = false := by
        unfold pdiv
        rw [List.all_eq_false]
        refine ⟨decide (n1 ≤ n2), ?_, by simp; omega⟩
        exact List.mem_of_getElem? (i := i) (by rw [List.getElem?_zipWith, hn1, hn2])
      rw [← e1]
      exact q _ F4.keep
    · rw [if_neg (by simpa using c)]
      refine W.nil (W.nil ⟨⟨⟨_, _, F4⟩, ?_⟩, fun b hb o e0 => ?_⟩)
      · rw [List.take_add_one, List.getElem?_zipWith, hn1, hn2]
        simp only [List.all_append, Option.toList_some, List.all_cons, List.all_nil, Bool.and_true, Bool.and_eq_true, id]
        exact ⟨jj, by simp; omega⟩
      · have hbL : b ≠ L := by
          simp only [List.mem_cons, List.not_mem_nil, or_false] at hb
          rcases hb with rfl | rfl | rfl
          · exact F.neL he
          · exact F.neL hI
          · intro q; obtain ⟨o, ho, _⟩ := Ta; rw [q, F.fresh] at ho; cases ho
        exact (s4.2 b hbL).trans ((s3.2 b hbL).trans (e2.get e0))
  · obtain ⟨⟨v1, v2, F1⟩, jj⟩ := j
    refine W.cons (W.ret (W.cbool ?_))
    have e1 : pdiv ka kb = true := by
      unfold pdiv
      rw [List.take_of_length_le (by simp; omega)] at jj
      exact jj
    rw [← e1]
    exact q _ F1.keep
end
end NN
end

section
open PySem PySem.W PyProof.Rows
set_option linter.unusedVariables false
set_option linter.unusedSimpArgs false
namespace NN
set_option maxRecDepth 100000

/-! ## polynomials: exponents and rationals, in the dict's order -/
noncomputable abbrev Poly := List (List Int × Rat)
noncomputable def plook (P : Poly) (k : List Int) : Option Rat := (P.find? fun e => decide (e.1 = k)).map (·.2)
noncomputable def pput (k : List Int) (q : Rat) (e : List Int × Rat) : List Int × Rat := if e.1 = k then (e.1, q) else e
noncomputable def pset (P : Poly) (k : List Int) (q : Rat) : Poly := if (plook P k).isSome then P.map (pput k q) else P ++ [(k, q)]
noncomputable def pdel (P : Poly) (k : List Int) : Poly := P.filter fun e => !decide (e.1 = k)

noncomputable abbrev KK2 (z : Z) : HeapKind Pr z.w (List Int) := tupleKind (intKind Pr z.w)
inductive Ents (h : Heap) : List (List Int × Addr × Value) → Poly → Prop
  | nil : Ents h [] []
  | cons {k a v q xs P} : RatAt h v q → Ents h xs P → Ents h ((k, a, v) :: xs) ((k, q) :: P)
theorem Ents.tk {h h' : Heap} {xs P} (x : Ents h xs P) (t : TK h h') : Ents h' xs P := by
  induction x with
  | nil => exact .nil
  | cons r _ ih => exact .cons (r.tk t) ih
theorem Ents.keys {h : Heap} {xs P} (x : Ents h xs P) : xs.map (·.1) = P.map (·.1) := by
  induction x with
  | nil => rfl
  | cons r _ ih => simp [ih]
theorem Ents.len {h : Heap} {xs P} (x : Ents h xs P) : xs.length = P.length := by
  have := congrArg List.length x.keys; simpa using this
theorem Ents.look {h : Heap} {xs P} (x : Ents h xs P) (k : List Int) : (atKey xs k = none ∧ plook P k = none) ∨ ∃ p q, atKey xs k = some p ∧ plook P k = some q ∧ RatAt h p.2 q := by
  induction x with
  | nil => exact .inl ⟨rfl, rfl⟩
  | @cons k' a v q xs P r _ ih =>
    unfold atKey plook at ih ⊢
    by_cases e : k' = k
    · subst e; right; exact ⟨(a, v), q, by simp, by simp, r⟩
    · have e' : decide (k' = k) = false := by simpa using e
      simpa [List.find?_cons, e, e'] using ih
theorem Ents.append {h : Heap} {xs P} (x : Ents h xs P) {k a v q} (r : RatAt h v q) : Ents h (xs ++ [(k, a, v)]) (P ++ [(k, q)]) := by
  induction x with
  | nil => exact .cons r .nil
  | cons r' _ ih => exact .cons r' ih
theorem Ents.put {h : Heap} {xs P} (x : Ents h xs P) {k v q} (r : RatAt h v q) : Ents h (xs.map (putAt k v)) (P.map (pput k q)) := by
  induction x with
  | nil => exact .nil
  | @cons k' a v' q' xs P r' _ ih =>
    simp only [List.map_cons, putAt, pput]
    by_cases e : k' = k
    · simp only [e, if_true]; exact .cons r ih
    · simp only [e, if_false]; exact .cons r' ih
theorem Ents.set {h : Heap} {xs P} (x : Ents h xs P) {k a v q} (r : RatAt h v q) : Ents h (storedH xs k a v) (pset P k q) := by
  unfold storedH pset
  rcases x.look k with ⟨e1, e2⟩ | ⟨p, q', e1, e2, _⟩
  · rw [e1, e2]; exact x.append r
  · rw [e1, e2]; exact x.put r
theorem Ents.get {h : Heap} {xs P} (x : Ents h xs P) : ∀ {i : Nat} {k a v}, xs[i]? = some (k, a, v) → ∃ q, P[i]? = some (k, q) ∧ RatAt h v q := by
  induction x with
  | nil => intro i k a v e; simp at e
  | @cons k' a' v' q' xs P r' _ ih =>
    intro i k a v e
    cases i with
    | zero => simp at e; obtain ⟨rfl, rfl, rfl⟩ := e; exact ⟨q', by simp, r'⟩
    | succ i => simp at e; obtain ⟨q, a, b⟩ := ih e; exact ⟨q, by simpa using a, b⟩
theorem Ents.eraseIdx {h : Heap} {xs P} (x : Ents h xs P) : ∀ (i : Nat), Ents h (xs.eraseIdx i) (P.eraseIdx i) := by
  induction x with
  | nil => intro i; simp; exact .nil
  | cons r _ ih =>
    intro i
    cases i with
    | zero => simpa using by assumption
    | succ i => simpa using .cons r (ih i)

/-- the dict at d is the polynomial P -/
noncomputable def PolyAt (z : Z) (h : Heap) (d : Addr) (P : Poly) : Prop := ∃ xs, h.DictOfH (KK2 z) d xs ∧ Ents h xs P
theorem isKey_tk {z : Z} {h h' : Heap} {ks : List Int} {a : Addr} (x : (KK2 z).is h ks a) (t : TK h h') : (KK2 z).is h' ks a := by
  obtain ⟨o, items, n, ho, hc, hd, hi⟩ := x
  obtain ⟨o', ho', hc', n', hd'⟩ := t a items ⟨o, ho, hc, n, hd⟩
  exact ⟨o', items, n', ho', hc', hd', hi⟩
theorem PolyAt.move {z : Z} {h h' : Heap} {d : Addr} {P : Poly} (x : PolyAt z h d P) (t : TK h h') (e : ∀ o, h.get? d = some o → h'.get? d = some o) : PolyAt z h' d P := by
  obtain ⟨xs, ⟨o, es, ep, ho, hc, hd, he, hi, hn⟩, E⟩ := x
  exact ⟨xs, ⟨o, es, ep, e o ho, hc, hd, he, fun y hy => isKey_tk (hi y hy) t, hn⟩, E.tk t⟩
theorem PolyAt.ext {z : Z} {h h' : Heap} {d : Addr} {P : Poly} (x : PolyAt z h d P) (e : Ext h h') : PolyAt z h' d P := x.move (TK.ext e) fun o ho => e.get ho
theorem PolyAt.nodup {z : Z} {h : Heap} {d : Addr} {P : Poly} (x : PolyAt z h d P) : (P.map (·.1)).Nodup := by
  obtain ⟨xs, ⟨o, es, ep, ho, hc, hd, he, hi, hn⟩, E⟩ := x
  rw [← E.keys]; exact hn
theorem PolyAt.some {z : Z} {h : Heap} {d : Addr} {P : Poly} (x : PolyAt z h d P) : ∃ o, h.get? d = some o := by
  obtain ⟨xs, ⟨o, es, ep, ho, _⟩, E⟩ := x; exact ⟨o, ho⟩
theorem PolyAt.notTup {z : Z} {h : Heap} {d : Addr} {P : Poly} (x : PolyAt z h d P) : ∀ ys, ¬ IsTup h d ys := by
  obtain ⟨xs, ⟨o, es, ep, ho, hc, _⟩, E⟩ := x
  exact not_tup_cls ho hc.1 (by decide)

section
variable {z : Z} {A : Around} {h : Heap} {env : Env} {k : Nat}
theorem Rm.room {A : Around} {k : Nat} (r : Rm A (k + 1)) (z : Z) : (KK2 z).room A.in1 := (r.in1).un
theorem KeyAt.isK {v : Value} {ks : List Int} (x : KeyAt h v ks) (z : Z) : ∃ a, v = .ref a ∧ (KK2 z).is h ks a := by
  obtain ⟨a, _, rfl, _⟩ := id x
  exact ⟨a, rfl, x.isKey⟩
theorem K3 {z : Z} {h : Heap} (G : GL z h) {d : Addr} (hd : (KK z.w).lookup 3 ≠ none) : True := trivial

theorem W.inD {v : Value} {d : Addr} {ks : List Int} {P : Poly} {Q : Value → Heap → Prop} (r : Rm A (k + 1)) (hk : KeyAt h v ks) (hd : (d == sysModules) = false) (hP : PolyAt z h d P) (q : Q (.bool (plook P ks).isSome) h) : W z A (compareOp .In v (.ref d)) h Q := fun n => by
  obtain ⟨a, rfl, hk2⟩ := hk.isK z
  obtain ⟨xs, D, E⟩ := hP
  refine wpAny_in_heap (s := at_ z h n) (r.room z) hk2 hd D ?_
  rcases E.look ks with ⟨e1, e2⟩ | ⟨p, q', e1, e2, _⟩
  · rw [e1]; rw [e2] at q; exact ⟨h, _, rfl, q⟩
  · rw [e1]; rw [e2] at q; exact ⟨h, _, rfl, q⟩
theorem W.getD {value slice : Expr} {v : Value} {d : Addr} {ks : List Int} {P : Poly} {c : Rat} {Q : Value → Heap → Prop} (r : Rm A (k + 1)) (hk : KeyAt h v ks) (hP : PolyAt z h d P) (hl : plook P ks = some c) (q : ∀ x, RatAt h x c → Q x h)
    (hs : ∀ a, subscripted slice false (.ref d) (.ref a) = operate [.ref d, .ref a] (getItem (.ref d) (.ref a)) := by intro _; rfl) : W z A (subscriptTail value slice (.ref d) v) h Q := fun n => by
  obtain ⟨a, rfl, hk2⟩ := hk.isK z
  obtain ⟨xs, D, E⟩ := hP
  rcases E.look ks with ⟨e1, e2⟩ | ⟨p, q', e1, e2, hr⟩
  · rw [e2] at hl; cases hl
  · rw [e2] at hl; cases hl
    exact tail_any (s := at_ z h n) D.typeIs slot_dict_getitem.lookup (wpAny_getItem_heap (s := at_ z h n) (r.room z) hk2 D e1 ⟨h, _, rfl, q _ hr⟩) (hs a)
theorem PolyAt.setIn {z : Z} {h h' : Heap} {d a : Addr} {ks : List Int} {v : Value} {c : Rat} {xs P} (D' : h'.DictOfH (KK2 z) d (storedH xs ks a v)) (E : Ents h xs P) (hv : RatAt h v c) (t : TK h h') : PolyAt z h' d (pset P ks c) := ⟨_, D', (E.set hv).tk t⟩
theorem W.setD {vk v : Value} {d : Addr} {ks : List Int} {P : Poly} {c : Rat} {Q : Unit → Heap → Prop} (r : Rm A (k + 1)) (hk : KeyAt h vk ks) (hP : PolyAt z h d P) (hv : RatAt h v c) (hsz : P.length ≤ sizeLine)
    (q : ∀ h', PolyAt z h' d (pset P ks c) → Heap.SameBut d h h' → TK h h' → Q () h') : W z A (setItem (.ref d) vk v) h Q := fun n => by
  obtain ⟨a, rfl, hk2⟩ := hk.isK z
  have nt := hP.notTup
  obtain ⟨xs, D, E⟩ := hP
  refine wpAny_setItem_heap (s := at_ z h n) (hsz := by rw [E.len]; exact hsz) (r.room z) hk2 D fun h' D' hs => ?_
  have t : TK h h' := TK.keep (Keep.same hs) fun b hb => by rw [hb]; exact nt
  exact ⟨h', _, rfl, q h' (PolyAt.setIn D' E hv t) hs t⟩

theorem W.asgSub {o i value : Expr} {sp pos : Pos} {Q : Flow → Heap → Prop}
    (q : W z A (eval value env) h (fun v h1 => W z A (eval o env) h1 (fun ov h2 => W z A (eval i env) h2 (fun iv h3 => W z A (setItem ov iv v) h3 (fun _ => Q .next)))))
    (hs : swapsWith value (some (.Subscript o i sp)) pos.line env = PySem.Sem.pure false := by rfl) : W z A (exec (.Assign [.Subscript o i sp] value pos) env) h Q := fun n =>
  wpAny_Assign_Subscript (q.use n fun _ _ n1 q1 => q1.use n1 fun _ _ n2 q2 => q2.use n2 fun _ _ n3 q3 => q3.use n3 fun _ _ _ q4 => W.ok q4) hs

theorem map_erase {α β : Type} (f : α → β) : ∀ (l : List α) (i : Nat), (l.eraseIdx i).map f = (l.map f).eraseIdx i
  | [], i => by simp
  | a :: l, 0 => by simp
  | a :: l, i + 1 => by simp [map_erase f l i]
/-- taking an entry out -/
theorem eraseIdx_filter : ∀ {P : Poly} {i : Nat} {k : List Int} {q : Rat}, (P.map (·.1)).Nodup → P[i]? = some (k, q) → P.eraseIdx i = pdel P k
  | [], _, _, _, _, h => by simp at h
  | (k', q') :: P, 0, k, q, hn, h => by
    simp at h; obtain ⟨rfl, rfl⟩ := h
    rw [List.map_cons, List.nodup_cons] at hn
    simp only [List.eraseIdx_cons_zero, pdel, List.filter_cons, decide_true, Bool.not_true]
    symm
    simp only [Bool.false_eq_true, if_false]
    rw [List.filter_eq_self]
    intro e he
    have : e.1 ≠ k' := fun q => hn.1 (List.mem_map.mpr ⟨e, he, q⟩)
    simpa using this
  | (k', q') :: P, i + 1, k, q, hn, h => by
    rw [List.map_cons, List.nodup_cons] at hn
    simp only [List.getElem?_cons_succ] at h
    have hne : k' ≠ k := fun e => hn.1 (e ▸ List.mem_map.mpr ⟨(k, q), List.mem_of_getElem? h, rfl⟩)
    simp only [List.eraseIdx_cons_succ, pdel, List.filter_cons, hne, decide_false, Bool.not_false, if_true]
    rw [eraseIdx_filter hn.2 h]; rfl
theorem pdel_none {P : Poly} {k : List Int} (h : plook P k = none) : pdel P k = P := by
  unfold pdel
  rw [List.filter_eq_self]
  intro e he
  unfold plook at h
  rw [Option.map_eq_none_iff, List.find?_eq_none] at h
  simpa using h e he
theorem look_of_get {P : Poly} {i : Nat} {k : List Int} {q : Rat} (hn : (P.map (·.1)).Nodup) (h : P[i]? = some (k, q)) : plook P k = some q := by
  induction P generalizing i with
  | nil => simp at h
  | cons e P ih =>
    obtain ⟨k', q'⟩ := e
    rw [List.map_cons, List.nodup_cons] at hn
    cases i with
    | zero => simp at h; obtain ⟨rfl, rfl⟩ := h; simp [plook]
    | succ i =>
      simp at h
      have hne : k' ≠ k := fun e => hn.1 (e ▸ List.mem_map.mpr ⟨(k, q), List.mem_of_getElem? h, rfl⟩)
      have := ih hn.2 h
      simpa [plook, List.find?_cons, hne] using this
end
section
variable {z : Z} {A : Around} {h : Heap} {env : Env} {k : Nat}
theorem takeOut_heap {E : Value → Shared → Prop} {s : Shared} {d a : Addr} {ks : List Int} {P : Poly} {Q : Option DictEntry → Shared → Prop} (hu : (KK2 z).room A) (hk : (KK2 z).is s.heap ks a) (hP : PolyAt z s.heap d P) (hsz : P.length ≤ sizeLine)
    (hnone : plook P ks = none → Q none { s with toks := s.toks + (ks.length + 1) })
    (hsome : ∀ h' e c, plook P ks = some c → RatAt h' e.val c → PolyAt z h' d (pdel P ks) → Heap.SameBut d s.heap h' → TK s.heap h' → Q (some e) { s with heap := h', toks := s.toks + (ks.length + 1) }) :
    wpAny (model Pr z.w) A (Builtin.Dict.takeOut d (.ref a)) Q E s := by
  have nt := hP.notTup
  have nd := hP.nodup
  obtain ⟨xs, D, En⟩ := hP
  obtain ⟨o, es, ep, ho, hc, hd, he, his, hn⟩ := id D
  unfold Builtin.Dict.takeOut
  try with_reducible refine wpAny_holding ?_
  refine wpAny_bind ((KK2 z).pyHash hu hk (wpAny_bind (wpAny_dictFind_heap (s := { s with toks := s.toks + (KK2 z).draws ks }) hu hk ho hd he his hn (fun hno => ?_) (fun j p hj => ?_))))
  · have e1 := atKey_none_of_get hno
    rcases En.look ks with ⟨_, e2⟩ | ⟨p, q', e1', _⟩
    · exact wpAny_pure (hnone e2)
    · rw [e1] at e1'; cases e1'
  · obtain ⟨c, hc2, hr⟩ := En.get hj
    refine wpAny_bind (wpAny_dictEntries (s := { s with toks := s.toks + (KK2 z).draws ks }) ho hd ?_)
    rw [entry_at he j, hj]
    have hes : (es.eraseIdxIfInBounds j).toList = (xs.eraseIdx j).map (entryOfKey (KK2 z)) := by
      have hlt : j < es.size := by rw [size_of_entries he]; exact (List.getElem?_eq_some_iff.mp hj).1
      rw [Array.eraseIdxIfInBounds, dif_pos hlt, Array.toList_eraseIdx, he, map_erase]
    refine wpAny_bind (wpAny_updateDictKeysTo (s := { s with toks := s.toks + (KK2 z).draws ks }) ho hd (wpAny_pure ?_) ?_)
    · have hs : Heap.SameBut d s.heap (s.heap.update d (Obj.mapDictKeys (·.eraseIdxIfInBounds j))) := Heap.SameBut.update ..
      have t : TK s.heap (s.heap.update d (Obj.mapDictKeys (·.eraseIdxIfInBounds j))) := TK.keep (Keep.same hs) fun b hb => by rw [hb]; exact nt
      refine hsome _ _ c (look_of_get nd hc2) (hr.tk t) ⟨xs.eraseIdx j, ⟨_, _, ep + 1, Heap.get?_update_self _ ho (Obj.isFreed_of_dict (Obj.data_mapDictKeys hd _)), hc.mapDictKeys _, Obj.data_mapDictKeys hd _, hes, fun x hx => isKey_tk (his x (List.mem_of_mem_eraseIdx hx)) t, ?_⟩, ?_⟩ hs t
      · rw [map_erase]; exact hn.sublist (List.eraseIdx_sublist _ _)
      · rw [← eraseIdx_filter nd hc2]; exact (En.eraseIdx j).tk t
    · have := congrArg List.length hes
      rw [Array.length_toList, List.length_map] at this
      rw [this]
      have h1 := En.len
      have h2 := List.length_eraseIdx_le xs j
      omega
end
end NN
end

section
open PySem PySem.W PyProof.Rows
set_option linter.unusedVariables false
set_option linter.unusedSimpArgs false
namespace NN
set_option maxRecDepth 100000

theorem meets_popD (z : Z) (d a : Addr) (rest : List Value) (hrest : rest = [] ∨ rest = [.none]) (hd : (d == sysModules) = false) :
    MeetsIn Pr z.w (Builtin.«dict.pop» ⟨.ref d :: .ref a :: rest, []⟩) (fun A R s => (KK2 z).room A.in1 ∧ ∃ ks P, (KK2 z).is s.heap ks a ∧ PolyAt z s.heap d P ∧ P.length ≤ sizeLine ∧
      (plook P ks = none → rest = [.none] ∧ ∀ n, R (.ok (.ret .none)) { s with toks := n }) ∧
      (∀ h' n v c, plook P ks = some c → RatAt h' v c → PolyAt z h' d (pdel P ks) → Heap.SameBut d s.heap h' → TK s.heap h' → R (.ok (.ret v)) { s with heap := h', toks := n })) :=
  .of_wp fun A R s ⟨hu, ks, P, hk, hP, hsz, h1, h2⟩ => by
    obtain ⟨xs, D, En⟩ := id hP
    obtain ⟨o, es, ep, ho, hc, hdat, he, his, hn⟩ := id D
    unfold Builtin.«dict.pop»
    refine wpAny_bind ?_
    unfold Builtin.Dict.keyAndDefault
    refine wpAny_bind (wpAny_notOrdered_dict D.typeIs ?_)
    have hPe : es.isEmpty = true → P = [] := fun hemp => by
      have h0 : es = #[] := Array.isEmpty_iff.mp hemp
      have e1 := size_of_entries he
      rw [h0] at e1
      have := En.len
      exact List.length_eq_zero_iff.mp (by simp at e1; omega)
    rcases hrest with rfl | rfl
    · show wpAny _ _ (pure (d, Value.ref a, none)) _ _ s
      refine wpAny_pure ?_
      simp only [show (keyPart (Value.ref a)).isSome = false from rfl, Bool.false_eq_true, if_false]
      refine wpAny_bind (wpAny_dictEntries ho hdat (wpAny_bind (wpAny_pure ?_)))
      by_cases hemp : es.isEmpty = true
      · obtain ⟨hr, _⟩ := h1 (by rw [hPe hemp]; rfl)
        cases hr
      · rw [if_neg hemp]
        refine wpAny_bind (takeOut_heap (z := z) hu hk hP hsz (fun hno => ?_) fun h' e c hs hr hp sb tk => ?_)
        · obtain ⟨hr, _⟩ := h1 hno
          cases hr
        · simp only [Option.isNone_some, Bool.false_eq_true, if_false]
          exact wpAny_bind (wpAny_letGo (wpAny_pure ⟨e.val, rfl, h2 h' _ _ c hs hr hp sb tk⟩))
    · show wpAny _ _ (pure (d, Value.ref a, some Value.none)) _ _ s
      refine wpAny_pure ?_
      simp only [show (keyPart (Value.ref a)).isSome = false from rfl, Bool.false_eq_true, if_false]
      refine wpAny_bind (wpAny_dictEntries ho hdat (wpAny_bind (wpAny_pure ?_)))
      by_cases hemp : es.isEmpty = true
      · rw [if_pos hemp]
        obtain ⟨_, h1⟩ := h1 (by rw [hPe hemp]; rfl)
        refine wpAny_bind (wpAny_rule (wpAny_bind (wpAny_pure ?_)))
        simp only [Option.isNone_none, if_true]
        refine wpAny_bind (wpAny_missedRemoval_other hd ?_)
        exact wpAny_bind (wpAny_rule (wpAny_pure ⟨.none, rfl, h1 _⟩))
      · rw [if_neg hemp]
        refine wpAny_bind (takeOut_heap (z := z) hu hk hP hsz (fun hno => ?_) fun h' e c hs hr hp sb tk => ?_)
        · obtain ⟨_, h1⟩ := h1 hno
          simp only [Option.isNone_none, if_true]
          refine wpAny_bind (wpAny_missedRemoval_other hd ?_)
          exact wpAny_bind (wpAny_rule (wpAny_pure ⟨.none, rfl, h1 _⟩))
        · simp only [Option.isNone_some, Bool.false_eq_true, if_false]
          exact wpAny_bind (wpAny_letGo (wpAny_pure ⟨e.val, rfl, h2 h' _ _ c hs hr hp sb tk⟩))

section
variable {z : Z} {A : Around} {h : Heap} {env : Env} {k : Nat}

theorem W.popD {va : Value} {d : Addr} {ks : List Int} {P : Poly} {Q : Value → Heap → Prop} (r : Rm A (k + 2)) (hk : KeyAt h va ks) (hd : (d == sysModules) = false) (hP : PolyAt z h d P) (hsz : P.length ≤ sizeLine)
    (h1 : plook P ks = none → Q .none h) (h2 : ∀ h' v c, plook P ks = some c → RatAt h' v c → PolyAt z h' d (pdel P ks) → Heap.SameBut d h h' → TK h h' → Q v h') :
    W z A (call (.builtin "dict.pop") [.ref d, va, .none]) h Q := fun n => by
  obtain ⟨a, rfl, hk2⟩ := hk.isK z
  have T : (at_ z h n).TypeIs (.ref d) "dict" := let ⟨_, D, _⟩ := hP; Heap.DictOfH.typeIs (s := at_ z h n) D
  refine call_meetsIn PySem.F.slot_dict_pop T PySem.F.entry_dict_pop (PySem.F.args_dict_pop_3 _ _ _) (meets_popD z d a [.none] (.inr rfl) hd) ⟨(r.in1).un, ks, P, hk2, hP, hsz, fun e => ⟨rfl, fun n' => ⟨h, n', rfl, h1 e⟩⟩, fun h' n' v c a b c d e => ⟨h', n', rfl, h2 h' v _ a b c d e⟩⟩
theorem W.popD1 {va : Value} {d : Addr} {ks : List Int} {P : Poly} {Q : Value → Heap → Prop} {c : Rat} (r : Rm A (k + 2)) (hk : KeyAt h va ks) (hd : (d == sysModules) = false) (hP : PolyAt z h d P) (hsz : P.length ≤ sizeLine)
    (h1 : plook P ks = some c) (h2 : ∀ h' v, RatAt h' v c → PolyAt z h' d (pdel P ks) → Heap.SameBut d h h' → TK h h' → Q v h') :
    W z A (call (.builtin "dict.pop") [.ref d, va]) h Q := fun n => by
  obtain ⟨a, rfl, hk2⟩ := hk.isK z
  have T : (at_ z h n).TypeIs (.ref d) "dict" := let ⟨_, D, _⟩ := hP; Heap.DictOfH.typeIs (s := at_ z h n) D
  refine call_meetsIn PySem.F.slot_dict_pop T PySem.F.entry_dict_pop (PySem.F.args_dict_pop_2 _ _) (meets_popD z d a [] (.inl rfl) hd) ⟨(r.in1).un, ks, P, hk2, hP, hsz, fun e => (by rw [h1] at e; cases e), fun h' n' v c' a b c d e => ⟨h', n', rfl, ?_⟩⟩
  rw [h1] at a; cases a
  exact h2 h' v b c d e

theorem PolyAt.noDict {h : Heap} {d : Addr} {P : Poly} (x : PolyAt z h d P) : ∀ b, Value.ref d = .ref b → ∃ ob, h.get? b = Option.some ob ∧ ob.dict = none := by
  obtain ⟨xs, ⟨o, es, ep, ho, hc, _⟩, E⟩ := x
  intro b e; cases e
  exact ⟨o, ho, hc.2.1⟩
theorem PolyAt.typeIs {h : Heap} {d : Addr} {P : Poly} (x : PolyAt z h d P) (n : Nat) : (at_ z h n).TypeIs (.ref d) "dict" := let ⟨_, D, _⟩ := x; Heap.DictOfH.typeIs (s := at_ z h n) D
theorem W.getMD {d : Addr} {P : Poly} {pl : Sem Bool} {Q : Value × List Value → Heap → Prop} (x : PolyAt z h d P) (q : Q (.builtin "dict.pop", [.ref d]) h) : W z A (getMethod (.ref d) (Str.ofString "pop") pl) h Q := fun n =>
  getMethod_builtin (s := at_ z h n) (x.typeIs n) PySem.F.plainAttrs_dict PySem.F.slot_dict_pop PySem.F.type_dict_pop x.noDict (W.ok q)
theorem W.getML {d : Addr} {xs : Array Value} {pl : Sem Bool} {Q : Value × List Value → Heap → Prop} (x : h.IsList d xs) (hnd : ∀ o, h.get? d = some o → o.dict = none) (q : Q (.builtin "list.pop", [.ref d]) h) : W z A (getMethod (.ref d) (Str.ofString "pop") pl) h Q := fun n => by
  obtain ⟨o, ho, hc, _⟩ := id x
  exact getMethod_builtin (s := at_ z h n) ⟨o, ho, hc⟩ PySem.F.plainAttrs_list PySem.F.slot_list_pop PySem.F.type_list_pop (fun b e => by cases e; exact ⟨o, ho, hnd o ho⟩) (W.ok q)
theorem W.meth {o : Expr} {name : Str} {apos pos : Pos} {args : List Expr} {pl : Sem Bool} {Q : Value → Heap → Prop}
    (q : W z A (eval o env) h (fun ov h1 => W z A (getMethod ov name pl) h1 (fun fx h2 => W z A (callWith pos fx.1 fx.2 (backTo pos (starEach args env)) []) h2 Q)))
    (he : eval (.Call (.Attribute o name apos) args [] pos) env = (do
      let ov ← eval o env
      PySem.standAt apos.atName
      let (f, first) ← PySem.holding [ov] (getMethod ov name pl)
      callWith pos f first (backTo pos (starEach args env)) []) := by rfl) :
    W z A (eval (.Call (.Attribute o name apos) args [] pos) env) h Q := fun n =>
  MethodCall_ (q.use n fun _ _ n1 q1 => q1.use n1 fun _ _ n2 q2 => q2 n2) he
theorem W.xpr {e : Expr} {pos : Pos} {Q : Flow → Heap → Prop} (q : W z A (eval e env) h (fun _ => Q .next)) (hi : interactive env = false := by rfl) (hs : swapsWith e none pos.line env = PySem.Sem.pure false := by rfl) : W z A (exec (.Expr e pos) env) h Q := fun n =>
  wpAny_Expr_any (q.use n fun _ _ _ q1 => W.ok q1) hi hs
end
end NN
end

section
open PySem PySem.W PyProof.Rows
set_option linter.unusedVariables false
set_option linter.unusedSimpArgs false
namespace NN
set_option maxRecDepth 100000

/-! ## small exponents have hashes of their own -/
noncomputable abbrev hm : Nat := 18446744073709551616
noncomputable def hF (a : Nat) : Nat := (((a * 2147483648) % hm + a / 8589934592) * 11400714785074694791) % hm
noncomputable def hstep (acc x : Nat) : Nat := hF ((acc + x * 14029467366897019727) % hm)
theorem hF_lt (a : Nat) : hF a < hm := Nat.mod_lt _ (by decide)
theorem hm_e3 (a : Nat) : (a * 2147483648) % hm = (a % 8589934592) * 2147483648 := by
  have : hm = 8589934592 * 2147483648 := by decide
  rw [this, Nat.mul_mod_mul_right]
theorem hm_rot_lt {a : Nat} (ha : a < hm) : (a * 2147483648) % hm + a / 8589934592 < hm := by
  rw [hm_e3]
  unfold hm at *
  have h1 : a / 8589934592 < 2147483648 := by omega
  have h2 : a % 8589934592 < 8589934592 := by omega
  generalize a / 8589934592 = x at *
  generalize a % 8589934592 = y at *
  omega
theorem hm_rot {a b : Nat} (ha : a < hm) (hb : b < hm) (h1 : (a * 2147483648) % hm + a / 8589934592 = (b * 2147483648) % hm + b / 8589934592) : a = b := by
  rw [hm_e3, hm_e3] at h1
  unfold hm at *
  have e1 : a = 8589934592 * (a / 8589934592) + a % 8589934592 := (Nat.div_add_mod a 8589934592).symm
  have e2 : b = 8589934592 * (b / 8589934592) + b % 8589934592 := (Nat.div_add_mod b 8589934592).symm
  have l1 : a / 8589934592 < 2147483648 := by omega
  have l2 : b / 8589934592 < 2147483648 := by omega
  generalize a / 8589934592 = x at *
  generalize a % 8589934592 = y at *
  generalize b / 8589934592 = x' at *
  generalize b % 8589934592 = y' at *
  have : x = x' := by omega
  have : y = y' := by omega
  omega
theorem hm_mul1 {X : Nat} (x1 : X < hm) : (X * 11400714785074694791 % hm) * 614540362697595703 % hm = X := by
  rw [Nat.mod_mul_mod, Nat.mul_assoc]
  show X * 7006199399031644779097329962238083073 % 18446744073709551616 = X
  unfold hm at *
  omega
theorem hm_mul {X Y : Nat} (x1 : X < hm) (x2 : Y < hm) (h : X * 11400714785074694791 % hm = Y * 11400714785074694791 % hm) : X = Y := by
  rw [← hm_mul1 x1, ← hm_mul1 x2, h]
theorem hF_inj {a b : Nat} (ha : a < hm) (hb : b < hm) (h : hF a = hF b) : a = b := hm_rot ha hb (hm_mul (hm_rot_lt ha) (hm_rot_lt hb) h)
/-- the value told apart: u + x -/
noncomputable def hu (acc : Nat) : Nat := (acc * 839798700976720815) % hm
theorem hu_step {a b x y : Nat} (h : hstep a x = hstep b y) : (hu a + x) % hm = (hu b + y) % hm := by
  have := hF_inj (Nat.mod_lt _ (by decide)) (Nat.mod_lt _ (by decide)) h
  unfold hu; unfold hm at *; omega
theorem hu_top {a x w : Nat} (hw : w < hm) (h : hstep a x = hF w) : (hu a + x) % hm = (w * 839798700976720815) % hm := by
  have := hF_inj (Nat.mod_lt _ (by decide)) hw h
  unfold hu; unfold hm at *; omega

noncomputable abbrev hp5 : Nat := 2870177450012600261
noncomputable def tab3 : List (Nat × Nat × Nat) := [(12314904357780673, 1, 2), (156083616902168853, 3, 0), (404368079661015871, 1, 15), (408120644546596573, 5, 8), (554076417860709641, 6, 3), (615300599547636755, 4, 21), (630851073013552190, 6, 16), (702464379770660861, 1, 5), (782991599809084112, 5, 11), (846233092315049041, 3, 3), (928947373123197180, 6, 6), (1224922854922093692, 0, 18), (1392613855183541049, 1, 8), (1396366420069121751, 5, 1), (1599793810184581231, 0, 21), (1619096848536077368, 6, 9), (1688523094523461151, 2, 1), (1767484810446028588, 1, 11), (1771237375331609290, 5, 4), (2065581110555673578, 1, 1), (2293695850483042121, 4, 17), (2309246323948957556, 6, 12), (2461386850744489478, 5, 7), (2588039585707106409, 0, 14), (2607342624058602546, 6, 2), (2755730585968553766, 1, 4), (2983845325895922309, 4, 20), (3278189061119986597, 0, 17), (3297492099471482734, 6, 5), (3445880061381433954, 1, 7), (3449632626267014656, 5, 0), (3968338536532866785, 0, 20), (3972091101418447487, 4, 13), (3987641574884362922, 6, 8), (4139782101679894844, 5, 3), (4346962056680935026, 4, 16), (4434125836903959132, 1, 0), (4514653056942382383, 5, 6), (4660608830256495451, 6, 1), (4893342819549427034, 2, 21), (4956584312055391963, 0, 13), (5037111532093815214, 4, 19), (5124275312316839320, 1, 3), (5331455267317879502, 0, 16), (5335207832203460204, 4, 9), (5350758305669375639, 6, 4), (5729448068276420290, 3, 19), (6021604742730759690, 0, 19), (6025357307616340392, 4, 12), (6193048307877787749, 5, 2), (6319701042840404680, 0, 9), (6571738070484832400, 2, 17), (6715506783029220580, 4, 15), (7009850518253284868, 0, 12), (7013603083138865570, 4, 5), (7029153556604781005, 6, 0), (7113499583987761368, 7, 18), (7261887545897712588, 2, 20), (7405656258442100768, 4, 18), (7488370539250248907, 7, 21), (7699999993666165056, 0, 15), (7703752558551745758, 4, 8), (7782714274474313195, 3, 18), (7998096293775810046, 0, 5), (8250133321420237766, 2, 13), (8393902033964625946, 4, 11), (8472863749887193383, 3, 21), (8476616314772774085, 7, 14), (8625004276682725305, 2, 16), (8688245769188690234, 0, 8), (8691998334074270936, 4, 1), (8768772989227113485, 4, 14), (9166765790185654273, 7, 17), (9315153752095605493, 2, 19), (9378395244601570422, 0, 11), (9382147809487151124, 4, 4), (9461109525409718561, 3, 14), (9613250052205250483, 2, 9), (9676491544711215412, 0, 1), (9757018764749638663, 4, 7), (9856915265598534461, 7, 20), (10151259000822598749, 3, 17), (10155011565708179451, 7, 10), (10303399527618130671, 2, 12), (10366641020124095600, 0, 4), (10447168240162518851, 4, 10), (10741511975386583139, 0, 7), (10745264540272163841, 4, 0), (10841408476235478937, 3, 20), (10845161041121059639, 7, 13), (10993549003031010859, 2, 15), (11076263283839158998, 5, 18), (11139504776345123927, 3, 10), (11220031996383547178, 7, 16), (11291645303140655849, 2, 5), (11368419958293498398, 2, 18), (11431661450799463327, 0, 10), (11435414015685044029, 4, 3), (11729757750909108317, 0, 0), (11766412759252039186, 5, 21), (11829654251758004115, 3, 13), (11833406816643584817, 7, 6), (11910181471796427366, 7, 19), (11981794778553536037, 2, 8), (12060756494476103474, 1, 18), (12125563491097924217, 4, 6), (12204525207020491654, 3, 16), (12208277771906072356, 7, 9), (12356665733816023576, 2, 11), (12419907226321988505, 0, 3), (12602518007979032442, 6, 19), (12750905969888983662, 1, 21), (12754658534774564364, 5, 14), (12817900027280529293, 3, 6), (12898427247318952544, 7, 12), (13046815209228903764, 2, 14), (13110056701734868693, 0, 6), (13192770982543016832, 3, 9), (13196523547428597534, 7, 2), (13344911509338548754, 2, 4), (13444808010187444552, 5, 17), (13488680221882936934, 4, 2), (13588576722731832732, 7, 15), (13739151745411508840, 1, 14), (13882920457955897020, 3, 12), (13886673022841477722, 7, 5), (14035060984751428942, 2, 7), (14134957485600324740, 5, 20), (14181016758065542010, 3, 2), (14280913258914437808, 6, 15), (14429301220824389028, 1, 17), (14433053785709969730, 5, 10), (14473173432519881410, 0, 2), (14573069933368777208, 3, 15), (14576822498254357910, 7, 8), (14655784214176925347, 6, 18), (14725210460164309130, 2, 10), (14804172176086876567, 1, 20), (14807924740972457269, 5, 13), (14871166233478422198, 3, 5), (14951693453516845449, 7, 11), (15023306760273954120, 2, 0), (15345933689589805535, 6, 21), (15417546996346914206, 1, 10), (15498074216385337457, 5, 16), (15561315708891302386, 3, 8), (15565068273776883088, 7, 1), (15644029989699450525, 6, 11), (15713456235686834308, 2, 3), (15792417951609401745, 1, 13), (15936186664153789925, 3, 11), (15939939229039370627, 7, 4), (16188223691798217645, 5, 19), (16334179465112330713, 6, 14), (16403605711099714496, 2, 6), (16482567427022281933, 1, 16), (16486319991907862635, 5, 9), (16549561484413827564, 3, 1), (16630088704452250815, 7, 7), (16780663727131926923, 1, 6), (16924432439676315103, 3, 4), (17024328940525210901, 6, 17), (17172716902435162121, 1, 19), (17176469467320742823, 5, 12), (17322425240634855891, 6, 7), (17399199895787698440, 6, 20), (17470813202544807111, 1, 9), (17614581915089195291, 3, 7), (17618334479974775993, 7, 0), (17766722441884727213, 2, 2), (17866618942733623011, 5, 15), (18012574716047736079, 6, 10), (18160962677957687299, 1, 12), (18164715242843268001, 5, 5), (18308483955387656181, 7, 3), (18387445671310223618, 6, 13)]
noncomputable def tab2 : List (Nat × Nat × Nat) := [(5627954477120148953, 4, 0), (6318103952533029141, 7, 0), (7306349728055554319, 0, 0), (7996499203468434507, 3, 0), (8686648678881314695, 6, 0), (10049765409666327412, 2, 0), (10739914885079207600, 5, 0), (12418310136014612966, 1, 0)]
theorem tab3_ok : tab3.all (fun t => t.1 == hu (hstep (hstep hp5 t.2.1) t.2.2) && decide (65 < (16680575644954319924 + hm - t.1) % hm)) = true := by decide +kernel
theorem tab2_ok : tab2.all (fun t => t.1 == hu (hstep hp5 t.2.1) && decide (65 < (15746002411462551884 + hm - t.1) % hm)) = true := by decide +kernel
theorem tab3_gap : tab3.Pairwise (fun a b => a.1 + 65 < b.1 ∧ b.1 < a.1 + (hm - 66)) := by decide +kernel
theorem tab2_gap : tab2.Pairwise (fun a b => a.1 + 65 < b.1 ∧ b.1 < a.1 + (hm - 66)) := by decide +kernel
theorem tab3_all : ∀ x < 8, ∀ y < 22, (tab3.any fun t => t.2.1 == x && t.2.2 == y) = true := by decide +kernel
theorem tab2_all : ∀ x < 8, (tab2.any fun t => t.2.1 == x) = true := by decide +kernel

theorem pair_rel {α : Type} {R : α → α → Prop} : ∀ {l : List α}, l.Pairwise R → ∀ {a b : α}, a ∈ l → b ∈ l → a = b ∨ R a b ∨ R b a
  | [], _, _, _, h, _ => by simp at h
  | x :: l, h, a, b, ha, hb => by
    rw [List.pairwise_cons] at h
    rcases List.mem_cons.mp ha with e | ha <;> rcases List.mem_cons.mp hb with e' | hb
    · exact .inl (e.trans e'.symm)
    · exact .inr (.inl (e ▸ h.1 b hb))
    · exact .inr (.inr (e' ▸ h.1 a ha))
    · exact pair_rel h.2 ha hb

theorem at3 {x y : Nat} (hx : x < 8) (hy : y < 22) : ∃ t ∈ tab3, t.1 = hu (hstep (hstep hp5 x) y) ∧ t.2 = (x, y) ∧ 65 < (16680575644954319924 + hm - t.1) % hm := by
  have h := tab3_all x hx y hy
  rw [List.any_eq_true] at h
  obtain ⟨t, ht, h⟩ := h
  simp only [Bool.and_eq_true, beq_iff_eq] at h
  have h2 := List.all_eq_true.mp tab3_ok t ht
  simp only [Bool.and_eq_true, beq_iff_eq, decide_eq_true_eq] at h2
  obtain ⟨u, x', y'⟩ := t
  obtain ⟨rfl, rfl⟩ := h
  exact ⟨_, ht, h2.1, rfl, h2.2⟩
theorem at2 {x : Nat} (hx : x < 8) : ∃ t ∈ tab2, t.1 = hu (hstep hp5 x) ∧ t.2.1 = x ∧ 65 < (15746002411462551884 + hm - t.1) % hm := by
  have h := tab2_all x hx
  rw [List.any_eq_true] at h
  obtain ⟨t, ht, h⟩ := h
  simp only [beq_iff_eq] at h
  have h2 := List.all_eq_true.mp tab2_ok t ht
  simp only [Bool.and_eq_true, beq_iff_eq, decide_eq_true_eq] at h2
  exact ⟨_, ht, by rw [← h]; exact h2.1, h, h2.2⟩

noncomputable def hS (a : Nat) : Int := if a = 18446744073709551615 then 1546275796 else if a < 9223372036854775808 then a else (a : Int) - 18446744073709551616
theorem hS_inj {a b : Nat} (ha : a < hm) (hb : b < hm) (na : a ≠ 18446744073709551615) (nb : b ≠ 18446744073709551615) (h : hS a = hS b) : a = b := by
  unfold hS at h
  unfold hm at *
  rw [if_neg na, if_neg nb] at h
  split at h <;> split at h <;> omega

theorem reduce_S (a : Nat) (ha : a < hm) : reduceHash (hS a) = hS a := by
  unfold hm at ha
  unfold reduceHash hS
  split
  · rfl
  · split
    · rw [if_pos (by simp; omega), if_neg (by simp)]
    · rw [if_pos (by simp; omega), if_neg (by simp; omega)]
theorem hashInt_small {n : Nat} (h : n < 100) : hashInt (n : Int) = n := by
  have e : rawHash (n : Int) = n := by
    unfold rawHash
    have h0 : (((n : Int).natAbs : Nat) : Int) % ((2 ^ 61 - 1 : Nat) : Int) = n := by
      rw [Int.natAbs_natCast]
      exact Int.emod_eq_of_lt (by omega) (by omega)
    have h1 : ¬ (n : Int) < 0 := by omega
    have h2 : ¬ (((n : Int) == -1) = true) := by simp
    simp only [h0, if_neg h1, if_neg h2]
  unfold hashInt
  rw [e, if_neg (by simp)]

/-- the hash of a key of two, of three -/
noncomputable def H2 (x y : Nat) : Nat := (hstep (hstep hp5 x) y + 2870177450013471924) % hm
noncomputable def H3 (x y z : Nat) : Nat := (hstep (hstep (hstep hp5 x) y) z + 2870177450013471925) % hm
noncomputable def gF (m p t u : Nat) (a : Nat) : Nat := ((a * t) % m + a / u) * p % m
noncomputable def gst (m p p2 t u : Nat) (acc : Nat) (h : Int) : Nat := gF m p t u ((acc + (h % (m : Int)).toNat * p2) % m)
noncomputable def gS (m t : Nat) (a : Nat) : Int := if (a == m - 1) = true then 1546275796 else if a < t then (a : Int) else (a : Int) - (m : Int)
theorem hash_g (hs : List Int) : Builtin.Tuple.tupleHashOf hs = gS (2 ^ 64) (2 ^ 63) ((hs.foldl (gst (2 ^ 64) 11400714785074694791 14029467366897019727 (2 ^ 31) (2 ^ 33)) 2870177450012600261 + (hs.length ^^^ (2870177450012600261 ^^^ 3527539))) % 2 ^ 64) := rfl
theorem gF_eq (a : Nat) : gF (2 ^ 64) 11400714785074694791 (2 ^ 31) (2 ^ 33) a = hF a := by
  have h1 : (2 : Nat) ^ 64 = hm := by decide
  have h2 : (2 : Nat) ^ 31 = 2147483648 := by decide
  have h3 : (2 : Nat) ^ 33 = 8589934592 := by decide
  rw [h1, h2, h3]; unfold gF hF; rfl
theorem gst_eq {n : Nat} (acc : Nat) (h : n < 100) : gst (2 ^ 64) 11400714785074694791 14029467366897019727 (2 ^ 31) (2 ^ 33) acc (n : Int) = hstep acc n := by
  unfold gst hstep
  have : ((n : Int) % ((2 ^ 64 : Nat) : Int)).toNat = n := by
    rw [Int.emod_eq_of_lt (by omega) (by omega)]; rfl
  rw [this, gF_eq]
theorem gS_eq (a : Nat) : gS (2 ^ 64) (2 ^ 63) a = hS a := by
  have h1 : (2 : Nat) ^ 64 = 18446744073709551616 := by decide
  have h2 : (2 : Nat) ^ 63 = 9223372036854775808 := by decide
  rw [h1, h2]
  unfold gS hS
  by_cases h : a = 18446744073709551615
  · rw [if_pos (by simpa using h), if_pos h]
  · rw [if_neg (by simpa using h), if_neg h]
    split
    · rfl
    · congr 1
theorem hashOf2 {x y : Nat} (hx : x < 100) (hy : y < 100) : Builtin.Tuple.tupleHashOf [(x : Int), (y : Int)] = hS (H2 x y) := by
  rw [hash_g, gS_eq, List.foldl_cons, List.foldl_cons, List.foldl_nil, gst_eq _ hx, gst_eq _ hy]
  have h1 : (2 : Nat) ^ 64 = hm := by decide
  have h2 : ([(x : Int), (y : Int)].length ^^^ (2870177450012600261 ^^^ 3527539)) = 2870177450013471924 := by
    show (2 ^^^ (2870177450012600261 ^^^ 3527539)) = 2870177450013471924
    decide +kernel
  rw [h2, h1]
  unfold H2; rfl
theorem hashOf3 {x y v : Nat} (hx : x < 100) (hy : y < 100) (hv : v < 100) : Builtin.Tuple.tupleHashOf [(x : Int), (y : Int), (v : Int)] = hS (H3 x y v) := by
  rw [hash_g, gS_eq, List.foldl_cons, List.foldl_cons, List.foldl_cons, List.foldl_nil, gst_eq _ hx, gst_eq _ hy, gst_eq _ hv]
  have h1 : (2 : Nat) ^ 64 = hm := by decide
  have h2 : ([(x : Int), (y : Int), (v : Int)].length ^^^ (2870177450012600261 ^^^ 3527539)) = 2870177450013471925 := by
    show (3 ^^^ (2870177450012600261 ^^^ 3527539)) = 2870177450013471925
    decide +kernel
  rw [h2, h1]
  unfold H3; rfl
theorem hash2 {x y : Nat} (hx : x < 100) (hy : y < 100) (w : World) : tupleKeyHash (intKind Pr w) [(x : Int), (y : Int)] = hS (H2 x y) := by
  rw [← reduce_S (H2 x y) (Nat.mod_lt _ (by decide))]
  unfold tupleKeyHash
  rw [show ([(x : Int), (y : Int)].map (intKind Pr w).hash) = [hashInt x, hashInt y] from rfl, hashInt_small hx, hashInt_small hy, hashOf2 hx hy]
theorem hash3 {x y v : Nat} (hx : x < 100) (hy : y < 100) (hv : v < 100) (w : World) : tupleKeyHash (intKind Pr w) [(x : Int), (y : Int), (v : Int)] = hS (H3 x y v) := by
  rw [← reduce_S (H3 x y v) (Nat.mod_lt _ (by decide))]
  unfold tupleKeyHash
  rw [show ([(x : Int), (y : Int), (v : Int)].map (intKind Pr w).hash) = [hashInt x, hashInt y, hashInt v] from rfl, hashInt_small hx, hashInt_small hy, hashInt_small hv, hashOf3 hx hy hv]
theorem H3_top {x y v : Nat} (hx : x < 8) (hy : y < 22) (hv : v < 66) : H3 x y v ≠ 18446744073709551615 := by
  intro h
  obtain ⟨t, ht, e1, _, g⟩ := at3 hx hy
  have e : hstep (hstep (hstep hp5 x) y) v = hF 1837738906727985164 := by
    have h1 : hF 1837738906727985164 = 15576566623696079690 := by decide +kernel
    rw [h1]
    have h2 : hstep (hstep (hstep hp5 x) y) v < hm := hF_lt _
    unfold H3 at h
    generalize hstep (hstep (hstep hp5 x) y) v = X at *
    unfold hm at *; omega
  have e2 := hu_top (by decide) e
  rw [← e1] at e2
  have h3 : (1837738906727985164 * 839798700976720815) % hm = 16680575644954319924 := by decide +kernel
  rw [h3] at e2
  have h4 : t.1 < hm := by rw [e1]; exact Nat.mod_lt _ (by decide)
  unfold hm at *; omega
theorem H2_top {x y : Nat} (hx : x < 8) (hy : y < 66) : H2 x y ≠ 18446744073709551615 := by
  intro h
  obtain ⟨t, ht, e1, _, g⟩ := at2 hx
  have e : hstep (hstep hp5 x) y = hF 9148689060682678900 := by
    have h1 : hF 9148689060682678900 = 15576566623696079691 := by decide +kernel
    rw [h1]
    have h2 : hstep (hstep hp5 x) y < hm := hF_lt _
    unfold H2 at h
    generalize hstep (hstep hp5 x) y = X at *
    unfold hm at *; omega
  have e2 := hu_top (by decide) e
  rw [← e1] at e2
  have h3 : (9148689060682678900 * 839798700976720815) % hm = 15746002411462551884 := by decide +kernel
  rw [h3] at e2
  have h4 : t.1 < hm := by rw [e1]; exact Nat.mod_lt _ (by decide)
  unfold hm at *; omega
theorem H3_inj {x y v x' y' v' : Nat} (hx : x < 8) (hy : y < 22) (hv : v < 66) (hx' : x' < 8) (hy' : y' < 22) (hv' : v' < 66) (h : hS (H3 x y v) = hS (H3 x' y' v')) : x = x' ∧ y = y' ∧ v = v' := by
  have h1 := hS_inj (Nat.mod_lt _ (by decide)) (Nat.mod_lt _ (by decide)) (H3_top hx hy hv) (H3_top hx' hy' hv') h
  have h2 : hstep (hstep (hstep hp5 x) y) v = hstep (hstep (hstep hp5 x') y') v' := by
    have a1 : hstep (hstep (hstep hp5 x) y) v < hm := hF_lt _
    have a2 : hstep (hstep (hstep hp5 x') y') v' < hm := hF_lt _
    unfold H3 at h1
    generalize hstep (hstep (hstep hp5 x) y) v = X at *
    generalize hstep (hstep (hstep hp5 x') y') v' = Y at *
    unfold hm at *; omega
  have h3 := hu_step h2
  obtain ⟨t, ht, e1, e2, _⟩ := at3 hx hy
  obtain ⟨t', ht', e1', e2', _⟩ := at3 hx' hy'
  have l1 : t.1 < hm := by rw [e1]; exact Nat.mod_lt _ (by decide)
  have l2 : t'.1 < hm := by rw [e1']; exact Nat.mod_lt _ (by decide)
  rw [← e1, ← e1'] at h3
  rcases pair_rel tab3_gap ht ht' with e | e | e
  · subst e
    rw [e2] at e2'
    injection e2' with q1 q2
    refine ⟨q1, q2, ?_⟩
    unfold hm at *; omega
  · exfalso; unfold hm at *; omega
  · exfalso; unfold hm at *; omega
theorem H2_inj {x y x' y' : Nat} (hx : x < 8) (hy : y < 66) (hx' : x' < 8) (hy' : y' < 66) (h : hS (H2 x y) = hS (H2 x' y')) : x = x' ∧ y = y' := by
  have h1 := hS_inj (Nat.mod_lt _ (by decide)) (Nat.mod_lt _ (by decide)) (H2_top hx hy) (H2_top hx' hy') h
  have h2 : hstep (hstep hp5 x) y = hstep (hstep hp5 x') y' := by
    have a1 : hstep (hstep hp5 x) y < hm := hF_lt _
    have a2 : hstep (hstep hp5 x') y' < hm := hF_lt _
    unfold H2 at h1
    generalize hstep (hstep hp5 x) y = X at *
    generalize hstep (hstep hp5 x') y' = Y at *
    unfold hm at *; omega
  have h3 := hu_step h2
  obtain ⟨t, ht, e1, e2, _⟩ := at2 hx
  obtain ⟨t', ht', e1', e2', _⟩ := at2 hx'
  have l1 : t.1 < hm := by rw [e1]; exact Nat.mod_lt _ (by decide)
  have l2 : t'.1 < hm := by rw [e1']; exact Nat.mod_lt _ (by decide)
  rw [← e1, ← e1'] at h3
  rcases pair_rel tab2_gap ht ht' with e | e | e
  · subst e
    rw [e2] at e2'
    refine ⟨e2', ?_⟩
    unfold hm at *; omega
  · exfalso; unfold hm at *; omega
  · exfalso; unfold hm at *; omega

/-- exponents as the walk meets them: two or three letters, small -/
noncomputable def KB (n : Nat) (k : List Int) : Prop := match k with
  | [x, y] => n = 2 ∧ (0 ≤ x ∧ x < 8) ∧ 0 ≤ y ∧ y < 66
  | [x, y, v] => n = 3 ∧ (0 ≤ x ∧ x < 8) ∧ (0 ≤ y ∧ y < 22) ∧ 0 ≤ v ∧ v < 66
  | _ => False
theorem KB.len {n : Nat} {k : List Int} (h : KB n k) : k.length = n := by
  match k, h with
  | [x, y], h => exact h.1.symm
  | [x, y, v], h => exact h.1.symm
theorem KB.n23 {n : Nat} {k : List Int} (h : KB n k) : n = 2 ∨ n = 3 := by
  match k, h with
  | [x, y], h => exact .inl h.1
  | [x, y, v], h => exact .inr h.1
theorem KB.inj {n : Nat} {k k' : List Int} (w : World) (h : KB n k) (h' : KB n k') (e : tupleKeyHash (intKind Pr w) k = tupleKeyHash (intKind Pr w) k') : k = k' := by
  match k, h, k', h' with
  | [x, y], ⟨hn, ⟨a1, a2⟩, b1, b2⟩, [x', y'], ⟨hn', ⟨a1', a2'⟩, b1', b2'⟩ =>
    obtain ⟨x, rfl⟩ := Int.eq_ofNat_of_zero_le a1
    obtain ⟨y, rfl⟩ := Int.eq_ofNat_of_zero_le b1
    obtain ⟨x', rfl⟩ := Int.eq_ofNat_of_zero_le a1'
    obtain ⟨y', rfl⟩ := Int.eq_ofNat_of_zero_le b1'
    rw [hash2 (by omega) (by omega), hash2 (by omega) (by omega)] at e
    obtain ⟨rfl, rfl⟩ := H2_inj (by omega) (by omega) (by omega) (by omega) e
    rfl
  | [x, y], ⟨hn, _⟩, [x', y', v'], ⟨hn', _⟩ => omega
  | [x, y, v], ⟨hn, _⟩, [x', y'], ⟨hn', _⟩ => omega
  | [x, y, v], ⟨hn, ⟨a1, a2⟩, ⟨b1, b2⟩, c1, c2⟩, [x', y', v'], ⟨hn', ⟨a1', a2'⟩, ⟨b1', b2'⟩, c1', c2'⟩ =>
    obtain ⟨x, rfl⟩ := Int.eq_ofNat_of_zero_le a1
    obtain ⟨y, rfl⟩ := Int.eq_ofNat_of_zero_le b1
    obtain ⟨v, rfl⟩ := Int.eq_ofNat_of_zero_le c1
    obtain ⟨x', rfl⟩ := Int.eq_ofNat_of_zero_le a1'
    obtain ⟨y', rfl⟩ := Int.eq_ofNat_of_zero_le b1'
    obtain ⟨v', rfl⟩ := Int.eq_ofNat_of_zero_le c1'
    rw [hash3 (by omega) (by omega) (by omega), hash3 (by omega) (by omega) (by omega)] at e
    obtain ⟨rfl, rfl, rfl⟩ := H3_inj (by omega) (by omega) (by omega) (by omega) (by omega) (by omega) e
    rfl
end NN
end

section
open PySem PySem.W PyProof.Rows
set_option linter.unusedVariables false
set_option linter.unusedSimpArgs false
namespace NN
set_option maxRecDepth 100000

/-! ## two polynomials compared -/
noncomputable def peqFrom (R : Poly) : Poly → Bool
  | [] => true
  | (k, q) :: r => match plook R k with
    | none => false
    | some q' => decide (q = q') && peqFrom R r
noncomputable def peq (P R : Poly) : Bool := P.length == R.length && peqFrom R P

section
variable {z : Z} {A : Around} {E : Value → Shared → Prop} {s : Shared}
theorem samePairs_poly {nm : String} {a b : Addr} {P R : Poly} {Q : Bool → Shared → Prop} (hu : A.units < cLine) (ha : (a == sysModules) = false) (hb : (b == sysModules) = false)
    (da : PolyAt z s.heap a P) (db : PolyAt z s.heap b R) (h : Q (peq P R) s) : wpAny (model Pr z.w) A (Builtin.Dict.samePairs nm a b) Q E s := by
  obtain ⟨xs, ⟨oa, es, ep, hoa, _, hda, hea, hia, hna⟩, Ea⟩ := da
  obtain ⟨ys, ⟨ob, es', ep', hob, _, hdb, heb, hib, hnb⟩, Eb⟩ := db
  have la : P.length = es.size := by rw [← Ea.len, size_of_entries hea]
  have lb : R.length = es'.size := by rw [← Eb.len, size_of_entries heb]
  unfold peq at h
  rw [la, lb] at h
  unfold Builtin.Dict.samePairs Builtin.Dict.showsAll
  rw [if_neg (show ¬ (a == sysModules) = true by rw [ha]; exact Bool.false_ne_true), if_neg (show ¬ (b == sysModules) = true by rw [hb]; exact Bool.false_ne_true)]
  refine wpAny_bind (wpAny_pure (wpAny_bind (wpAny_pure ?_)))
  refine wpAny_bind (wpAny_dictEntries hoa hda ?_)
  dsimp only
  refine wpAny_bind (wpAny_dictEntries hob hdb ?_)
  by_cases hsz : es.size = es'.size
  case neg =>
    rw [if_pos (by simpa using hsz)]
    have hbf : (es.size == es'.size) = false := by simpa using hsz
    rw [hbf, Bool.false_and] at h
    exact wpAny_bind (wpAny_rule (wpAny_pure h))
  case pos =>
    have h' : Q (peqFrom R P) s := by simpa [hsz] using h
    rw [if_neg (by rw [hsz]; simp)]
    refine wpAny_bind (wpAny_dictEpoch hoa hda ?_)
    refine wpAny_bind ?_
    rw [Std.Legacy.Range.forIn_eq_forIn_range']
    simp only [Std.Legacy.Range.size, Nat.sub_zero, Nat.add_sub_cancel, Nat.div_one]
    refine wpAny_forIn_list _
      (fun rest q s' => s' = s ∧ q = (none, ()) ∧ ∃ i, rest = List.range' i (es.size - i) ∧ i ≤ es.size ∧ peqFrom R (P.drop i) = peqFrom R P)
      _ ?_ ?_ _ _ ⟨rfl, rfl, 0, by simp, Nat.zero_le _, rfl⟩
    · rintro x rest q s' ⟨rfl, rfl, i, hr, hi, hpre⟩
      have hlt : i < es.size := by
        rcases Nat.lt_or_ge i es.size with h | h
        · exact h
        · rw [Nat.sub_eq_zero_of_le h] at hr; simp at hr
      obtain ⟨rfl, hrest⟩ : x = i ∧ rest = List.range' (i + 1) (es.size - (i + 1)) := by
        have e : es.size - i = (es.size - (i + 1)) + 1 := by omega
        rw [e, List.range'_succ] at hr
        injection hr with h1 h2
        exact ⟨h1, h2⟩
      refine wpAny_bind (wpAny_dictEntries hoa hda ?_)
      have hltx : x < xs.length := by rw [← size_of_entries hea]; exact hlt
      obtain ⟨⟨k, ka, v⟩, hx⟩ : ∃ y, xs[x]? = some y := ⟨xs[x], List.getElem?_eq_getElem hltx⟩
      obtain ⟨c, hPx, hc⟩ := Ea.get hx
      rw [entry_at hea x, hx]
      have hltP : x < P.length := by rw [la]; exact hlt
      have hdrop : P.drop x = (k, c) :: P.drop (x + 1) := by
        rw [List.drop_eq_getElem_cons hltP]
        congr 1
        rw [List.getElem?_eq_getElem hltP] at hPx
        exact Option.some.inj hPx
      rw [hdrop] at hpre
      have hik : (KK2 z).is s'.heap k ka := hia _ (List.mem_of_getElem? hx)
      show wpAny _ _ (holding [Value.ref ka, v] (do
        let o ← dictFind b (Value.ref ka) ((KK2 z).hash k)
        _) >>= _) _ _ _
      refine wpAny_bind (wpAny_holding (wpAny_bind (wpAny_dictFind_heap (knd := KK2 z) hu hik hob hdb heb hib hnb (fun hno => ?_) (fun j p hj => ?_))))
      · have e1 := atKey_none_of_get hno
        have e2 : plook R k = none := by
          rcases Eb.look k with ⟨_, e2⟩ | ⟨p, q', e1', _⟩
          · exact e2
          · rw [e1] at e1'; cases e1'
        have er : peqFrom R P = false := by rw [← hpre]; simp [peqFrom, e2]
        rw [er] at h'
        refine wpAny_pure ?_
        show wpAny _ _ (if (!false) = true then _ else _) _ _ _
        rw [if_pos (by decide)]
        exact wpAny_pure (wpAny_pure h')
      · obtain ⟨c', hRj, hc'⟩ := Eb.get hj
        have e2 : plook R k = some c' := by
          refine look_of_get ?_ hRj
          rw [← Eb.keys]; exact hnb
        refine wpAny_bind (wpAny_dictEntries hob hdb ?_)
        rw [entry_at heb j, hj]
        obtain ⟨va, rfl, hva⟩ := hc.key.isK z
        obtain ⟨vb, hvb0, hvb⟩ := hc'.key.isK z
        obtain ⟨pa, pv⟩ := p
        obtain rfl : pv = .ref vb := hvb0
        refine wpAny_holding (wpAny_eqBool_tuple hu hva hvb ?_)
        rw [rat_key_eq]
        by_cases hcc : c = c'
        · subst hcc
          rw [decide_eq_true rfl]
          have er : peqFrom R (P.drop (x + 1)) = peqFrom R P := by rw [← hpre]; simp [peqFrom, e2]
          show wpAny _ _ (if (!true) = true then _ else _) _ _ _
          rw [if_neg (by decide)]
          refine wpAny_bind (wpAny_dictEpoch hoa hda ?_)
          rw [if_neg (by simp)]
          exact wpAny_pure ⟨rfl, rfl, x + 1, hrest, hlt, er⟩
        · rw [decide_eq_false hcc]
          have er : peqFrom R P = false := by rw [← hpre]; simp [peqFrom, e2, hcc]
          rw [er] at h'
          show wpAny _ _ (if (!false) = true then _ else _) _ _ _
          rw [if_pos (by decide)]
          exact wpAny_pure (wpAny_pure h')
    · rintro q s' ⟨rfl, rfl, i, hr, hi, hpre⟩
      have hin : i = es.size := by
        rcases Nat.lt_or_ge i es.size with h | h
        · have e : es.size - i = (es.size - (i + 1)) + 1 := by omega
          rw [e, List.range'_succ] at hr; exact nomatch hr
        · exact Nat.le_antisymm hi h
      refine wpAny_pure ?_
      rw [hin, ← la, List.drop_length] at hpre
      rw [← hpre] at h'
      exact h'

theorem dict_eq_poly {a b : Addr} {P R : Poly} {Q : Value → Shared → Prop} (hu : A.units + 1 < cLine) (ha : (a == sysModules) = false) (hb : (b == sysModules) = false)
    (da : PolyAt z s.heap a P) (db : PolyAt z s.heap b R) (h : Q (.bool (peq P R)) s) : wpAny (model Pr z.w) A (compareOp .Eq (.ref a) (.ref b)) Q E s := by
  have Ta : s.TypeIs (.ref a) "dict" := let ⟨_, D, _⟩ := da; Heap.DictOfH.typeIs D
  have Tb : s.TypeIs (.ref b) "dict" := let ⟨_, D, _⟩ := db; Heap.DictOfH.typeIs D
  refine wpAny_richCompare_same_room (op := .Eq) Ta Tb PySem.F.slot_dict_eq (wpAny_call_entry PySem.F.slot_dict_eq Ta PySem.F.entry_dict_eq ?_ (PySem.F.args_dict_eq_2 _ _)) (by omega)
  show wpAny _ _ (Builtin.Dict.dictSlotArgs "__eq__" ⟨[.ref a, .ref b], []⟩ >>= _) _ _ s
  refine wpAny_bind ?_
  unfold Builtin.Dict.dictSlotArgs
  refine wpAny_bind (wpAny_notOrdered_dict Ta ?_)
  show wpAny _ _ (pure (Value.ref a, Value.ref b)) _ _ s
  refine wpAny_pure ?_
  refine wpAny_bind (wpAny_isInstance (T := "dict") Tb PySem.F.sub_dict_dict ?_)
  simp only [Bool.not_true, Bool.false_eq_true, if_false]
  refine wpAny_bind (wpAny_pure (wpAny_bind (wpAny_pure ?_)))
  refine wpAny_bind (samePairs_poly (A := A.in1) hu ha hb da db ?_)
  refine wpAny_pure ⟨_, rfl, ?_, ?_⟩
  · exact fun x => nomatch x
  · simpa using h
theorem dict_ne_poly {a b : Addr} {P R : Poly} {Q : Value → Shared → Prop} (hu : A.units + 1 < cLine) (ha : (a == sysModules) = false) (hb : (b == sysModules) = false)
    (da : PolyAt z s.heap a P) (db : PolyAt z s.heap b R) (h : Q (.bool (!peq P R)) s) : wpAny (model Pr z.w) A (compareOp .NotEq (.ref a) (.ref b)) Q E s := by
  have Ta : s.TypeIs (.ref a) "dict" := let ⟨_, D, _⟩ := da; Heap.DictOfH.typeIs D
  have Tb : s.TypeIs (.ref b) "dict" := let ⟨_, D, _⟩ := db; Heap.DictOfH.typeIs D
  refine wpAny_richCompare_same_room (op := .NotEq) Ta Tb PySem.F.slot_dict_ne (wpAny_call_entry PySem.F.slot_dict_ne Ta PySem.F.entry_dict_ne ?_ (PySem.F.args_dict_ne_2 _ _)) (by omega)
  show wpAny _ _ (Builtin.Dict.dictSlotArgs "__ne__" ⟨[.ref a, .ref b], []⟩ >>= _) _ _ s
  refine wpAny_bind ?_
  unfold Builtin.Dict.dictSlotArgs
  refine wpAny_bind (wpAny_notOrdered_dict Ta ?_)
  show wpAny _ _ (pure (Value.ref a, Value.ref b)) _ _ s
  refine wpAny_pure ?_
  refine wpAny_bind (wpAny_isInstance (T := "dict") Tb PySem.F.sub_dict_dict ?_)
  simp only [Bool.not_true, Bool.false_eq_true, if_false]
  refine wpAny_bind (wpAny_pure (wpAny_bind (wpAny_pure ?_)))
  refine wpAny_bind (samePairs_poly (A := A.in1) hu ha hb da db ?_)
  refine wpAny_pure ⟨_, rfl, ?_, ?_⟩
  · exact fun x => nomatch x
  · simpa using h

/-! ## a dict copied -/
theorem entries_alone {id : String} {d : Addr} {o : Obj} {es ep} {xs : List (List Int × Addr × Value)} {n : Nat} {Q : Array DictEntry → Shared → Prop} (ho : s.heap.get? d = some o) (hd : o.data = .dict es ep)
    (he : es.toList = xs.map (entryOfKey (KK2 z))) (his : ∀ x ∈ xs, (KK2 z).is s.heap x.1 x.2.1) (hn : (xs.map (·.1)).Nodup) (hkb : ∀ x ∈ xs, KB n x.1) (h : Q es s) :
    wpAny (model Pr z.w) A (Builtin.Dict.entriesForEmpty id d) Q E s := by
  unfold Builtin.Dict.entriesForEmpty
  refine wpAny_bind (wpAny_dictEntries ho hd ?_)
  refine wpAny_bind ?_
  rw [← Array.forIn_toList]
  refine wpAny_forIn_list _ (fun rest r s' => s' = s ∧ ∀ e ∈ rest, e ∈ es.toList) _ ?_ ?_ _ _ ⟨rfl, fun e he => he⟩
  · rintro e rest r s' ⟨rfl, hall⟩
    have hm := hall e List.mem_cons_self
    have hrest : ∀ e ∈ rest, e ∈ es.toList := fun x hx => hall x (List.mem_cons_of_mem _ hx)
    rw [he] at hm
    obtain ⟨x, hx, rfl⟩ := List.mem_map.mp hm
    have hk := his x hx
    have hT : s'.TypeIs (.ref x.2.1) "tuple" := IsTupleKey.typeIs hk
    show wpAny _ _ ((do return (← specialOf (Value.ref x.2.1) "__eq__") == some (.builtin "object.__eq__") : Sem Bool) >>= _) _ _ _
    refine wpAny_bind (wpAny_bind (wpAny_specialOf hT PySem.F.slot_tuple_eq.lookup (wpAny_pure ?_)))
    have hsz : ¬ ((es.filter (·.hash == (entryOfKey (KK2 z) x).hash)).size > 1) := by
      have e1 : (es.filter (·.hash == (entryOfKey (KK2 z) x).hash)).toList = (xs.map (entryOfKey (KK2 z))).filter (fun e => e.hash == (entryOfKey (KK2 z) x).hash) := by
        rw [Array.toList_filter, he]
      have e2 : ((xs.map (entryOfKey (KK2 z))).filter (fun e => e.hash == (entryOfKey (KK2 z) x).hash)).length ≤ 1 := by
        rw [List.filter_map, List.length_map]
        have : ∀ l : List (List Int × Addr × Value), (∀ y ∈ l, KB n y.1) → (l.map (·.1)).Nodup → (l.filter ((fun e => e.hash == (entryOfKey (KK2 z) x).hash) ∘ entryOfKey (KK2 z))).length ≤ 1 := by
          intro l
          induction l with
          | nil => intro _ _; simp
          | cons y l ih =>
            intro h1 h2
            rw [List.map_cons, List.nodup_cons] at h2
            have ih' := ih (fun z hz => h1 z (List.mem_cons_of_mem _ hz)) h2.2
            rw [List.filter_cons]
            split
            · rename_i hy
              have hy0 : (KK2 z).hash y.1 = (KK2 z).hash x.1 := by simpa [entryOfKey] using hy
              have hy' : tupleKeyHash (intKind Pr z.w) y.1 = tupleKeyHash (intKind Pr z.w) x.1 := hy0
              have ey := (h1 y List.mem_cons_self).inj z.w (hkb x hx) hy'
              have : l.filter ((fun e => e.hash == (entryOfKey (KK2 z) x).hash) ∘ entryOfKey (KK2 z)) = [] := by
                rw [List.filter_eq_nil_iff]
                intro w hw hc
                have hc0 : (KK2 z).hash w.1 = (KK2 z).hash x.1 := by simpa [entryOfKey] using hc
                have hc' : tupleKeyHash (intKind Pr z.w) w.1 = tupleKeyHash (intKind Pr z.w) x.1 := hc0
                have ew := (h1 w (List.mem_cons_of_mem _ hw)).inj z.w (hkb x hx) hc'
                exact h2.1 (List.mem_map.mpr ⟨w, hw, ew.trans ey.symm⟩)
              rw [this]; simp
            · exact ih'
        exact this xs hkb hn
      rw [← Array.length_toList, e1]; omega
    rw [if_pos (by decide), if_neg hsz]
    exact wpAny_pure ⟨rfl, hrest⟩
  · rintro r s' ⟨rfl, _⟩
    exact wpAny_pure h

theorem merge_new {nm : String} {d o : Addr} {P : Poly} {n : Nat} {Q : Unit → Shared → Prop} (hdo : d ≠ o) (hoS : (o == sysModules) = false) (hd : PolyAt z s.heap d []) (ho : PolyAt z s.heap o P) (hkb : ∀ e ∈ P, KB n e.1) (hsz : P.length ≤ sizeLine)
    (hQ : ∀ h', PolyAt z h' d P → Heap.SameBut d s.heap h' → TK s.heap h' → Q () { s with heap := h' }) : wpAny (model Pr z.w) A (Builtin.Dict.mergeDict nm d o) Q E s := by
  have hd0 := hd
  obtain ⟨xs, ⟨od, esd, epd, hod, hcd, hdd, hed, hid, hnd⟩, Ed⟩ := hd
  obtain ⟨ys, ⟨oo, eso, epo, hoo, hco, hdo', heo, hio, hno⟩, Eo⟩ := id ho
  have x0 : xs = [] := List.length_eq_zero_iff.mp (by rw [Ed.len]; rfl)
  subst x0
  have d0 : esd = #[] := by
    have := congrArg List.length hed
    simp at this
    exact this
  subst d0
  unfold Builtin.Dict.mergeDict
  rw [if_neg (by simpa using hdo)]
  unfold Builtin.Dict.showsAll
  rw [if_neg (by rw [hoS]; exact Bool.false_ne_true)]
  refine wpAny_bind (wpAny_pure ?_)
  refine wpAny_bind (wpAny_dictEntries hoo hdo' ?_)
  by_cases hemp : eso = #[]
  · subst hemp
    have y0 : ys = [] := by
      have := congrArg List.length heo
      simp at this
      exact List.length_eq_zero_iff.mp this.symm
    subst y0
    have p0 : P = [] := List.length_eq_zero_iff.mp (by rw [← Eo.len]; rfl)
    subst p0
    dsimp only
    rw [if_neg (by simp)]
    refine wpAny_bind (wpAny_dictEpoch hoo hdo' (wpAny_bind (wpAny_dictEntries hoo hdo' ?_)))
    rw [Std.Legacy.Range.forIn_eq_forIn_range']
    exact wpAny_bind (wpAny_pure (wpAny_pure (hQ _ hd0 (Heap.SameBut.refl _ _) (TK.refl _))))
  · have few : (decide (eso.size ≤ 8) && eso.all fun e => (keyPart e.key).isSome) = false := by
      rw [Bool.and_eq_false_iff]
      right
      cases hy : ys with
      | nil => 
        exfalso; apply hemp
        have := congrArg List.length heo
        rw [hy] at this
        simp at this
        exact this
      | cons y ys' =>
        rw [← Array.all_toList, heo, hy]
        simp [entryOfKey, keyPart]
    dsimp only
    rw [few]
    rw [if_pos (by decide)]
    refine wpAny_bind (wpAny_dictEntries hod hdd ?_)
    rw [if_pos (by decide)]
    have hkb' : ∀ x ∈ ys, KB n x.1 := fun x hx => by
      obtain ⟨i, hi⟩ := List.mem_iff_getElem?.mp hx
      obtain ⟨k, a, v⟩ := x
      obtain ⟨q, hq, _⟩ := Eo.get hi
      exact hkb _ (List.mem_of_getElem? hq)
    refine wpAny_bind (entries_alone hoo hdo' heo hio hno hkb' ?_)
    rw [if_pos (by simpa using hemp)]
    have hs : Heap.SameBut d s.heap (s.heap.update d (Obj.mapDictKeys fun _ => eso)) := Heap.SameBut.update ..
    have t : TK s.heap (s.heap.update d (Obj.mapDictKeys fun _ => eso)) := TK.keep (Keep.same hs) fun b hb => by rw [hb]; exact hd0.notTup
    refine wpAny_bind (wpAny_updateDictKeysTo hod hdd (wpAny_pure (hQ _ ⟨ys, ⟨_, _, epd + 1, Heap.get?_update_self _ hod (Obj.isFreed_of_dict (Obj.data_mapDictKeys hdd _)), hcd.mapDictKeys _, Obj.data_mapDictKeys hdd _, heo, fun x hx => isKey_tk (hio x hx) t, hno⟩, Eo.tk t⟩ hs t)) ?_)
    rw [size_of_entries heo, Eo.len]; omega

theorem PolyAt.new (h : Heap) : PolyAt z (h.push { cls := .type "dict", data := .dict #[] }) h.objs.size [] := ⟨[], Heap.DictOfH.new h, .nil⟩
theorem call_dict_poly {o : Addr} {P : Poly} {n : Nat} {Q : Value → Shared → Prop} (hoS : (o == sysModules) = false) (ho : PolyAt z s.heap o P) (hkb : ∀ e ∈ P, KB n e.1) (hsz : P.length ≤ sizeLine)
    (h : ∀ h', PolyAt z h' s.heap.objs.size P → Ext s.heap h' → Q (.ref s.heap.objs.size) { s with heap := h' }) : wpAny (model Pr z.w) A (call (.type "dict") [.ref o]) Q E s := by
  refine callType_codes (Q₁ := fun obj s₁ => obj = .ref s.heap.objs.size ∧ s₁ = { s with heap := s.heap.push { cls := .type "dict", data := .dict #[] } }) PySem.F.kt_called_dict (PySem.F.kt_typeCall_dict_1 _) PySem.F.entry_dict_init (kt_code_dict_new _ ⟨rfl, rfl⟩) ?_
  rintro obj s₁ ⟨rfl, rfl⟩
  have hnew : PolyAt z (s.heap.push { cls := .type "dict", data := .dict #[] }) s.heap.objs.size [] := PolyAt.new s.heap
  have ex : Ext s.heap (s.heap.push { cls := .type "dict", data := .dict #[] }) := Ext.push _ _
  have ho' : PolyAt z (s.heap.push { cls := .type "dict", data := .dict #[] }) o P := ho.ext ex
  have hdo : s.heap.objs.size ≠ o := by
    obtain ⟨oo, hoo⟩ := ho.some
    exact fun e => absurd (Heap.lt_size hoo) (by rw [e]; exact Nat.lt_irrefl _)
  have Tn : Shared.TypeIs { s with heap := s.heap.push { cls := .type "dict", data := .dict #[] } } (.ref s.heap.objs.size) "dict" := let ⟨_, D, _⟩ := hnew; Heap.DictOfH.typeIs (s := { s with heap := s.heap.push { cls := .type "dict", data := .dict #[] } }) D
  have To : Shared.TypeIs { s with heap := s.heap.push { cls := .type "dict", data := .dict #[] } } (.ref o) "dict" := let ⟨_, D, _⟩ := ho'; Heap.DictOfH.typeIs (s := { s with heap := s.heap.push { cls := .type "dict", data := .dict #[] } }) D
  refine ⟨Tn, PySem.F.args_dict_init_2 _ _, ?_⟩
  unfold Builtin.«dict.__init__»
  refine wpAny_bind ?_
  unfold Builtin.Dict.selfAndRest
  refine wpAny_bind (wpAny_notOrdered_dict Tn ?_)
  show wpAny _ _ (pure (s.heap.objs.size, [Value.ref o])) _ _ _
  refine wpAny_pure ?_
  show wpAny _ _ (Builtin.Dict.updateFrom "dict.__init__" s.heap.objs.size (.ref o) [] .none) _ _ _
  unfold Builtin.Dict.updateFrom
  refine wpAny_bind (wpAny_typeOf To ?_)
  rw [if_neg (by decide)]
  refine wpAny_bind ?_
  unfold Builtin.Dict.merge
  refine wpAny_bind ?_
  unfold Builtin.Dict.readDirectly
  refine wpAny_bind (wpAny_isInstance To isSubtype_dict_dict ?_)
  simp only [Bool.not_true, Bool.false_eq_true, if_false]
  refine wpAny_bind (wpAny_specialOf To PySem.F.slot_dict_iter.lookup (wpAny_pure ?_))
  simp only [beq_self_eq_true, if_true]
  refine wpAny_bind (wpAny_pure ?_)
  refine merge_new (n := n) hdo hoS hnew ho' hkb hsz fun h' hd' hs' _ => ?_
  show wpAny _ _ (Builtin.Dict.addKeywords s.heap.objs.size [] >>= _) _ _ _
  refine wpAny_bind (wpAny_pure (wpAny_pure ⟨rfl, h h' hd' fun b ob _ e => ?_⟩))
  exact (hs'.2 b (fun q => by rw [q] at e; rw [fresh_size] at e; cases e)).trans (ex.get e)
end

/-- a polynomial at an address that is no module table -/
structure DA (z : Z) (h : Heap) (d : Addr) (P : Poly) : Prop where
  nm : (d == sysModules) = false
  p : PolyAt z h d P
theorem DA.move {z : Z} {h h' : Heap} {d : Addr} {P : Poly} (x : DA z h d P) (t : TK h h') (e : ∀ o, h.get? d = some o → h'.get? d = some o) : DA z h' d P := ⟨x.nm, x.p.move t e⟩
theorem DA.ext {z : Z} {h h' : Heap} {d : Addr} {P : Poly} (x : DA z h d P) (e : Ext h h') : DA z h' d P := ⟨x.nm, x.p.ext e⟩
theorem DA.nodup {z : Z} {h : Heap} {d : Addr} {P : Poly} (x : DA z h d P) : (P.map (·.1)).Nodup := x.p.nodup
theorem GL.fresh_nm {z : Z} {h : Heap} (G : GL z h) : (h.objs.size == sysModules) = false := by
  obtain ⟨mg, mb, T⟩ := G.t
  have := T.g.lt
  have e1 : mainGlobals = 3 := rfl
  have e2 : sysModules = 1 := rfl
  rw [e2]
  rw [e1] at this
  have : h.objs.size ≠ 1 := by intro e; rw [e] at this; exact absurd this (by decide)
  simpa using this
theorem DRaw.ofPoly {z : Z} {h : Heap} {d : Addr} {P : Poly} (x : PolyAt z h d P) : ∃ xs es ep, DRaw h d es ep ∧ es.toList = xs.map (entryOfKey (KK2 z)) ∧ Ents h xs P ∧ (∀ x ∈ xs, (KK2 z).is h x.1 x.2.1) := by
  obtain ⟨xs, ⟨o, es, ep, ho, hc, hd, he, hi, hn⟩, E⟩ := x
  exact ⟨xs, es, ep, ⟨o, ho, hc, hd⟩, he, E, hi⟩

section
variable {z : Z} {A : Around} {h : Heap} {env : Env} {k : Nat}
theorem W.eqD {a b : Addr} {P R : Poly} {Q : Value → Heap → Prop} (r : Rm A k) (ha : DA z h a P) (hb : DA z h b R) (q : Q (.bool (peq P R)) h) : W z A (compareOp .Eq (.ref a) (.ref b)) h Q := fun n =>
  dict_eq_poly (s := at_ z h n) (by have := r.u; omega) ha.nm hb.nm ha.p hb.p (W.ok q)
theorem W.neD {a b : Addr} {P R : Poly} {Q : Value → Heap → Prop} (r : Rm A k) (ha : DA z h a P) (hb : DA z h b R) (q : Q (.bool (!peq P R)) h) : W z A (compareOp .NotEq (.ref a) (.ref b)) h Q := fun n =>
  dict_ne_poly (s := at_ z h n) (by have := r.u; omega) ha.nm hb.nm ha.p hb.p (W.ok q)
theorem W.dictOf {o : Addr} {P : Poly} {m : Nat} {Q : Value → Heap → Prop} (G : GL z h) (ho : DA z h o P) (hkb : ∀ e ∈ P, KB m e.1) (hsz : P.length ≤ sizeLine)
    (q : ∀ d h', Ext h h' → h.get? d = none → DA z h' d P → Q (.ref d) h') : W z A (call (.type "dict") [.ref o]) h Q := fun n =>
  call_dict_poly (s := at_ z h n) (n := m) ho.nm ho.p hkb hsz fun h' hp e => W.ok (q _ h' e (fresh_size h) ⟨G.fresh_nm, hp⟩)
theorem W.dict0 {pos : Pos} {Q : Value → Heap → Prop} (G : GL z h) (q : ∀ d h', Ext h h' → h.get? d = none → DA z h' d [] → Q (.ref d) h') : W z A (eval (.Dict [] [] pos) env) h Q := fun n =>
  wpAny_Dict_empty (W.ok (q _ _ (Ext.push h _) (fresh_size h) ⟨G.fresh_nm, PolyAt.new h⟩))
theorem len_meets (d : Addr) (hd : (d == sysModules) = false) : MeetsIn Pr z.w (Builtin.«dict.__len__» ⟨[.ref d], []⟩) (fun _ R s => ∃ P, PolyAt z s.heap d P ∧ R (.ok (.ret (.int (P.length : Int) s.toks))) { s with toks := s.toks + 1 }) :=
  .of_wp fun A R s ⟨P, hP, q⟩ => by
    obtain ⟨xs, D, En⟩ := hP
    obtain ⟨o, es, ep, ho, hc, hdat, he, his, hn⟩ := id D
    show wpAny _ _ (dictSize d >>= _) _ _ s
    unfold dictSize
    refine wpAny_bind (wpAny_bind (wpAny_dictEntries ho hdat (wpAny_pure ?_)))
    show wpAny _ _ (Builtin.Dict.pendingCount d >>= _) _ _ s
    refine wpAny_bind (wpAny_pendingCount_other hd ?_)
    refine wpAny_ret_mkInt ?_
    rw [Nat.add_zero, size_of_entries he, En.len]; exact q
theorem W.lenD {d : Addr} {P : Poly} {Q : Value → Heap → Prop} (hP : DA z h d P) (hfit : P.length ≤ sizeLine) (q : ∀ t, Q (.int (P.length : Int) t) h) : W z A (call (.builtin "len") [.ref d]) h Q := fun n => by
  have hfit : (P.length : Int) < 2 ^ 63 := by
    have : sizeLine = 16777216 := sizeLine_eq
    omega
  refine Calls.call_function_entry kind_len plain_len entry_len (args_len1 _) ?_
  unfold Builtin.«len»
  have T : (at_ z h n).TypeIs (.ref d) "dict" := hP.p.typeIs n
  refine wpAny_bind (m := oneArg "len" _) (wpAny_pure ?_)
  refine wpAny_bind (m := callSpecial? (.ref d) (Str.ofString "__len__")) (wpAny_callSpecial?_slot (name := Str.ofString "__len__") T PySem.F.slot_dict_len
    (call_meetsIn PySem.F.slot_dict_len T PySem.F.entry_dict_len (PySem.F.args_dict_len_1 _) (len_meets d hP.nm) ⟨P, hP.p, ?_⟩))
  show wpAny _ _ _ _ _ (at_ z h (n + 1))
  refine wpAny_bind (wpAny_holding (wpAny_pure ?_))
  refine wpAny_bind (wpAny_letGo ?_)
  show wpAny _ _ (if ((P.length : Nat) : Int) < 0 then _ else _) _ _ _
  rw [if_neg (by omega)]
  show wpAny _ _ (if ((P.length : Nat) : Int) ≥ 2 ^ 63 then _ else _) _ _ _
  rw [if_neg (by omega)]
  exact wpAny_bind (wpAny_mkInt (wpAny_pure ⟨_, rfl, W.ok (n := n + 1 + 1) (q _)⟩))
theorem W.lenL {l : Addr} {vs : List Value} {Q : Value → Heap → Prop} (hl : h.IsList l vs.toArray) (hsz : vs.length ≤ sizeLine) (q : ∀ t, Q (.int (vs.length : Int) t) h) : W z A (call (.builtin "len") [.ref l]) h Q := fun n =>
  PyProof.Rows.len_list (s := at_ z h n) hl (by have : sizeLine = 16777216 := sizeLine_eq; simp; omega) (W.ok (n := n + 1 + 1) (q _))
end
end NN
end

section
open PySem PySem.W PyProof.Rows
set_option linter.unusedVariables false
set_option linter.unusedSimpArgs false
namespace NN
set_option maxRecDepth 100000

/-! ## sums of polynomials, as the text makes them -/
noncomputable def paddT (P : Poly) (k : List Int) (c : Rat) : Poly :=
  match plook P k with
  | some c0 => if c0 + c = 0 then pdel P k else pset P k (c0 + c)
  | none => if c = 0 then P else pset P k c
noncomputable def padd (P R : Poly) : Poly := R.foldl (fun acc e => paddT acc e.1 e.2) P
/-- the size of a polynomial's numbers -/
noncomputable def tsz (P : Poly) : Nat := (P.map fun e => sz e.2 + 2).sum
noncomputable abbrev LIM : Nat := 33554432

theorem tsz_nil : tsz [] = 0 := rfl
theorem tsz_cons (e : List Int × Rat) (P : Poly) : tsz (e :: P) = sz e.2 + 2 + tsz P := by simp [tsz]
theorem tsz_append (P R : Poly) : tsz (P ++ R) = tsz P + tsz R := by simp [tsz]
theorem len_tsz (P : Poly) : 3 * P.length ≤ tsz P := by
  induction P with
  | nil => simp
  | cons e P ih => rw [tsz_cons, List.length_cons]; have := sz_pos e.2; omega
theorem len_line {P : Poly} (h : tsz P ≤ LIM) : P.length ≤ sizeLine := by
  have := len_tsz P
  have : sizeLine = 16777216 := sizeLine_eq
  unfold LIM at h; omega
theorem plook_cons (e : List Int × Rat) (P : Poly) (k : List Int) : plook (e :: P) k = if e.1 = k then some e.2 else plook P k := by
  unfold plook
  rw [List.find?_cons]
  by_cases h : e.1 = k
  · simp [h]
  · simp [h]
theorem tsz_look {P : Poly} {k : List Int} {c : Rat} (h : plook P k = some c) : sz c + 2 ≤ tsz P := by
  induction P with
  | nil => simp [plook] at h
  | cons e P ih =>
    rw [plook_cons] at h
    rw [tsz_cons]
    split at h
    · cases h; omega
    · have := ih h; omega
theorem tsz_del (P : Poly) (k : List Int) : tsz (pdel P k) ≤ tsz P := by
  induction P with
  | nil => simp [pdel]
  | cons e P ih =>
    unfold pdel at ih ⊢
    rw [List.filter_cons]
    split
    · rw [tsz_cons, tsz_cons]; omega
    · rw [tsz_cons]; omega
theorem map_pput_none {P : Poly} {k : List Int} {q : Rat} (h : k ∉ P.map (·.1)) : P.map (pput k q) = P := by
  induction P with
  | nil => rfl
  | cons e P ih =>
    simp only [List.map_cons, List.mem_cons, not_or] at h ⊢
    rw [ih h.2, pput, if_neg (fun q => h.1 q.symm)]
theorem tsz_put {P : Poly} {k : List Int} {c q : Rat} (hn : (P.map (·.1)).Nodup) (h : plook P k = some c) : tsz (P.map (pput k q)) + sz c = tsz P + sz q := by
  induction P with
  | nil => simp [plook] at h
  | cons e P ih =>
    rw [List.map_cons, List.nodup_cons] at hn
    rw [plook_cons] at h
    rw [List.map_cons, tsz_cons, tsz_cons]
    split at h
    · rename_i he
      cases h
      rw [map_pput_none (he ▸ hn.1)]
      simp only [pput, he, if_true]
      omega
    · rename_i he
      have := ih hn.2 h
      simp only [pput, he, if_false]
      omega
theorem tsz_paddT {P : Poly} (hn : (P.map (·.1)).Nodup) (k : List Int) (c : Rat) : tsz (paddT P k c) ≤ tsz P + sz c + 2 := by
  unfold paddT
  cases h : plook P k with
  | none =>
    dsimp only
    split
    · omega
    · simp only [pset, h, Option.isSome_none, Bool.false_eq_true, if_false]
      rw [tsz_append, tsz_cons, tsz_nil]; show tsz P + (sz c + 2 + 0) ≤ _; omega
  | some c0 =>
    dsimp only
    split
    · have := tsz_del P k; omega
    · simp only [pset, h, Option.isSome_some, if_true]
      have := tsz_put (q := c0 + c) hn h
      have := sz_add c0 c
      omega
theorem keys_put (P : Poly) (k : List Int) (q : Rat) : (P.map (pput k q)).map (·.1) = P.map (·.1) := by
  induction P with
  | nil => rfl
  | cons e P ih =>
    simp only [List.map_cons, ih]
    congr 1
    unfold pput; split <;> rfl
theorem look_none_iff {P : Poly} {k : List Int} : plook P k = none ↔ k ∉ P.map (·.1) := by
  induction P with
  | nil => simp [plook]
  | cons e P ih =>
    rw [plook_cons, List.map_cons, List.mem_cons, not_or]
    split
    · rename_i h; simp [h]
    · rename_i h; rw [ih]; simp; intro _; exact fun q => h q.symm
theorem nodup_set {P : Poly} (hn : (P.map (·.1)).Nodup) (k : List Int) (q : Rat) : ((pset P k q).map (·.1)).Nodup := by
  unfold pset
  cases h : plook P k with
  | none =>
    simp only [Option.isSome_none, Bool.false_eq_true, if_false, List.map_append, List.map_cons, List.map_nil]
    rw [List.nodup_append]
    refine ⟨hn, by simp, fun a ha b hb => ?_⟩
    rw [List.mem_singleton] at hb
    subst hb
    exact fun e => look_none_iff.mp h (e ▸ ha)
  | some c => simp only [Option.isSome_some, if_true]; rw [keys_put]; exact hn
theorem nodup_del {P : Poly} (hn : (P.map (·.1)).Nodup) (k : List Int) : ((pdel P k).map (·.1)).Nodup := hn.sublist ((List.filter_sublist).map _)
theorem nodup_paddT {P : Poly} (hn : (P.map (·.1)).Nodup) (k : List Int) (c : Rat) : ((paddT P k c).map (·.1)).Nodup := by
  unfold paddT
  split
  · split
    · exact nodup_del hn k
    · exact nodup_set hn k _
  · split
    · exact hn
    · exact nodup_set hn k _
theorem nodup_padd {P : Poly} (hn : (P.map (·.1)).Nodup) (R : Poly) : ((padd P R).map (·.1)).Nodup := by
  unfold padd
  induction R generalizing P with
  | nil => exact hn
  | cons e R ih => exact ih (nodup_paddT hn e.1 e.2)
theorem tsz_padd {P : Poly} (hn : (P.map (·.1)).Nodup) (R : Poly) : tsz (padd P R) ≤ tsz P + tsz R := by
  unfold padd
  induction R generalizing P with
  | nil => simp [tsz_nil]
  | cons e R ih =>
    rw [List.foldl_cons, tsz_cons]
    have := ih (nodup_paddT hn e.1 e.2)
    have := tsz_paddT hn e.1 e.2
    omega
/-- all keys of the polynomial -/
noncomputable def keysOf (P : Poly) : List (List Int) := P.map (·.1)
theorem mem_set {P : Poly} {k : List Int} {q : Rat} {e : List Int × Rat} (h : e ∈ pset P k q) : e.1 = k ∨ e.1 ∈ P.map (·.1) := by
  unfold pset at h
  split at h
  · right; have := List.mem_map_of_mem (f := (·.1)) h; rwa [keys_put] at this
  · rw [List.mem_append, List.mem_singleton] at h
    rcases h with h | h
    · exact .inr (List.mem_map_of_mem h)
    · exact .inl (by rw [h])
theorem mem_paddT {P : Poly} {k : List Int} {c : Rat} {e : List Int × Rat} (h : e ∈ paddT P k c) : e.1 = k ∨ e.1 ∈ P.map (·.1) := by
  unfold paddT at h
  split at h
  · split at h
    · exact .inr (List.mem_map_of_mem (List.mem_filter.mp h).1)
    · exact mem_set h
  · split at h
    · exact .inr (List.mem_map_of_mem h)
    · exact mem_set h
theorem mem_padd {P R : Poly} {e : List Int × Rat} (h : e ∈ padd P R) : e.1 ∈ P.map (·.1) ∨ e.1 ∈ R.map (·.1) := by
  unfold padd at h
  induction R generalizing P with
  | nil => exact .inl (List.mem_map_of_mem h)
  | cons f R ih =>
    rcases ih h with h | h
    · obtain ⟨g, hg, hge⟩ := List.mem_map.mp h
      rcases mem_paddT hg with q | q
      · right; rw [← hge, q]; exact List.mem_map_of_mem List.mem_cons_self
      · left; rw [← hge]; exact q
    · exact .inr (by rw [List.map_cons]; exact List.mem_cons_of_mem _ h)
theorem KB_padd {n : Nat} {P R : Poly} (h1 : ∀ e ∈ P, KB n e.1) (h2 : ∀ e ∈ R, KB n e.1) : ∀ e ∈ padd P R, KB n e.1 := fun e he => by
  rcases mem_padd he with h | h
  · obtain ⟨f, hf, e'⟩ := List.mem_map.mp h; rw [← e']; exact h1 f hf
  · obtain ⟨f, hf, e'⟩ := List.mem_map.mp h; rw [← e']; exact h2 f hf

/-! ## the walk -/
theorem R0_look (w : World) : (KK w).lookup 64 = some ⟨.type "tuple", none, .seq #[.int 0 262, .int 1 263] 0, #[]⟩ := by kernel_rfl!
theorem GL.R0 {z : Z} {h : Heap} (G : GL z h) : RatAt h (.ref 64) 0 := ⟨64, 262, 263, rfl, _, G.k _ _ (R0_look z.w), rfl, 0, rfl⟩

section
variable {z : Z} {A : Around} {h hb : Heap} {env : Env}
theorem MF.base {h₀ h h' : Heap} {nm : List Str} {L : Addr} {vs : List (Option Value)} (F : MF h nm L vs h') (e : Ext h₀ h) : MF h₀ nm L vs h' := ⟨F.ns, e.trans F.keep, none_of e F.fresh⟩

theorem add_term_W {d : Addr} {vk vc : Value} {P : Poly} {ks : List Int} {c : Rat} {k : Nat} {Q : Value → Heap → Prop} (G : GL z hb) (eb : Ext hb h) (hd0 : hb.get? d = none) (r : Rm A (k + 6)) (hd : DA z h d P) (hk : KeyAt h vk ks) (hc : RatAt h vc c) (hs : tsz P + sz c ≤ LIM)
    (q : ∀ h', Keep (fun b => b = d) h h' → TK h h' → DA z h' d (paddT P ks c) → Q .none h') : W z A (call (.ref 127) [.ref d, vk, vc]) h Q := by
  refine W.def 20 nm_add_term (G.ext eb) r (lk_add_term _) (cd_add_term _) (by kernel_rfl!) (by kernel_rfl!) fun L h₁ F R => ?_
  have G' := G.ext (eb.trans F.keep)
  have r' := R.r
  have hdL : L ≠ d := fun q => by obtain ⟨o, ho⟩ := hd.p.some; rw [← q, F.fresh] at ho; cases ho
  have hd1 := hd.ext F.keep
  have hk1 := hk.ext F.keep
  have hc1 := hc.ext F.keep
  have hsz : P.length ≤ sizeLine := len_line (by omega)
  have h27 : LIM ≤ 2 ^ 27 := by decide
  -- behind the store of total
  have fin : ∀ (v : Value) (t : Rat) h2, MF h nm_add_term L [some (.ref d), some vk, some vc, some v] h2 → RatAt h2 v t → (∀ h3, Keep (fun b => b = d) h2 h3 → TK h2 h3 → DA z h3 d (if t = 0 then pdel P ks else pset P ks t) → Q .none h3) →
      W z (A.deeper (envD 20 (.ref 126) (.str (Str.ofString "cas.mvpoly") 320) L 127)) (execs ((dBody (stD 20)).drop 1) (envD 20 (.ref 126) (.str (Str.ofString "cas.mvpoly") 320) L 127)) h2 (fun fl h' => Q (retOf fl) h') := by
    intro v t h2 F2 hv qq
    have G2 := G.ext (eb.trans F2.keep)
    have hd2 := hd.ext F2.keep
    have hk2 := hk.ext F2.keep
    refine W.cons (W.iff (W.tcmp (W.nl F2 3 (W.ng G2 (.ref 64) (W.eqR r' hv G2.R0 (W.tb ?_))))))
    by_cases ht : t = 0
    · rw [if_pos (by simpa using ht)]
      rw [if_pos ht] at qq
      refine W.cons (W.xpr (W.meth (W.nl F2 0 (W.getMD hd2.p (W.callB (first := [.ref d]) (W.sp (W.nl F2 1 (W.sp (W.cnone (W.sp0 (W.popD (k := 0) (r'.mono (by omega)) hk2 hd2.nm hd2.p hsz (fun hno => ?_) fun h3 v3 c3 hl3 hv3 hp3 hs3 ht3 => ?_))))))))) ) )
      · refine W.nil (W.nil (qq h2 (Keep.refl _ _) (TK.refl _) ⟨hd2.nm, ?_⟩))
        rw [pdel_none hno]; exact hd2.p
      · exact W.nil (W.nil (qq h3 (Keep.same hs3) ht3 ⟨hd2.nm, hp3⟩))
    · rw [if_neg (by simpa using ht)]
      rw [if_neg ht] at qq
      refine W.cons (W.asgSub (W.nl F2 3 (W.nl F2 0 (W.nl F2 1 (W.setD (k := 0) (r'.mono (by omega)) hk2 hd2.p hv hsz fun h3 hp3 hs3 ht3 => ?_)))))
      exact W.nil (W.nil (qq h3 (Keep.same hs3) ht3 ⟨hd2.nm, hp3⟩))
  refine W.cons (W.asg (W.ifx (W.tcmp (W.nl F 1 (W.nl F 0 (W.inD (k := 0) (r'.mono (by omega)) hk1 hd1.nm hd1.p (W.tb ?_)))))))
  cases hl : plook P ks with
  | none =>
    simp only [Option.isSome_none, Bool.false_eq_true, if_false]
    refine W.nl F 2 (W.store F 3 fun h2 F2 s2 => fin _ c h2 F2 (hc.ext F2.keep) fun h3 k3 t3 hh => ?_)
    refine q h3 (F2.keep.to.trans k3) ((TK.ext F2.keep).trans t3) ?_
    simp only [paddT, hl]
    rwa [pdel_none hl] at hh
  | some c0 =>
    simp only [Option.isSome_some, if_true]
    refine W.callN (W.ng G' (.ref 78) (W.callW (lk_radd _) (W.sp (W.sub (W.nl F 0 (W.nl F 1 (W.getD (k := 0) (r'.mono (by omega)) hk1 hd1.p hl fun x hx => W.sp (W.nl F 2 (W.sp0 ⟨G', radd_W (k := k) G' r' hx hc1 ?_ fun h2 v e2 hv => ?_⟩)))))))))
    · have := tsz_look hl; omega
    · refine W.store (F.ext e2) 3 fun h3 F3 s3 => fin _ (c0 + c) h3 F3 (hv.same (F.ext e2).ns s3) fun h4 k4 t4 hh => ?_
      refine q h4 (F3.keep.to.trans k4) ((TK.ext F3.keep).trans t4) ?_
      simp only [paddT, hl]
      exact hh
end
end NN
end

section
open PySem PySem.W PyProof.Rows
set_option linter.unusedVariables false
set_option linter.unusedSimpArgs false
namespace NN
set_option maxRecDepth 100000

section
variable {z : Z} {A : Around} {h h₀ : Heap} {env : Env} {nm : List Str} {vs : List (Option Value)}

theorem Loop.introT {tg : Expr} {body : List Stmt} {I : Addr} {fp wr : List Addr} {n : Nat} {P Md : Nat → Value → Heap → Prop} {St : Nat → Heap → Prop} {Q : Flow → Heap → Prop}
    (K : Turns z A tg I fp wr n P Md St) (J : Nat → Heap → Prop) (hst : St 0 h) (hnt : ∀ i h, St i h → ∀ b ∈ wr, ∀ xs, ¬ IsTup h b xs) (h0 : J 0 h) (hJ : ∀ i h h', J i h → Keep (· ∈ wr) h h' → TK h h' → J i h')
    (step : ∀ i v h1, i < n → P i v h1 → J i h1 → W z A (assign tg env v) h1 (fun _ h2 => W z A (execs body env) h2 (fun f h3 => match f with
      | .next | .cont => J (i + 1) h3 ∧ (∀ b ∈ fp, ∀ o, h1.get? b = some o → h3.get? b = some o)
      | .brk => Q .next h3
      | .ret v => Q (.ret v) h3)))
    (hQ : ∀ h', J n h' → Q .next h') : Loop z A tg body env (.ref I) h Q := fun n0 => by
  refine codeAny_forLoop_any (fun k s => ∃ i h' n', s = at_ z h' n' ∧ i ≤ n ∧ k = n - i ∧ St i h' ∧ J i h') (fun k s hI => ?_) n ⟨0, h, n0, rfl, Nat.zero_le _, rfl, hst, h0⟩
  obtain ⟨i, h', n', rfl, hi, rfl, st, j⟩ := hI
  by_cases hlt : i < n
  · refine K.item i _ _ _ hlt st fun v h1 tk hMd hk => ?_
    refine K.go i v _ _ _ hMd fun h2 hP st2 hk2 => ?_
    have kk : Keep (· ∈ wr) h' h2 := fun b o hb e => hk2 b o hb (hk b o hb e)
    refine (step i v h2 hlt hP (hJ i h' h2 j kk (TK.keep kk fun b hb => hnt i h' st b hb))).use tk fun _ h3 n3 q3 => ?_
    refine q3.use n3 fun f h4 n4 q4 => ?_
    cases f with
    | next => exact ⟨n - (i + 1), by omega, i + 1, h4, n4, rfl, hlt, rfl, K.frame _ _ _ st2 fun b hb o e => q4.2 b hb o e, q4.1⟩
    | cont => exact ⟨n - (i + 1), by omega, i + 1, h4, n4, rfl, hlt, rfl, K.frame _ _ _ st2 fun b hb o e => q4.2 b hb o e, q4.1⟩
    | brk => exact W.ok q4
    | ret v => exact W.ok q4
  · have e : i = n := by omega
    subst e
    refine K.done _ _ _ st fun h1 tk hk => wpAny_execs_nil ?_
    have kk : Keep (· ∈ wr) h' h1 := fun b o hb e => hk b o hb e
    exact ⟨h1, tk, rfl, hQ h1 (hJ _ h' h1 j kk (TK.keep kk fun b hb => hnt _ h' st b hb))⟩

theorem not_tup_kiter {h : Heap} {I d : Addr} {i n ep : Nat} (x : h.IsKeyIter I d i n ep) : ∀ ys, ¬ IsTup h I ys := let ⟨o, ho, hc, _⟩ := x; not_tup_cls ho hc (by decide)

theorem intsOfItems {vs : List Value} {ns : List Int} {prog : Program} {w : World} (h : ItemsAre (intKind prog w) ns vs) : IntsAre vs ns := by
  induction h with
  | nil => exact .nil
  | @cons k v ks vs h1 _ ih => obtain ⟨t, rfl⟩ := Value.isInt_shape h1; exact .cons k t ih
/-- for x in a polynomial -/
theorem W.forKeys {x : Str} {p pos : Pos} {iter : Expr} {body : List Stmt} {d : Addr} {R : Poly} {k : Nat} {Q : Flow → Heap → Prop} (r : Rm A k) (J : Nat → Heap → Prop) (D : Addr → Prop)
    (he : ∀ Q' : Value → Heap → Prop, Q' (.ref d) h → W z A (eval iter env) h Q') (e0 : Ext h₀ h) (hd : DA z h₀ d R) (hD : ∀ a, D a → ∃ o, h.get? a = some o)
    (h0 : ∀ h1, Ext h h1 → J 0 h1) (hJ : ∀ I i h1 h2, h.get? I = none → J i h1 → Keep (fun b => b = I) h1 h2 → TK h1 h2 → J i h2) (hext : ∀ i h1, J i h1 → Ext h₀ h1)
    (step : ∀ i ks c v h1, R[i]? = some (ks, c) → KeyAt h₀ v ks → J i h1 → W z A (storeName env x v) h1 (fun _ h2 => W z A (execs body env) h2 (fun f h3 => match f with
      | .next | .cont => J (i + 1) h3 ∧ Keep D h1 h3
      | .brk => Q .next h3
      | .ret v => Q (.ret v) h3)))
    (hQ : ∀ h', J R.length h' → Q .next h') (hs : ∀ x, foldedSetIterable iter env x = PySem.Sem.pure x := by intro _; rfl) : W z A (exec (.For (.Name x p) iter body [] pos) env) h Q := by
  have hdh := hd.ext e0
  obtain ⟨xs0, ⟨o0, es0, ep0, ho0, hc0, hdat0, hes0, his0, hn0⟩, En0⟩ := hd.p
  have DR : DRaw h d es0 ep0 := ⟨o0, e0.get ho0, hc0, hdat0⟩
  refine W.forS (he _ (W.iterDict hdh.nm DR fun I hs eI hI hit => ?_)) hs
  have hdI : d ≠ I := fun q => by have := e0.get ho0; rw [q, hI] at this; cases this
  have hszR : es0.size = R.length := by rw [size_of_entries hes0, En0.len]
  refine Loop.introT (walksKeys r.h I d hdI es0 ep0 (tg := .Name x p) (by intro _ _ _ q; cases q) (by intro _ _ q; cases q)) J ⟨hit, DR.at fun o e => eI.get e⟩ (fun i h st b hb => ?_) (h0 hs eI)
    (fun i h1 h2 j kk tk => hJ I i h1 h2 hI j (kk.weak fun a q => by simpa using q) tk) (fun i v h1 hi hP j => ?_) (fun h' j => hQ h' (by rw [← hszR]; exact j))
  · rw [List.mem_singleton.mp hb]; exact not_tup_kiter st.1
  · have hix : i < xs0.length := by rw [← size_of_entries hes0]; exact hi
    obtain ⟨⟨ks, ka, va⟩, hx⟩ : ∃ y, xs0[i]? = some y := ⟨_, List.getElem?_eq_getElem hix⟩
    obtain ⟨c, hR, hc⟩ := En0.get hx
    have hv : v = .ref ka := by
      have : (es0[i]?).map (·.key) = some v := hP
      rw [entry_at hes0 i, hx] at this
      simpa [entryOfKey] using this.symm
    have hkey : KeyAt h₀ v ks := by
      obtain ⟨o, items, n, ho, hc, hd, hi⟩ := his0 _ (List.mem_of_getElem? hx)
      exact ⟨ka, items.toList, hv, ⟨o, ho, hc, n, by simpa using hd⟩, intsOfItems hi⟩
    refine W.asgN ((step i ks c v h1 hR hkey j).mono fun _ h2 q2 => q2.mono fun f h3 q3 => ?_)
    have pres : J (i + 1) h3 → Keep D h1 h3 → ∀ b ∈ [I, d], ∀ o, h1.get? b = some o → h3.get? b = some o := fun j3 k3 b hb o e => by
      simp only [List.mem_cons, List.not_mem_nil, or_false] at hb
      rcases hb with rfl | rfl
      · exact k3 _ _ (fun q => by obtain ⟨o, ho⟩ := hD _ q; rw [hI] at ho; cases ho) e
      · have e1 := (hext _ _ j).get ho0
        rw [e1] at e; cases e
        exact (hext _ _ j3).get ho0
    cases f with
    | next => exact ⟨q3.1, pres q3.1 q3.2⟩
    | cont => exact ⟨q3.1, pres q3.1 q3.2⟩
    | brk => exact q3
    | ret v => exact q3
end

theorem boot_dict : bootBuiltins "dict" = some (.type "dict") := by decide +kernel
theorem padd_take {P R : Poly} {i : Nat} {ks : List Int} {c : Rat} (h : R[i]? = some (ks, c)) : padd P (R.take (i + 1)) = paddT (padd P (R.take i)) ks c := by
  unfold padd
  rw [List.take_add_one, h, List.foldl_append]; rfl
theorem tsz_take (R : Poly) (i : Nat) : tsz (R.take i) ≤ tsz R := by
  have := tsz_append (R.take i) (R.drop i)
  rw [List.take_append_drop] at this; omega
theorem tsz_take_succ {R : Poly} {i : Nat} {ks : List Int} {c : Rat} (h : R[i]? = some (ks, c)) : tsz (R.take i) + (sz c + 2) ≤ tsz R := by
  have h1 := tsz_take R (i + 1)
  rw [List.take_add_one, h, tsz_append] at h1
  have : tsz (Option.some (ks, c)).toList = sz c + 2 := by simp [tsz]
  omega
section
variable {z : Z} {A : Around} {h : Heap}
/-- what stands stands where a frame's names turn -/
theorem KeyAt.same {h h' : Heap} {L : Addr} {v : Value} {ks : List Int} {m : Str → Option Value} (x : KeyAt h v ks) (hn : h.Ns L m) (hs : Heap.SameBut L h h') : KeyAt h' v ks := x.tk (TK.same hn hs)
theorem DA.same {h h' : Heap} {L d : Addr} {P : Poly} {m : Str → Option Value} (x : DA z h d P) (hn : h.Ns L m) (hs : Heap.SameBut L h h') (ne : d ≠ L) : DA z h' d P := x.move (TK.same hn hs) fun o e => (hs.2 d ne).trans e

theorem mvadd_W {a b : Addr} {P R : Poly} {m : Nat} {k : Nat} {Q : Value → Heap → Prop} (G : GL z h) (r : Rm A (k + 7)) (ha : DA z h a P) (hb : DA z h b R) (hkb : ∀ e ∈ P, KB m e.1) (hs : tsz P + tsz R ≤ LIM)
    (q : ∀ d h', Ext h h' → h.get? d = none → DA z h' d (padd P R) → Q (.ref d) h') : W z A (call (.ref 120) [.ref a, .ref b]) h Q := by
  refine W.def 19 nm_mvadd G r (lk_mvadd _) (cd_mvadd _) (by kernel_rfl!) (by kernel_rfl!) fun L h₁ F R' => ?_
  have G' := G.ext F.keep
  have r' := R'.r
  refine W.cons (W.asg (W.callN (W.nb G' boot_dict (W.callT (W.sp (W.nl F 0 (W.sp0 (W.dictOf G' (ha.ext F.keep) hkb (len_line (by omega)) fun d h2 e2 hd2 D2 => ?_))))))))
  have hdL : d ≠ L := F.neL hd2
  have hd0 : h.get? d = none := none_of F.keep hd2
  refine W.store (F.ext e2) 2 fun h3 F3 s3 => ?_
  have D3 := D2.same (F.ext e2).ns s3 hdL
  refine W.cons (W.forKeys (h₀ := h) (d := b) (R := R) r' (fun i h' => (∃ v, MF h nm_mvadd L [some (.ref a), some (.ref b), some (.ref d), v] h') ∧ DA z h' d (padd P (R.take i))) (fun x => x = L ∨ x = d)
    (fun Q' q' => W.nl F3 1 q') F3.keep hb (fun x hx => ?_) (fun h4 e4 => ⟨⟨none, F3.ext e4⟩, D3.ext e4⟩) (fun I i h4 h5 hI j kk tk => ?_) (fun i h4 j => ?_) (fun i ks c v h4 hR hk j => ?_) (fun h' j => ?_))
  · rcases hx with rfl | rfl
    · obtain ⟨o, _, _, ho, _⟩ := F3.ns; exact ⟨o, ho⟩
    · exact D3.p.some
  · obtain ⟨⟨v, F4⟩, D4⟩ := j
    refine ⟨⟨v, F4.keepD kk (fun q => F3.neL hI q.symm) (fun b hb => by rw [hb]; exact none_of F3.keep hI)⟩, D4.move tk fun o e => kk _ o (fun q => ?_) e⟩
    obtain ⟨o, ho⟩ := D3.p.some
    rw [q, hI] at ho; cases ho
  · obtain ⟨⟨v, F4⟩, D4⟩ := j; exact F4.keep
  · obtain ⟨⟨v', F4⟩, D4⟩ := j
    refine W.store F4 3 fun h5 F5 s5 => ?_
    have D5 := D4.same F4.ns s5 hdL
    have G5 := G.ext F5.keep
    have hRl : plook R ks = some c := look_of_get hb.nodup hR
    have t1 := tsz_padd (P := P) ha.nodup (R.take i)
    have t2 := tsz_take_succ hR
    refine W.cons (W.xpr (W.callN (W.ng G5 (.ref 127) (W.callW (lk_add_term _) (W.sp (W.nl F5 2 (W.sp (W.nl F5 3 (W.sp (W.sub (W.nl F5 1 (W.nl F5 3 (W.getD (k := 0) (r'.mono (by omega)) (hk.ext F5.keep) (hb.ext F5.keep).p hRl fun x hx => W.sp0 ⟨G5, ?_⟩)))))))))))))
    refine add_term_W (k := k) (hb := h) G F5.keep hd0 r' D5 (hk.ext F5.keep) hx (by omega) fun h6 k6 t6 D6 => ?_
    have F6 := F5.keepD k6 (Ne.symm hdL) (fun x hx => by rw [hx]; exact hd0)
    exact W.nil ⟨⟨⟨_, F6⟩, by rw [padd_take hR]; exact D6⟩, ((Keep.same s5).weak fun x hx => .inl hx).trans (k6.weak fun x hx => .inr hx)⟩
  · obtain ⟨⟨v, F4⟩, D4⟩ := j
    rw [List.take_length] at D4
    exact W.cons (W.ret (W.nl F4 2 (q d h' F4.keep hd0 D4)))
end
end NN
end

section
open PySem PySem.W PyProof.Rows
set_option linter.unusedVariables false
set_option linter.unusedSimpArgs false
namespace NN
set_option maxRecDepth 100000

/-- entries stored one behind the other -/
noncomputable def pfold (f : List Int → Rat → List Int × Rat) (R : Poly) : Poly := R.foldl (fun acc e => pset acc (f e.1 e.2).1 (f e.1 e.2).2) []
theorem pfold_take {f : List Int → Rat → List Int × Rat} {R : Poly} {i : Nat} {ks : List Int} {c : Rat} (h : R[i]? = some (ks, c)) : pfold f (R.take (i + 1)) = pset (pfold f (R.take i)) (f ks c).1 (f ks c).2 := by
  unfold pfold
  rw [List.take_add_one, h, List.foldl_append]; rfl
theorem len_pset (P : Poly) (k : List Int) (q : Rat) : (pset P k q).length ≤ P.length + 1 := by
  unfold pset; split
  · simp
  · simp
theorem len_pfold (f : List Int → Rat → List Int × Rat) (R : Poly) : (pfold f R).length ≤ R.length := by
  have : ∀ (R acc : Poly), (R.foldl (fun acc e => pset acc (f e.1 e.2).1 (f e.1 e.2).2) acc).length ≤ acc.length + R.length := by
    intro R
    induction R with
    | nil => intro acc; simp
    | cons e R ih =>
      intro acc
      rw [List.foldl_cons, List.length_cons]
      have := ih (pset acc (f e.1 e.2).1 (f e.1 e.2).2)
      have := len_pset acc (f e.1 e.2).1 (f e.1 e.2).2
      omega
  have := this R []
  simpa [pfold] using this

section
variable {z : Z} {A : Around} {h : Heap} {env : Env}
theorem W.dictSet {vk v : Value} {d : Addr} {ks : List Int} {P : Poly} {c : Rat} {Q : Unit → Heap → Prop} {k : Nat} (r : Rm A k) (hk : KeyAt h vk ks) (hP : DA z h d P) (hv : RatAt h v c) (hsz : P.length ≤ sizeLine)
    (q : ∀ h', DA z h' d (pset P ks c) → Heap.SameBut d h h' → TK h h' → Q () h') : W z A (dictSet d vk v) h Q := fun n => by
  obtain ⟨a, rfl, hk2⟩ := hk.isK z
  have nt := hP.p.notTup
  obtain ⟨nm, xs, D, E⟩ := hP
  refine wpAny_dictSet_heap (s := at_ z h n) (hsz := by rw [E.len]; exact hsz) r.un hk2 D fun h' D' hs => ?_
  have t : TK h h' := TK.keep (Keep.same hs) fun b hb => by rw [hb]; exact nt
  exact ⟨h', _, rfl, q h' ⟨nm, PolyAt.setIn D' E hv t⟩ hs t⟩

/-- {kx : vx for x in a polynomial}, keys and values new things alone -/
theorem compRunD {kx vx iter : Expr} {x : Str} {px pos : Pos} {scope : Scope} {cl : List (Str × Addr)} {I d : Addr} {es : Array DictEntry} {ep : Nat} {xs : List (List Int × Addr × Value)} {hs hO : Heap} {nmO : List Str} {vsO : List (Option Value)} {R : Poly} {k : Nat}
    {Post : Value → Addr → Heap → Prop} (r : Rm A k) (G : GL z hO) (F : MF hO nmO env.locals vsO hs) (hd : DA z hO d R) (hit : hs.IsKeyIter I d 0 es.size ep) (hIO : hO.get? I = none) (hIL : I ≠ env.locals)
    (DR : DRaw hO d es ep) (hes : es.toList = xs.map (entryOfKey (KK2 z))) (En : Ents hO xs R) (his : ∀ x ∈ xs, (KK2 z).is hO x.1 x.2.1)
    (hsz : R.length ≤ sizeLine) (hok : okComp scope env [x] = true) (f : List Int → Rat → List Int × Rat)
    (step : ∀ C (i : Nat) ks c v h2, R[i]? = some (ks, c) → KeyAt hO v ks → MF hO [x] C [some v] h2 → MF hO nmO env.locals vsO h2 →
      W z A (eval kx (compEnvC scope cl C env)) h2 (fun kv h3 => W z A (eval vx (compEnvC scope cl C env)) h3 (fun vv h4 => Ext h2 h4 ∧ KeyAt h4 kv (f ks c).1 ∧ RatAt h4 vv (f ks c).2)))
    (fin : ∀ D C h', hs.get? D = none → hs.get? C = none → D ≠ C → DA z h' D (pfold f R) → (∃ m, h'.Ns C m) → MF hO nmO env.locals vsO h' → Keep (fun b => b = I) hs h' → TK hs h' → Post (.ref D) C h') :
    CompRun z A (.DictComp kx vx [⟨.Name x px, iter, [], 0⟩] scope pos) scope cl env newDict I hs Post := fun E n0 => by
  simp only [okComp, Bool.and_eq_true, beq_iff_eq, List.all_eq_true, Bool.not_eq_true', beq_eq_false_iff_ne] at hok
  obtain ⟨⟨hkind, hcell⟩, h3⟩ := hok
  have o1 := h3 0 (by simp)
  refine wpAny_newObj_type (wpAny_newFunctionEnv (fun y hy => hcell y hy) (by intro y hy; simp at hy) (fun h₁ hns₁ hsb₁ => ?_) hkind)
  dsimp only at hns₁ hsb₁ ⊢
  have hGs := (G.ext F.keep).fresh_nm
  generalize hH2 : hs.push { cls := .type "dict", dict := none, data := .dict #[] } = H2 at hns₁ hsb₁ ⊢
  have e2 : Ext hs H2 := by rw [← hH2]; exact Ext.push hs _
  have hD2 : PolyAt z H2 hs.objs.size [] := by rw [← hH2]; exact PolyAt.new hs
  have e3 : Ext H2 h₁ := fun b o _ e => hsb₁.extBut b o (Nat.ne_of_lt (Heap.lt_size e)) (Heap.get?_push_of_some _ e)
  have hDf : hs.get? hs.objs.size = none := fresh_size hs
  have hCf2 : H2.get? H2.objs.size = none := fresh_size H2
  have hCf : hs.get? H2.objs.size = none := none_of e2 hCf2
  have hDC : hs.objs.size ≠ H2.objs.size := fun e => by obtain ⟨o, ho⟩ := hD2.some; rw [e, hCf2] at ho; cases ho
  generalize hs.objs.size = D at *
  generalize hC : H2.objs.size = C at *
  have e1 : Ext hs h₁ := e2.trans e3
  have hOC : hO.get? C = none := none_of F.keep hCf
  have hOD : hO.get? D = none := none_of F.keep hDf
  have hLC : env.locals ≠ C := fun e => by obtain ⟨o, _, _, ho, _⟩ := F.ns; rw [e, hCf] at ho; cases ho
  have hLD : env.locals ≠ D := fun e => by obtain ⟨o, _, _, ho, _⟩ := F.ns; rw [e, hDf] at ho; cases ho
  have hIC : I ≠ C := fun e => by obtain ⟨o, ho, _⟩ := hit; rw [e, hCf] at ho; cases ho
  have hID : I ≠ D := fun e => by obtain ⟨o, ho, _⟩ := hit; rw [e, hDf] at ho; cases ho
  obtain ⟨od, hod⟩ := hd.p.some
  have hdI : d ≠ I := fun e => by rw [e, hIO] at hod; cases hod
  have hdC : d ≠ C := fun e => by rw [e, hOC] at hod; cases hod
  have hdD : d ≠ D := fun e => by rw [e, hOD] at hod; cases hod
  have hszR : es.size = R.length := by rw [size_of_entries hes, En.len]
  have K := walksKeys (prog := Pr) (w := z.w) (A := A) r.h I d hdI es ep (tg := .Name x px) (by intro _ _ _ q; cases q) (by intro _ _ q; cases q)
  have loop : ∀ n1, codeAny (model Pr z.w) A (.compLoop (.DictComp kx vx [⟨.Name x px, iter, [], 0⟩] scope pos) 0 (.ref I) (.ref D) (compEnvC scope cl C env))
      (fun r s' => match r with | .ok _ => ∃ h' n', s' = at_ z h' n' ∧ Post (.ref D) C h' | .error _ => False) (at_ z h₁ n1) := by
    intro n1
    refine codeAny_loop rfl (fun m s => ∃ i h' n' vs, s = at_ z h' n' ∧ i ≤ es.size ∧ m = es.size - i ∧ h'.IsKeyIter I d i es.size ep ∧ DA z h' D (pfold f (R.take i)) ∧ MF hO [x] C vs h' ∧ vs.length = 1 ∧ MF hO nmO env.locals vsO h' ∧ Keep (fun b => b = I) hs h' ∧ TK hs h')
      (fun m s hI => ?_) es.size ⟨0, h₁, n1, [none], rfl, Nat.zero_le _, rfl, isKeyIter_at hit fun o e => e1.get e, ⟨hGs, hD2.ext e3⟩, ⟨?_, F.keep.trans e1, hOC⟩, rfl, F.ext e1, Ext.to e1, TK.ext e1⟩
    rotate_left
    · obtain ⟨o, es', ep', a, b, c, d'⟩ := hns₁
      exact ⟨o, es', ep', a, b, c, fun y => (d' y).trans (by simp [lkv])⟩
    obtain ⟨i, h', n', vs, rfl, hi, rfl, it', DD, FC, hvs, FO, kh, tk⟩ := hI
    have DRh : DRaw h' d es ep := DR.at fun o e => FO.keep.get e
    show wpAny _ A ((compTurn (.DictComp kx vx [⟨.Name x px, iter, [], 0⟩] scope pos) 0 (.ref I) (.ref D) (compEnvC scope cl C env)).onRaise (fun x => do noteFrame x (compEnvC scope cl C env); theTreesLotGoes x)) _ _ _
    refine wpAny_noted ?_
    rw [compTurn_dict]
    refine wpAny_bind (wpAny_standAt (wpAny_bind ?_))
    by_cases hlt : i < es.size
    · refine K.item i _ _ _ hlt ⟨it', DRh⟩ fun v h1 tk1 hMd hk1 => ?_
      refine wpAny_bind (K.go i v _ _ _ hMd fun h2 hP st2 hk2 => ?_)
      have kw : Keep (fun b => b = I) h' h2 := fun b o hb e => hk2 b o (by simpa using hb) (hk1 b o (by simpa using hb) e)
      have tw : TK h' h2 := TK.keep kw fun b hb => by rw [hb]; exact not_tup_kiter it'
      have hIO' : ∀ b, b = I → hO.get? b = none := fun b hb => by rw [hb]; exact hIO
      have FC2 := FC.keepD kw (fun q => hIC q.symm) hIO'
      have FO2 := FO.keepD kw (fun q => hIL q.symm) hIO'
      have DD2 := DD.move tw fun o e => kw _ o (fun q => hID q.symm) e
      have hix : i < xs.length := by rw [← size_of_entries hes]; exact hlt
      obtain ⟨⟨ks, ka, va⟩, hx⟩ : ∃ y, xs[i]? = some y := ⟨_, List.getElem?_eq_getElem hix⟩
      obtain ⟨c, hR, hc⟩ := En.get hx
      have hv : v = .ref ka := by
        have : (es[i]?).map (·.key) = some v := hP
        rw [entry_at hes i, hx] at this
        simpa [entryOfKey] using this.symm
      have hkey : KeyAt hO v ks := by
        obtain ⟨o, items, n, ho, hc, hd, hi⟩ := his _ (List.mem_of_getElem? hx)
        exact ⟨ka, items.toList, hv, ⟨o, ho, hc, n, by simpa using hd⟩, intsOfItems hi⟩
      refine wpAny_bind ((asgOne (env := env) (cl := cl) (x1 := x) (p1 := px) (a := v) (Q := fun _ h3 => MF hO [x] C [some v] h3 ∧ Keep (fun b => b = C) h2 h3 ∧ TK h2 h3) FC2 hvs (fun h3 a b c => ⟨a, b, c⟩) o1).use tk1 fun _ h3 n3 q3 => ?_)
      obtain ⟨FC3, kC, tC⟩ := q3
      have hOC' : ∀ b, b = C → hO.get? b = none := fun b hb => by rw [hb]; exact hOC
      have FO3 := FO2.keepD kC hLC hOC'
      have DD3 := DD2.move tC fun o e => kC _ o hDC e
      have it3 : h3.IsKeyIter I d (i + 1) es.size ep := isKeyIter_at st2.1 fun o e => kC _ o hIC e
      have kh3 : Keep (fun b => b = I) hs h3 := fun b o hb e => kC b o (fun q => by rw [q, hCf] at e; cases e) (kw b o hb (kh b o hb e))
      refine wpAny_bind ((W.tests0 (z := z) (A := A) (env := compEnvC scope cl C env) (h := h3) (Q := fun ok h => ok = true ∧ h = h3) ⟨rfl, rfl⟩).use n3 fun ok h3' n3' q => ?_)
      obtain ⟨rfl, rfl⟩ := q
      simp only [if_true]
      refine wpAny_bind (wpAny_bind ((step C i ks c v h3' hR hkey FC3 FO3).use n3' fun kv h4 n4 q4 => wpAny_bind (wpAny_holding (q4.use n4 fun vv h5 n5 q5 => wpAny_bind (wpAny_standAt (wpAny_holding ?_))))))
      obtain ⟨e5, hk5, hv5⟩ := q5
      have FC5 := FC3.ext e5
      have FO5 := FO3.ext e5
      have DD5 := DD3.ext e5
      have lenP : (pfold f (R.take i)).length ≤ sizeLine := by
        have := len_pfold f (R.take i)
        rw [List.length_take] at this; omega
      refine (W.dictSet (Q := fun _ h6 => DA z h6 D (pset (pfold f (R.take i)) (f ks c).1 (f ks c).2) ∧ Heap.SameBut D h5 h6 ∧ TK h5 h6) r hk5 DD5 hv5 lenP fun h6 a b c => ⟨a, b, c⟩).use n5 fun _ h6 n6 q6 => wpAny_pure ?_
      obtain ⟨D6, s6, t6⟩ := q6
      have kD : Keep (fun b => b = D) h5 h6 := Keep.same s6
      have hOD' : ∀ b, b = D → hO.get? b = none := fun b hb => by rw [hb]; exact hOD
      refine ⟨rfl, es.size - (i + 1), by omega, i + 1, h6, n6, _, rfl, hlt, rfl, isKeyIter_at it3 fun o e => kD _ o hID (e5.get e), by rw [pfold_take hR]; exact D6, FC5.keepD kD (fun q => hDC q.symm) hOD', rfl, FO5.keepD kD hLD hOD',
        fun b o hb q => kD b o (fun q' => by rw [q', hDf] at q; cases q) (e5.get (kh3 b o hb q)), ((((tk.trans tw).trans tC).trans (TK.ext e5)).trans t6)⟩
    · have e : i = es.size := by omega
      subst e
      refine K.done _ _ _ ⟨it', DRh⟩ fun h1 tk1 hk1 => wpAny_pure ?_
      have kw : Keep (fun b => b = I) h' h1 := fun b o hb e => hk1 b o (by simpa using hb) e
      have tw : TK h' h1 := TK.keep kw fun b hb => by rw [hb]; exact not_tup_kiter it'
      have hIO' : ∀ b, b = I → hO.get? b = none := fun b hb => by rw [hb]; exact hIO
      rw [hszR, List.take_length] at DD
      exact ⟨h1, tk1, rfl, fin D C h1 hDf hCf hDC (DD.move tw fun o e => kw _ o (fun q => hID q.symm) e) ⟨_, (FC.keepD kw (fun q => hIC q.symm) hIO').ns⟩ (FO.keepD kw (fun q => hIL q.symm) hIO') (kh.trans kw) (tk.trans tw)⟩
  refine codeAny_compStart_dict (loop _) ?_
  obtain ⟨oI, hoI, hcI, hdI'⟩ := hit
  exact wpAny_pyIter_keyiter (s := at_ z h₁ _) ⟨oI, e1.get hoI, hcI, hdI'⟩ (loop _)

theorem W.dcomp {kx vx iter tg : Expr} {ifs : List Expr} {scope : Scope} {pos : Pos} {cl : List (Str × Addr)} {Q : Value → Heap → Prop} (hclos : closureFor scope env = PySem.Sem.pure cl)
    (hk : scope.kind = .function) (hnames : ∀ x ∈ scope.names, x.2 = .local → scope.names.lookup x.1 = some .local)
    (q : W z A (eval iter env) h (fun x h1 => W z A (pyIter x) h1 (fun it hs => ∃ I, it = .ref I ∧ CompRun z A (.DictComp kx vx [⟨tg, iter, ifs, 0⟩] scope pos) scope cl env newDict I hs
      (fun acc C h' => (∃ m, h'.Ns C m) ∧ ∀ h'', Heap.SameBut C h' h'' → Q acc h''))))
    (hs : ∀ x, foldedSetIterable iter env x = PySem.Sem.pure x := by intro _; rfl) : W z A (eval (.DictComp kx vx [⟨tg, iter, ifs, 0⟩] scope pos) env) h Q := fun n => by
  rw [arm_eval_DictComp]
  refine wpAny_comprehension_free (gs := []) (use := none) rfl hs hclos hk hnames (q.use n fun x h1 n1 q1 => q1.use n1 fun it h2 n2 q2 => ?_)
  obtain ⟨I, rfl, q2⟩ := q2
  refine wpAny_mono (q2 (fun _ _ => False) n2) (fun acc s3 q3 => wpAny_mono q3 (fun cenv s4 q4 => codeAny_mono q4 fun r s' hr => ?_) fun _ _ e => e) fun _ _ e => e
  cases r with
  | error e => exact hr.elim
  | ok f =>
    obtain ⟨h', n', rfl, ⟨m, hm⟩, q5⟩ := hr
    exact ⟨m, hm, fun h'' hs'' => W.ok (q5 h'' hs'')⟩
end
end NN
end

section
open PySem PySem.W PyProof.Rows
set_option linter.unusedVariables false
set_option linter.unusedSimpArgs false
namespace NN
set_option maxRecDepth 100000

noncomputable def pneg (P : Poly) : Poly := pfold (fun k c => (k, -c)) P
noncomputable def psub (P R : Poly) : Poly := padd P (pneg R)
noncomputable def pshift (P : Poly) (k : List Int) (c : Rat) : Poly := if c = 0 then [] else pfold (fun ks q => (List.zipWith (· + ·) ks k, q * c)) P
theorem pfold_map {f : List Int → Rat → List Int × Rat} {P : Poly} (hn : (P.map fun e => (f e.1 e.2).1).Nodup) : pfold f P = P.map fun e => f e.1 e.2 := by
  have : ∀ (P acc : Poly), ((acc ++ P.map fun e => f e.1 e.2).map (·.1)).Nodup → P.foldl (fun acc e => pset acc (f e.1 e.2).1 (f e.1 e.2).2) acc = acc ++ P.map fun e => f e.1 e.2 := by
    intro P
    induction P with
    | nil => intro acc _; simp
    | cons e P ih =>
      intro acc hn
      rw [List.foldl_cons]
      have hno : plook acc (f e.1 e.2).1 = none := by
        rw [look_none_iff]
        rw [List.map_cons, List.map_append, List.nodup_append] at hn
        intro hm
        exact hn.2.2 _ hm (f e.1 e.2).1 (by simp) rfl
      have hs : pset acc (f e.1 e.2).1 (f e.1 e.2).2 = acc ++ [f e.1 e.2] := by simp [pset, hno]
      rw [hs, ih (acc ++ [f e.1 e.2]) (by simpa using hn)]
      simp
  have h := this P [] (by simpa [Function.comp_def] using hn)
  simpa [pfold] using h
theorem pneg_map {P : Poly} (hn : (P.map (·.1)).Nodup) : pneg P = P.map fun e => (e.1, -e.2) := pfold_map hn
theorem tsz_pneg {P : Poly} (hn : (P.map (·.1)).Nodup) : tsz (pneg P) = tsz P := by
  rw [pneg_map hn]; simp [tsz, sz_neg, Function.comp_def]
theorem nodup_pneg {P : Poly} (hn : (P.map (·.1)).Nodup) : ((pneg P).map (·.1)).Nodup := by
  rw [pneg_map hn]; simpa [Function.comp_def] using hn
theorem keys_pneg {P : Poly} (hn : (P.map (·.1)).Nodup) : (pneg P).map (·.1) = P.map (·.1) := by
  rw [pneg_map hn]; simp [Function.comp_def]

section
variable {z : Z} {A : Around} {h : Heap}
theorem mvneg_W {a : Addr} {P : Poly} {k : Nat} {Q : Value → Heap → Prop} (G : GL z h) (r : Rm A (k + 3)) (ha : DA z h a P) (hs : tsz P ≤ LIM)
    (q : ∀ d h', Ext h h' → h.get? d = none → DA z h' d (pneg P) → Q (.ref d) h') : W z A (call (.ref 132) [.ref a]) h Q := by
  refine W.defC 21 nm_mvneg [false] G r (lk_mvneg _) (cd_mvneg _) (by kernel_rfl!) rfl (by kernel_rfl!) fun L hb₀ h₁ e0 F R cells => ?_
  have Gb := G.ext e0
  have G' := Gb.ext F.keep
  have r' := R.r
  have hcell : hb₀.IsCell (L + 1) (some (.ref a)) := cells (Str.ofString "a") _ _ (by kernel_rfl!) (by kernel_rfl!)
  have hab := ha.ext e0
  refine W.cons (W.ret (W.dcomp (cl := [(Str.ofString "a", L + 1)]) (by kernel_rfl!) rfl (by decide +kernel) (W.nc (c := L + 1) (hcell.keeps F.keep.ks) ?_ (by kernel_rfl!) (by kernel_rfl!))))
  obtain ⟨xs, es, ep, DR, hes, En, his⟩ := DRaw.ofPoly hab.p
  refine W.iterDict hab.nm (DR.at fun o e => F.keep.get e) fun I hs' eI hI hit => ⟨I, rfl, ?_⟩
  refine compRunD (R := P) r' Gb (F.ext eI) hab hit (none_of F.keep hI) (F.neL hI) DR hes En his (len_line hs) (by kernel_rfl!) (fun ks c => (ks, -c)) (fun C i ks c v h2 hR hk FC FO => ?_) (fun D C h' hD hC hDC DD hm FO kh tk => ?_)
  · have hl : plook P ks = some c := look_of_get ha.nodup hR
    have G2 := Gb.ext FC.keep
    refine W.nl FC 0 (W.callN (W.ng G2 (.ref 99) (W.callW (lk_rneg _) (W.sp (W.sub (W.nc (c := L + 1) (hcell.keeps FC.keep.ks) (W.nl FC 0 (W.getD (k := 0) (r'.mono (by omega)) (hk.ext FC.keep) (hab.ext FC.keep).p hl fun x hx => W.sp0 ⟨G2, rneg_W (k := k) G2 (r'.mono (by omega)) hx fun h4 v4 e4 hv4 => ⟨e4, (hk.ext FC.keep).ext e4, hv4⟩⟩)) (by kernel_rfl!) (by kernel_rfl!)))))))
  · refine ⟨hm, fun h'' hs'' => ?_⟩
    have hCh : h.get? C = none := none_of (e0.trans (F.keep.trans eI)) hC
    have kk : Keep (fun b => b = C) h' h'' := Keep.same hs''
    obtain ⟨m, hm⟩ := hm
    refine q D h'' ?_ (none_of (e0.trans (F.keep.trans eI)) hD) (DD.move (TK.same hm hs'') fun o e => kk _ o hDC e)
    intro b o _ e
    refine kk b o (fun q => by rw [q, hCh] at e; cases e) (kh b o (fun q => ?_) (eI.get (F.keep.get (e0.get e))))
    rw [q] at e
    rw [none_of (e0.trans F.keep) hI] at e; cases e

theorem mvsub_W {a b : Addr} {P R : Poly} {m : Nat} {k : Nat} {Q : Value → Heap → Prop} (G : GL z h) (r : Rm A (k + 8)) (ha : DA z h a P) (hb : DA z h b R) (hkb : ∀ e ∈ P, KB m e.1) (hs : tsz P + tsz R ≤ LIM)
    (q : ∀ d h', Ext h h' → h.get? d = none → DA z h' d (psub P R) → Q (.ref d) h') : W z A (call (.ref 139) [.ref a, .ref b]) h Q := by
  refine W.def 22 nm_mvsub G r (lk_mvsub _) (cd_mvsub _) (by kernel_rfl!) (by kernel_rfl!) fun L h₁ F R' => ?_
  have G' := G.ext F.keep
  have r' := R'.r
  refine W.cons (W.ret (W.callN (W.ng G' (.ref 120) (W.callW (lk_mvadd _) (W.sp (W.nl F 0 (W.sp (W.callN (W.ng G' (.ref 132) (W.callW (lk_mvneg _) (W.sp (W.nl F 1 (W.sp0 ⟨G', mvneg_W (k := k) G' (r'.mono (by omega)) (hb.ext F.keep) (by omega) fun d h2 e2 hd2 D2 => ?_⟩)))))))))))))
  refine W.sp0 ⟨G'.ext e2, mvadd_W (k := k) (G'.ext e2) r' ((ha.ext F.keep).ext e2) D2 hkb (by rw [tsz_pneg hb.nodup]; omega) fun d3 h3 e3 hd3 D3 => ?_⟩
  exact q d3 h3 ((F.keep.trans e2).trans e3) (none_of (F.keep.trans e2) hd3) D3

theorem mvshift_W {a : Addr} {vk vc : Value} {P : Poly} {ks : List Int} {c : Rat} {k : Nat} {Q : Value → Heap → Prop} (G : GL z h) (r : Rm A (k + 6)) (ha : DA z h a P) (hk : KeyAt h vk ks) (hc : RatAt h vc c) (hs : tsz P + sz c ≤ LIM)
    (hlen : ∀ e ∈ P, e.1.length = ks.length) (h100 : ks.length ≤ 100)
    (q : ∀ d h', Ext h h' → h.get? d = none → DA z h' d (pshift P ks c) → Q (.ref d) h') : W z A (call (.ref 144) [.ref a, vk, vc]) h Q := by
  refine W.defC 23 nm_mvshift [false, false, false] G r (lk_mvshift _) (cd_mvshift _) (by kernel_rfl!) rfl (by kernel_rfl!) fun L hb₀ h₁ e0 F R cells => ?_
  have Gb := G.ext e0
  have G' := Gb.ext F.keep
  have r' := R.r
  have ca : hb₀.IsCell (L + 1) (some (.ref a)) := cells (Str.ofString "a") _ _ (by kernel_rfl!) (by kernel_rfl!)
  have cp : hb₀.IsCell (L + 2) (some vk) := cells (Str.ofString "powers") _ _ (by kernel_rfl!) (by kernel_rfl!)
  have cr : hb₀.IsCell (L + 3) (some vc) := cells (Str.ofString "rational") _ _ (by kernel_rfl!) (by kernel_rfl!)
  have hab := ha.ext e0
  have hkb := hk.ext e0
  have hcb := hc.ext e0
  have h27 : LIM ≤ 2 ^ 27 := by decide
  refine W.cons (W.iff (W.tcmp (W.nc (c := L + 3) (cr.keeps F.keep.ks) (W.ng G' (.ref 64) (W.eqR r' (hcb.ext F.keep) G'.R0 (W.tb ?_))) (by kernel_rfl!) (by kernel_rfl!))))
  by_cases h0 : c = 0
  · rw [if_pos (by simpa using h0)]
    refine W.cons (W.ret (W.dict0 G' fun d h2 e2 hd2 D2 => q d h2 ((e0.trans F.keep).trans e2) (none_of (e0.trans F.keep) hd2) ?_))
    rw [pshift, if_pos h0]; exact D2
  rw [if_neg (by simpa using h0)]
  refine W.nil (W.cons (W.ret (W.dcomp (cl := [(Str.ofString "rational", L + 3), (Str.ofString "powers", L + 2), (Str.ofString "a", L + 1)]) (by kernel_rfl!) rfl (by decide +kernel) (W.nc (c := L + 1) (ca.keeps F.keep.ks) ?_ (by kernel_rfl!) (by kernel_rfl!)))))
  obtain ⟨xs, es, ep, DR, hes, En, his⟩ := DRaw.ofPoly hab.p
  refine W.iterDict hab.nm (DR.at fun o e => F.keep.get e) fun I hs' eI hI hit => ⟨I, rfl, ?_⟩
  refine compRunD (R := P) r' Gb (F.ext eI) hab hit (none_of F.keep hI) (F.neL hI) DR hes En his (len_line (by omega)) (by kernel_rfl!) (fun ks' q => (List.zipWith (· + ·) ks' ks, q * c)) (fun C i ks' c' v h2 hR hk' FC FO => ?_) (fun D C h' hD hC hDC DD hm FO kh tk => ?_)
  · have hl : plook P ks' = some c' := look_of_get ha.nodup hR
    have G2 := Gb.ext FC.keep
    have hlk : ks'.length = ks.length := hlen _ (List.mem_of_getElem? hR)
    refine W.callN (W.ng G2 (.ref 44) (W.callW (lk_powers_product _) (W.sp (W.nl FC 0 (W.sp (W.nc (c := L + 2) (cp.keeps FC.keep.ks) (W.sp0 ⟨G2, powers_product_W (k := k) G2 (r'.mono (by omega)) (hk'.ext FC.keep) (hkb.ext FC.keep) hlk (by omega) fun h3 v3 e3 hv3 => ?_⟩) (by kernel_rfl!) (by kernel_rfl!)))))))
    have FC3 := FC.ext e3
    have G3 := G2.ext e3
    refine W.callN (W.ng G3 (.ref 85) (W.callW (lk_rmul _) (W.sp (W.sub (W.nc (c := L + 1) (ca.keeps FC3.keep.ks) (W.nl FC3 0 (W.getD (k := 0) (r'.mono (by omega)) (hk'.ext FC3.keep) (hab.ext FC3.keep).p hl fun x hx => ?_)) (by kernel_rfl!) (by kernel_rfl!))))))
    refine W.sp (W.nc (c := L + 3) (cr.keeps FC3.keep.ks) (W.sp0 ⟨G3, rmul_W (k := k) G3 r' hx (hcb.ext FC3.keep) ?_ fun h4 v4 e4 hv4 => ⟨e3.trans e4, hv3.ext e4, hv4⟩⟩) (by kernel_rfl!) (by kernel_rfl!))
    have := tsz_look hl
    omega
  · refine ⟨hm, fun h'' hs'' => ?_⟩
    have hCh : h.get? C = none := none_of (e0.trans (F.keep.trans eI)) hC
    have kk : Keep (fun b => b = C) h' h'' := Keep.same hs''
    obtain ⟨m, hm⟩ := hm
    refine q D h'' ?_ (none_of (e0.trans (F.keep.trans eI)) hD) ?_
    · intro b o _ e
      refine kk b o (fun q => by rw [q, hCh] at e; cases e) (kh b o (fun q => ?_) (eI.get (F.keep.get (e0.get e))))
      rw [q] at e
      rw [none_of (e0.trans F.keep) hI] at e; cases e
    · rw [pshift, if_neg h0]
      exact DD.move (TK.same hm hs'') fun o e => kk _ o hDC e
end
end NN
end

section
open PySem PySem.W PyProof.Rows
set_option linter.unusedVariables false
set_option linter.unusedSimpArgs false
namespace NN
set_option maxRecDepth 100000

noncomputable def kadd (a b : List Int) : List Int := List.zipWith (· + ·) a b
noncomputable def prow (acc a : Poly) (kb : List Int) (cb : Rat) : Poly := a.foldl (fun acc e => paddT acc (kadd e.1 kb) (e.2 * cb)) acc
noncomputable def pmul (a b : Poly) : Poly := b.foldl (fun acc e => prow acc a e.1 e.2) []
theorem nodup_prow {acc : Poly} (hn : (acc.map (·.1)).Nodup) (a : Poly) (kb : List Int) (cb : Rat) : ((prow acc a kb cb).map (·.1)).Nodup := by
  unfold prow
  induction a generalizing acc with
  | nil => exact hn
  | cons e a ih => exact ih (nodup_paddT hn _ _)
theorem tsz_prow {acc : Poly} (hn : (acc.map (·.1)).Nodup) (a : Poly) (kb : List Int) (cb : Rat) : tsz (prow acc a kb cb) ≤ tsz acc + tsz a + a.length * sz cb := by
  unfold prow
  induction a generalizing acc with
  | nil => simp [tsz_nil]
  | cons e a ih =>
    rw [List.foldl_cons, tsz_cons, List.length_cons, Nat.succ_mul]
    have h1 := ih (nodup_paddT hn (kadd e.1 kb) (e.2 * cb))
    have h2 := tsz_paddT hn (kadd e.1 kb) (e.2 * cb)
    have h3 := sz_mul e.2 cb
    omega
theorem nodup_pmulF (a : Poly) : ∀ (b acc : Poly), (acc.map (·.1)).Nodup → ((b.foldl (fun acc e => prow acc a e.1 e.2) acc).map (·.1)).Nodup
  | [], acc, hn => hn
  | e :: b, acc, hn => nodup_pmulF a b _ (nodup_prow hn a e.1 e.2)
theorem nodup_pmul (a b : Poly) : ((pmul a b).map (·.1)).Nodup := nodup_pmulF a b [] (by simp)
theorem tsz_pmulF (a : Poly) : ∀ (b acc : Poly), (acc.map (·.1)).Nodup → tsz (b.foldl (fun acc e => prow acc a e.1 e.2) acc) ≤ tsz acc + b.length * tsz a + a.length * tsz b
  | [], acc, hn => by simp [tsz_nil]
  | e :: b, acc, hn => by
    have h1 := tsz_pmulF a b _ (nodup_prow hn a e.1 e.2)
    have h2 := tsz_prow hn a e.1 e.2
    rw [List.foldl_cons, List.length_cons, Nat.succ_mul, tsz_cons, Nat.mul_add, Nat.mul_add]
    omega
theorem tsz_pmul (a b : Poly) : tsz (pmul a b) ≤ b.length * tsz a + a.length * tsz b := by
  have := tsz_pmulF a b [] (by simp)
  rw [tsz_nil] at this
  unfold pmul; omega
theorem pmul_take {a b : Poly} {i : Nat} {kb : List Int} {cb : Rat} (h : b[i]? = some (kb, cb)) : pmul a (b.take (i + 1)) = prow (pmul a (b.take i)) a kb cb := by
  unfold pmul
  rw [List.take_add_one, h, List.foldl_append]; rfl
theorem prow_take {acc a : Poly} {j : Nat} {ka kb : List Int} {ca cb : Rat} (h : a[j]? = some (ka, ca)) : prow acc (a.take (j + 1)) kb cb = paddT (prow acc (a.take j) kb cb) (kadd ka kb) (ca * cb) := by
  unfold prow
  rw [List.take_add_one, h, List.foldl_append]; rfl
theorem mul_room {a b : Poly} {i j : Nat} {ka kb : List Int} {ca cb : Rat} (hb : b[i]? = some (kb, cb)) (ha : a[j]? = some (ka, ca)) :
    tsz (prow (pmul a (b.take i)) (a.take j) kb cb) + (sz ca + sz cb + 2) ≤ b.length * tsz a + a.length * tsz b := by
  have t1 := tsz_pmul a (b.take i)
  have t2 := tsz_prow (nodup_pmul a (b.take i)) (a.take j) kb cb
  have t3 := tsz_take_succ ha
  have t4 := tsz_take_succ hb
  have hi : i < b.length := (List.getElem?_eq_some_iff.mp hb).1
  have hj : j < a.length := (List.getElem?_eq_some_iff.mp ha).1
  rw [List.length_take, Nat.min_eq_left (by omega)] at t1 t2
  have s1 : (i + 1) * tsz a ≤ b.length * tsz a := Nat.mul_le_mul_right _ hi
  have s2 : (j + 1) * sz cb ≤ a.length * sz cb := Nat.mul_le_mul_right _ hj
  have s3 : a.length * (tsz (b.take i) + sz cb) ≤ a.length * tsz b := Nat.mul_le_mul_left _ (by omega)
  rw [Nat.succ_mul] at s1 s2
  rw [Nat.mul_add] at s3
  omega

section
variable {z : Z} {A : Around} {h : Heap}
theorem mvmul_W {a b : Addr} {P R : Poly} {m : Nat} {k : Nat} {Q : Value → Heap → Prop} (G : GL z h) (r : Rm A (k + 7)) (ha : DA z h a P) (hb : DA z h b R) (hla : ∀ e ∈ P, e.1.length = m) (hlb : ∀ e ∈ R, e.1.length = m) (hm : m ≤ 100)
    (hs : R.length * tsz P + P.length * tsz R ≤ LIM) (q : ∀ d h', Ext h h' → h.get? d = none → DA z h' d (pmul P R) → Q (.ref d) h') : W z A (call (.ref 151) [.ref a, .ref b]) h Q := by
  refine W.def 24 nm_mvmul G r (lk_mvmul _) (cd_mvmul _) (by kernel_rfl!) (by kernel_rfl!) fun L h₁ F R' => ?_
  have G' := G.ext F.keep
  have r' := R'.r
  have h27 : LIM ≤ 2 ^ 27 := by decide
  refine W.cons (W.asg (W.dict0 G' fun d h2 e2 hd2 D2 => ?_))
  have hdL : d ≠ L := F.neL hd2
  have hd0 : h.get? d = none := none_of F.keep hd2
  refine W.store (F.ext e2) 2 fun h3 F3 s3 => ?_
  have D3 := D2.same (F.ext e2).ns s3 hdL
  refine W.cons (W.forKeys (h₀ := h) (d := b) (R := R) r' (fun i h' => (∃ v1 v2, MF h nm_mvmul L [some (.ref a), some (.ref b), some (.ref d), v1, v2] h') ∧ DA z h' d (pmul P (R.take i))) (fun x => x = L ∨ x = d)
    (fun Q' q' => W.nl F3 1 q') F3.keep hb (fun x hx => ?_) (fun h4 e4 => ⟨⟨none, none, F3.ext e4⟩, D3.ext e4⟩) (fun I i h4 h5 hI j kk tk => ?_) (fun i h4 j => ?_) (fun i kb cb v h4 hR hk j => ?_) (fun h' j => ?_))
  · rcases hx with rfl | rfl
    · obtain ⟨o, _, _, ho, _⟩ := F3.ns; exact ⟨o, ho⟩
    · exact D3.p.some
  · obtain ⟨⟨v1, v2, F4⟩, D4⟩ := j
    refine ⟨⟨v1, v2, F4.keepD kk (fun q => F3.neL hI q.symm) (fun b hb => by rw [hb]; exact none_of F3.keep hI)⟩, D4.move tk fun o e => kk _ o (fun q => ?_) e⟩
    obtain ⟨o, ho⟩ := D3.p.some
    rw [q, hI] at ho; cases ho
  · obtain ⟨⟨v1, v2, F4⟩, D4⟩ := j; exact F4.keep
  · obtain ⟨⟨v1, v2, F4⟩, D4⟩ := j
    refine W.store F4 3 fun h5 F5 s5 => ?_
    have D5 := D4.same F4.ns s5 hdL
    have hRl : plook R kb = some cb := look_of_get hb.nodup hR
    refine W.cons (W.forKeys (h₀ := h) (d := a) (R := P) r' (fun j h' => (∃ v2, MF h nm_mvmul L [some (.ref a), some (.ref b), some (.ref d), some v, v2] h') ∧ DA z h' d (prow (pmul P (R.take i)) (P.take j) kb cb) ∧ Keep (fun x => x = L ∨ x = d) h5 h') (fun x => x = L ∨ x = d)
      (fun Q' q' => W.nl F5 0 q') F5.keep ha (fun x hx => ?_) (fun h6 e6 => ⟨⟨v2, F5.ext e6⟩, D5.ext e6, e6.to⟩) (fun I i h6 h7 hI j kk tk => ?_) (fun i h6 j => ?_) (fun j ka ca va h6 hP hka jj => ?_) (fun h' jj => ?_))
    · rcases hx with rfl | rfl
      · obtain ⟨o, _, _, ho, _⟩ := F5.ns; exact ⟨o, ho⟩
      · exact D5.p.some
    · obtain ⟨⟨v2, F6⟩, D6, K6⟩ := j
      refine ⟨⟨v2, F6.keepD kk (fun q => F5.neL hI q.symm) (fun b hb => by rw [hb]; exact none_of F5.keep hI)⟩, D6.move tk fun o e => kk _ o (fun q => ?_) e, fun x o hx e => kk x o (fun q => by rw [q, hI] at e; cases e) (K6 x o hx e)⟩
      obtain ⟨o, ho⟩ := D5.p.some
      rw [q, hI] at ho; cases ho
    · obtain ⟨⟨v2, F6⟩, _, _⟩ := j; exact F6.keep
    · obtain ⟨⟨v2, F6⟩, D6, K6⟩ := jj
      refine W.store F6 4 fun h7 F7 s7 => ?_
      have D7 := D6.same F6.ns s7 hdL
      have G7 := G.ext F7.keep
      have hPl : plook P ka = some ca := look_of_get ha.nodup hP
      have room := mul_room hR hP
      have l1 : ka.length = m := hla _ (List.mem_of_getElem? hP)
      have l2 : kb.length = m := hlb _ (List.mem_of_getElem? hR)
      have sca := tsz_look hPl
      have scb := tsz_look hRl
      refine W.cons (W.xpr (W.callN (W.ng G7 (.ref 127) (W.callW (lk_add_term _) (W.sp (W.nl F7 2 (W.sp (W.callN (W.ng G7 (.ref 44) (W.callW (lk_powers_product _) (W.sp (W.nl F7 4 (W.sp (W.nl F7 3 (W.sp0 ⟨G7, powers_product_W (k := k) G7 (r'.mono (by omega)) (hka.ext F7.keep) (hk.ext F7.keep) (by omega) (by omega) fun h8 v8 e8 hv8 => ?_⟩)))))))))))))))
      have F8 := F7.ext e8
      have G8 := G7.ext e8
      have D8 := D7.ext e8
      refine W.sp (W.callN (W.ng G8 (.ref 85) (W.callW (lk_rmul _) (W.sp (W.sub (W.nl F8 0 (W.nl F8 4 (W.getD (k := 0) (r'.mono (by omega)) (hka.ext F8.keep) (ha.ext F8.keep).p hPl fun x hx => W.sp (W.sub (W.nl F8 1 (W.nl F8 3 (W.getD (k := 0) (r'.mono (by omega)) (hk.ext F8.keep) (hb.ext F8.keep).p hRl fun y hy => W.sp0 ⟨G8, ?_⟩))))))))))))
      refine rmul_W (k := k) G8 (r'.mono (by omega)) hx hy (by omega) fun h9 v9 e9 hv9 => W.sp0 ⟨G8.ext e9, ?_⟩
      have F9 := F8.ext e9
      have smul := sz_mul ca cb
      refine add_term_W (k := k) (hb := h) G F9.keep hd0 r' (D8.ext e9) (hv8.ext e9) hv9 (by omega) fun h10 k10 t10 D10 => ?_
      have F10 := F9.keepD k10 (Ne.symm hdL) (fun x hx => by rw [hx]; exact hd0)
      have kk : Keep (fun x => x = L ∨ x = d) h6 h10 := (((Keep.same s7).weak fun x hx => .inl hx).trans (Ext.to (Keep.trans e8 e9))).trans (k10.weak fun x hx => .inr hx)
      exact W.nil ⟨⟨⟨_, F10⟩, by rw [prow_take hP]; exact D10, K6.trans kk⟩, kk⟩
    · obtain ⟨⟨v2, F6⟩, D6, K6⟩ := jj
      rw [List.take_length] at D6
      exact W.nil ⟨⟨⟨_, _, F6⟩, by rw [pmul_take hR]; exact D6⟩, ((Keep.same s5).weak fun x hx => .inl hx).trans K6⟩
  · obtain ⟨⟨v1, v2, F4⟩, D4⟩ := j
    rw [List.take_length] at D4
    exact W.cons (W.ret (W.nl F4 2 (q d h' F4.keep hd0 D4)))
end

/-! ## values at a point -/
noncomputable def pmono (qs : List Rat) (ks : List Int) (c : Rat) : Rat := (qs.zip ks).foldl (fun c p => c * p.1 ^ p.2.toNat) c
noncomputable def pat (P : Poly) (qs : List Rat) : Rat := P.foldl (fun acc e => acc + pmono qs e.1 e.2) 0
noncomputable def RatsAt (h : Heap) (vs : List Value) (qs : List Rat) : Prop := vs.length = qs.length ∧ ∀ (i : Nat) (v : Value) (q : Rat), vs[i]? = some v → qs[i]? = some q → RatAt h v q
theorem RatsAt.tk {h h' : Heap} {vs : List Value} {qs : List Rat} (x : RatsAt h vs qs) (t : TK h h') : RatsAt h' vs qs := ⟨x.1, fun i v q a b => (x.2 i v q a b).tk t⟩
theorem RatsAt.ext {h h' : Heap} {vs : List Value} {qs : List Rat} (x : RatsAt h vs qs) (t : Ext h h') : RatsAt h' vs qs := x.tk (TK.ext t)
noncomputable def pmonoJ (qs : List Rat) (ks : List Int) (c : Rat) (j : Nat) : Rat := ((qs.zip ks).take j).foldl (fun c p => c * p.1 ^ p.2.toNat) c
theorem pmonoJ_succ {qs : List Rat} {ks : List Int} {c q : Rat} {m : Int} {j : Nat} (hq : qs[j]? = some q) (hm : ks[j]? = some m) : pmonoJ qs ks c (j + 1) = pmonoJ qs ks c j * q ^ m.toNat := by
  unfold pmonoJ
  have : (qs.zip ks)[j]? = some (q, m) := by rw [List.getElem?_zip_eq_some]; exact ⟨hq, hm⟩
  rw [List.take_add_one, this, List.foldl_append]; rfl
theorem pmonoJ_all {qs : List Rat} {ks : List Int} {c : Rat} {j : Nat} (h : ks.length ≤ j) : pmonoJ qs ks c j = pmono qs ks c := by
  unfold pmonoJ pmono
  rw [List.take_of_length_le]
  rw [List.length_zip]; omega
theorem pat_take {P : Poly} {qs : List Rat} {i : Nat} {ks : List Int} {c : Rat} (h : P[i]? = some (ks, c)) : pat (P.take (i + 1)) qs = pat (P.take i) qs + pmono qs ks c := by
  unfold pat
  rw [List.take_add_one, h, List.foldl_append]; rfl

section
variable {z : Z} {A : Around} {h h₀ : Heap} {env : Env}
/-- for x1, x2 in enumerate(a tuple) -/
theorem W.forEnumTup {x1 x2 : Str} {p1 p2 tp pos : Pos} {kt : Nat} {iter : Expr} {body : List Stmt} {l : Addr} {ws : List Value} {k : Nat} {Q : Flow → Heap → Prop} (r : Rm A k) (J : Nat → Heap → Prop) (D : Addr → Prop)
    (he : ∀ Q' : Value → Heap → Prop, (∀ e I h1, Ext h h1 → h.get? e = none → h.get? I = none → e ≠ I → IsEnum h1 e I 0 .none → h1.IsTupleIter I l 0 → Q' (.ref e) h1) → W z A (eval iter env) h Q')
    (e0 : Ext h₀ h) (hl : IsTup h₀ l ws.toArray) (hD : ∀ a, D a → ∃ o, h.get? a = some o)
    (h0 : ∀ h1, Ext h h1 → J 0 h1) (hJ : ∀ e I i h1 h2, h.get? e = none → h.get? I = none → J i h1 → Keep (fun b => b = e ∨ b = I) h1 h2 → TK h1 h2 → J i h2) (hext : ∀ i h1, J i h1 → Ext h₀ h1)
    (step : ∀ i v t h1 h2, ws[i]? = some v → J i h1 → Ext h1 h2 → W z A (storeName env x1 (.int (i : Int) t)) h2 (fun _ h3 => W z A (storeName env x2 v) h3 (fun _ h4 => W z A (execs body env) h4 (fun f h5 => match f with
      | .next | .cont => J (i + 1) h5 ∧ Keep D h2 h5
      | .brk => Q .next h5
      | .ret v => Q (.ret v) h5))))
    (hQ : ∀ h', J ws.length h' → Q .next h') (hs : ∀ x, foldedSetIterable iter env x = PySem.Sem.pure x := by intro _; rfl) : W z A (exec (.For (.Tuple [.Name x1 p1, .Name x2 p2] kt tp) iter body [] pos) env) h Q := by
  refine W.forS (he _ fun e I hs es hee hI hne hE hit => W.iterEnum hE ?_) hs
  have hlh : IsTup h l ws.toArray := IsTup.ext hl e0
  obtain ⟨ol, hol⟩ : ∃ o, h₀.get? l = some o := let ⟨o, ho, _⟩ := hl; ⟨o, ho⟩
  have hle : l ≠ e := fun q => by have := e0.get hol; rw [q, hee] at this; cases this
  have hlI : l ≠ I := fun q => by have := e0.get hol; rw [q, hI] at this; cases this
  refine Loop.introT (turnsEnumTup r.h e I l hne hle hlI ws.toArray) J ⟨⟨_, hE⟩, hit, IsTup.ext hlh es⟩ (fun i h st b hb => ?_) (h0 hs es)
    (fun i h1 h2 j kk tk => hJ e I i h1 h2 hee hI j (kk.weak fun a q => by simpa using q) tk) (fun i v h1 hi hP j => ?_) (fun h' j => hQ h' (by simpa using j))
  · simp only [List.mem_cons, List.not_mem_nil, or_false] at hb
    rcases hb with rfl | rfl
    · obtain ⟨old, x⟩ := st.1; exact not_tup_enum x
    · exact not_tup_titer st.2.1
  · obtain ⟨T, vals, rfl, ⟨t, x, hx, rfl⟩, hTT⟩ := hP
    refine W.asgP r hTT fun h2 e2 => W.asgN ((step i x t h1 h2 (by simpa using hx) j e2).mono fun _ h3 q3 => W.asgN (q3.mono fun _ h4 q4 => q4.mono fun f h5 q5 => ?_))
    have pres : J (i + 1) h5 → Keep D h2 h5 → ∀ b ∈ [e, I, l], ∀ o, h1.get? b = some o → h5.get? b = some o := fun j3 k3 b hb o q => by
      simp only [List.mem_cons, List.not_mem_nil, or_false] at hb
      rcases hb with rfl | rfl | rfl
      · exact k3 _ _ (fun q => by obtain ⟨o, ho⟩ := hD _ q; rw [hee] at ho; cases ho) (e2.get q)
      · exact k3 _ _ (fun q => by obtain ⟨o, ho⟩ := hD _ q; rw [hI] at ho; cases ho) (e2.get q)
      · have e1 := (hext _ _ j).get hol
        rw [e1] at q; cases q
        exact (hext _ _ j3).get hol
    cases f with
    | next => exact ⟨q5.1, pres q5.1 q5.2⟩
    | cont => exact ⟨q5.1, pres q5.1 q5.2⟩
    | brk => exact q5
    | ret v => exact q5
/-- for x1, x2 in enumerate(a list) -/
theorem W.forEnumList {x1 x2 : Str} {p1 p2 tp pos : Pos} {kt : Nat} {iter : Expr} {body : List Stmt} {l : Addr} {ws : List Value} {k : Nat} {Q : Flow → Heap → Prop} (r : Rm A k) (J : Nat → Heap → Prop) (D : Addr → Prop)
    (he : ∀ Q' : Value → Heap → Prop, (∀ e I h1, Ext h h1 → h.get? e = none → h.get? I = none → e ≠ I → IsEnum h1 e I 0 .none → h1.IsListIter I l 0 → Q' (.ref e) h1) → W z A (eval iter env) h Q')
    (e0 : Ext h₀ h) (hl : h₀.IsList l ws.toArray) (hD : ∀ a, D a → ∃ o, h.get? a = some o)
    (h0 : ∀ h1, Ext h h1 → J 0 h1) (hJ : ∀ e I i h1 h2, h.get? e = none → h.get? I = none → J i h1 → Keep (fun b => b = e ∨ b = I) h1 h2 → TK h1 h2 → J i h2) (hext : ∀ i h1, J i h1 → Ext h₀ h1)
    (step : ∀ i v t h1 h2, ws[i]? = some v → J i h1 → Ext h1 h2 → W z A (storeName env x1 (.int (i : Int) t)) h2 (fun _ h3 => W z A (storeName env x2 v) h3 (fun _ h4 => W z A (execs body env) h4 (fun f h5 => match f with
      | .next | .cont => J (i + 1) h5 ∧ Keep D h2 h5
      | .brk => Q .next h5
      | .ret v => Q (.ret v) h5))))
    (hQ : ∀ h', J ws.length h' → Q .next h') (hs : ∀ x, foldedSetIterable iter env x = PySem.Sem.pure x := by intro _; rfl) : W z A (exec (.For (.Tuple [.Name x1 p1, .Name x2 p2] kt tp) iter body [] pos) env) h Q := by
  refine W.forS (he _ fun e I hs es hee hI hne hE hit => W.iterEnum hE ?_) hs
  obtain ⟨ol, hol⟩ : ∃ o, h₀.get? l = some o := let ⟨o, ho, _⟩ := hl; ⟨o, ho⟩
  have hlh : hs.IsList l ws.toArray := isList_at hl fun o e => es.get (e0.get e)
  have hle : l ≠ e := fun q => by have := e0.get hol; rw [q, hee] at this; cases this
  have hlI : l ≠ I := fun q => by have := e0.get hol; rw [q, hI] at this; cases this
  refine Loop.introT (turnsEnumList r.h e I l hne hle hlI ws.toArray) J ⟨⟨_, hE⟩, hit, hlh⟩ (fun i h st b hb => ?_) (h0 hs es)
    (fun i h1 h2 j kk tk => hJ e I i h1 h2 hee hI j (kk.weak fun a q => by simpa using q) tk) (fun i v h1 hi hP j => ?_) (fun h' j => hQ h' (by simpa using j))
  · simp only [List.mem_cons, List.not_mem_nil, or_false] at hb
    rcases hb with rfl | rfl
    · obtain ⟨old, x⟩ := st.1; exact not_tup_enum x
    · exact not_tup_liter st.2.1
  · obtain ⟨T, vals, rfl, ⟨t, x, hx, rfl⟩, hTT⟩ := hP
    refine W.asgP r hTT fun h2 e2 => W.asgN ((step i x t h1 h2 (by simpa using hx) j e2).mono fun _ h3 q3 => W.asgN (q3.mono fun _ h4 q4 => q4.mono fun f h5 q5 => ?_))
    have pres : J (i + 1) h5 → Keep D h2 h5 → ∀ b ∈ [e, I, l], ∀ o, h1.get? b = some o → h5.get? b = some o := fun j3 k3 b hb o q => by
      simp only [List.mem_cons, List.not_mem_nil, or_false] at hb
      rcases hb with rfl | rfl | rfl
      · exact k3 _ _ (fun q => by obtain ⟨o, ho⟩ := hD _ q; rw [hee] at ho; cases ho) (e2.get q)
      · exact k3 _ _ (fun q => by obtain ⟨o, ho⟩ := hD _ q; rw [hI] at ho; cases ho) (e2.get q)
      · have e1 := (hext _ _ j).get hol
        rw [e1] at q; cases q
        exact (hext _ _ j3).get hol
    cases f with
    | next => exact ⟨q5.1, pres q5.1 q5.2⟩
    | cont => exact ⟨q5.1, pres q5.1 q5.2⟩
    | brk => exact q5
    | ret v => exact q5
end
end NN
end

section
open PySem PySem.W PyProof.Rows
set_option linter.unusedVariables false
set_option linter.unusedSimpArgs false
namespace NN
set_option maxRecDepth 100000

/-! ## sizes of values at a point -/
theorem sz_pmonoJ {qs : List Rat} (hq : ∀ q ∈ qs, sz q ≤ 2) (ks : List Int) (c : Rat) : ∀ j, sz (pmonoJ qs ks c j) ≤ sz c + ((ks.take j).map fun m => 2 * m.toNat + 1).sum
  | 0 => by simp [pmonoJ]
  | j + 1 => by
    have ih := sz_pmonoJ hq ks c j
    cases h : (qs.zip ks)[j]? with
    | none =>
      have e : pmonoJ qs ks c (j + 1) = pmonoJ qs ks c j := by unfold pmonoJ; rw [List.take_add_one, h]; simp
      rw [e, List.take_add_one, List.map_append, List.sum_append]
      omega
    | some p =>
      obtain ⟨q, m⟩ := p
      rw [List.getElem?_zip_eq_some] at h
      rw [pmonoJ_succ h.1 h.2, List.take_add_one, h.2, List.map_append, List.sum_append]
      have h1 := sz_mul (pmonoJ qs ks c j) (q ^ m.toNat)
      have h2 := sz_pow q m.toNat
      have h3 := hq q (List.mem_of_getElem? h.1)
      have h4 : sz q * m.toNat ≤ 2 * m.toNat := Nat.mul_le_mul_right _ h3
      simp only [Option.toList_some, List.map_cons, List.map_nil, List.sum_cons, List.sum_nil]
      omega
theorem KB_sum {n : Nat} {k : List Int} (h : KB n k) (j : Nat) : ((k.take j).map fun m => 2 * m.toNat + 1).sum ≤ 200 := by
  have h1 : ((k.take j).map fun m => 2 * m.toNat + 1).sum ≤ (k.map fun m => 2 * m.toNat + 1).sum := by
    have := List.sum_append (l₁ := (k.take j).map fun m => 2 * m.toNat + 1) (l₂ := (k.drop j).map fun m => 2 * m.toNat + 1)
    rw [← List.map_append, List.take_append_drop] at this
    omega
  refine Nat.le_trans h1 ?_
  match k, h with
  | [x, y], ⟨_, ⟨a1, a2⟩, b1, b2⟩ => simp; omega
  | [x, y, v], ⟨_, ⟨a1, a2⟩, ⟨b1, b2⟩, c1, c2⟩ => simp; omega
theorem KB_nonneg {n : Nat} {k : List Int} (h : KB n k) : ∀ m ∈ k, 0 ≤ m ∧ m < 66 := by
  match k, h with
  | [x, y], ⟨_, ⟨a1, a2⟩, b1, b2⟩ => intro m hm; simp at hm; omega
  | [x, y, v], ⟨_, ⟨a1, a2⟩, ⟨b1, b2⟩, c1, c2⟩ => intro m hm; simp at hm; omega
noncomputable def psz (P : Poly) : Nat := tsz P + 200 * P.length
theorem sz_pat {n : Nat} {P : Poly} {qs : List Rat} (hq : ∀ q ∈ qs, sz q ≤ 2) (hkb : ∀ e ∈ P, KB n e.1) : sz (pat P qs) ≤ 1 + psz P := by
  have : ∀ (P : Poly) (acc : Rat), (∀ e ∈ P, KB n e.1) → sz (P.foldl (fun acc e => acc + pmono qs e.1 e.2) acc) ≤ sz acc + psz P := by
    intro P
    induction P with
    | nil => intro acc _; simp [psz, tsz_nil]
    | cons e P ih =>
      intro acc h
      rw [List.foldl_cons]
      have h1 := ih (acc + pmono qs e.1 e.2) fun f hf => h f (List.mem_cons_of_mem _ hf)
      have h2 := sz_add acc (pmono qs e.1 e.2)
      have h3 := sz_pmonoJ hq e.1 e.2 e.1.length
      rw [pmonoJ_all (Nat.le_refl _)] at h3
      have h4 := KB_sum (h e List.mem_cons_self) e.1.length
      have h5 : psz (e :: P) = psz P + (sz e.2 + 2) + 200 := by simp [psz, tsz_cons]; omega
      omega
  have h := this P 0 hkb
  have : sz (0 : Rat) = 1 := by decide +kernel
  unfold pat; omega
theorem psz_take {P : Poly} (i : Nat) : psz (P.take i) ≤ psz P := by
  unfold psz
  have := tsz_take P i
  have : (P.take i).length ≤ P.length := by rw [List.length_take]; omega
  omega

section
variable {z : Z} {A : Around} {h : Heap} {env : Env}
theorem W.lstV {value slice : Expr} {t : Addr} {xs : List Value} {u : Tok} {x : Value} {Q : Value → Heap → Prop} {j : Nat} (ht : h.IsList t xs.toArray) (hx : xs[j]? = some x) (hj : xs.length < 2 ^ 62) (q : Q x h)
    (hs : subscripted slice false (.ref t) (.int (j : Int) u) = operate [.ref t, .int (j : Int) u] (getItem (.ref t) (.int (j : Int) u)) := by rfl) :
    W z A (subscriptTail value slice (.ref t) (.int (j : Int) u)) h Q := fun n => by
  have hlt := (List.getElem?_eq_some_iff.mp hx).1
  exact tail_any (s := at_ z h n) (ops := [.ref t, .int (j : Int) u]) ht.typeIs slot_list_getitem.lookup (wpAny_getItem_list (s := at_ z h n) ht (by omega) (by omega) (by simpa using hx) (W.ok q)) hs
theorem W.isN {v : Value} {Q : Value → Heap → Prop} (hv : plainIs v .none = true) (q : Q (.bool (v == .none)) h) : W z A (compareOp .Is v .none) h Q := fun n => wpAny_is_plain hv (W.ok q)
theorem W.isNotN {v : Value} {Q : Value → Heap → Prop} (hv : plainIs v .none = true) (q : Q (.bool (!(v == .none))) h) : W z A (compareOp .IsNot v .none) h Q := fun n => wpAny_isNot_plain hv (W.ok q)

theorem mvat_W {a l : Addr} {P : Poly} {vs : List Value} {qs : List Rat} {m : Nat} {k : Nat} {Q : Value → Heap → Prop} (G : GL z h) (r : Rm A (k + 7)) (ha : DA z h a P) (hkb : ∀ e ∈ P, KB m e.1) (hl : h.IsList l vs.toArray) (hq : RatsAt h vs qs) (hqs : qs.length = m) (hq2 : ∀ q ∈ qs, sz q ≤ 2)
    (hs : psz P ≤ 67000000) (q : ∀ h' v, Ext h h' → RatAt h' v (pat P qs) → Q v h') : W z A (call (.ref 158) [.ref a, .ref l]) h Q := by
  refine W.def 25 nm_mvat G r (lk_mvat _) (cd_mvat _) (by kernel_rfl!) (by kernel_rfl!) fun L h₁ F R' => ?_
  have G' := G.ext F.keep
  have r' := R'.r
  refine W.cons (W.asg (W.ng G' (.ref 64) (W.store F 2 fun h3 F3 s3 => ?_)))
  have G3 := G.ext F3.keep
  refine W.cons (W.forKeys (h₀ := h) (d := a) (R := P) r' (fun i h' => ∃ vf v3 v4 v5 v6, MF h nm_mvat L [some (.ref a), some (.ref l), some vf, v3, v4, v5, v6] h' ∧ RatAt h' vf (pat (P.take i) qs)) (fun x => x = L)
    (fun Q' q' => W.nl F3 0 q') F3.keep ha (fun x hx => ?_) (fun h4 e4 => ⟨_, none, none, none, none, F3.ext e4, (G3.ext e4).R0⟩) (fun I i h4 h5 hI j kk tk => ?_) (fun i h4 j => ?_) (fun i ks c v h4 hR hk j => ?_) (fun h' j => ?_))
  · subst hx; obtain ⟨o, _, _, ho, _⟩ := F3.ns; exact ⟨o, ho⟩
  · obtain ⟨vf, v3, v4, v5, v6, F4, hf⟩ := j
    exact ⟨vf, v3, v4, v5, v6, F4.keepD kk (fun q => F3.neL hI q.symm) (fun b hb => by rw [hb]; exact none_of F3.keep hI), hf.tk tk⟩
  · obtain ⟨vf, v3, v4, v5, v6, F4, hf⟩ := j; exact F4.keep
  · obtain ⟨vf, v3, v4, v5, v6, F4, hf⟩ := j
    refine W.store F4 3 fun h5 F5 s5 => ?_
    have hf5 := hf.tk (TK.same F4.ns s5)
    have hPl : plook P ks = some c := look_of_get ha.nodup hR
    have hKB : KB m ks := hkb _ (List.mem_of_getElem? hR)
    refine W.cons (W.asg (W.sub (W.nl F5 0 (W.nl F5 3 (W.getD (k := 0) (r'.mono (by omega)) (hk.ext F5.keep) (ha.ext F5.keep).p hPl fun x hx => ?_)))))
    refine W.store F5 4 fun h6 F6 s6 => ?_
    have hf6 := hf5.tk (TK.same F5.ns s6)
    have hx6 := hx.tk (TK.same F5.ns s6)
    have G6 := G.ext F6.keep
    obtain ⟨ka, ws, rfl, Tk, Ik⟩ := id hk
    have lw := intsAre_length Ik
    have lks := hKB.len
    have sc := tsz_look hPl
    have hpm : tsz P ≤ psz P := Nat.le_add_right _ _
    refine W.cons (W.forEnumTup (h₀ := h) (l := ka) (ws := ws) r' (fun j h' => ∃ vp v5 v6, MF h nm_mvat L [some (.ref a), some (.ref l), some vf, some (.ref ka), some vp, v5, v6] h' ∧ RatAt h' vf (pat (P.take i) qs) ∧ RatAt h' vp (pmonoJ qs ks c j) ∧ Keep (fun x => x = L) h6 h') (fun x => x = L)
      (fun Q' q' => W.callN (W.nb G6 boot_enumerate (W.callT (W.sp (W.nl F6 3 (W.sp0 (W.enumTup (IsTup.ext Tk F6.keep) q'))))))) F6.keep Tk (fun x hx => ?_) (fun h7 e7 => ⟨_, _, _, F6.ext e7, hf6.ext e7, hx6.ext e7, e7.to⟩) (fun e I i h7 h8 he hI j kk tk => ?_) (fun i h7 j => ?_) (fun j v t h7 h8 hw jj e8 => ?_) (fun h' j => ?_))
    · subst hx; obtain ⟨o, _, _, ho, _⟩ := F6.ns; exact ⟨o, ho⟩
    · obtain ⟨vp, v5, v6, F7, hf7, hp7, K7⟩ := j
      refine ⟨vp, v5, v6, F7.keepD kk (fun q => ?_) (fun b hb => ?_), hf7.tk tk, hp7.tk tk, fun x o hx ex => kk x o (fun q => ?_) (K7 x o hx ex)⟩
      · rcases q with q | q
        · exact F6.neL he q.symm
        · exact F6.neL hI q.symm
      · rcases hb with rfl | rfl
        · exact none_of F6.keep he
        · exact none_of F6.keep hI
      · rcases q with rfl | rfl
        · rw [he] at ex; cases ex
        · rw [hI] at ex; cases ex
    · obtain ⟨vp, v5, v6, F7, _⟩ := j; exact F7.keep
    · obtain ⟨vp, v5, v6, F7, hf7, hp7, K7⟩ := jj
      have F8 := F7.ext e8
      refine W.store F8 5 fun h9 F9 s9 => W.store F9 6 fun h10 F10 s10 => ?_
      have tk10 : TK h7 h10 := ((TK.ext e8).trans (TK.same F8.ns s9)).trans (TK.same F9.ns s10)
      have G10 := G.ext F10.keep
      have hlt : j < ws.length := (List.getElem?_eq_some_iff.mp hw).1
      obtain ⟨mm, tm, hm, rfl⟩ := intsAre_get Ik hw
      have hmm := KB_nonneg hKB mm (List.mem_of_getElem? hm)
      obtain ⟨mn, rfl⟩ := Int.eq_ofNat_of_zero_le hmm.1
      have hj1 : j < qs.length := by omega
      have hj2 : j < vs.length := by rw [hq.1]; exact hj1
      have hvq := hq.2 j _ _ (List.getElem?_eq_getElem hj2) (List.getElem?_eq_getElem hj1)
      have h2q := hq2 _ (List.getElem_mem hj1)
      have spj := sz_pmonoJ hq2 ks c j
      have ks200 := KB_sum hKB j
      have spow := sz_pow qs[j] mn
      have smn : sz qs[j] * mn ≤ 2 * mn := Nat.mul_le_mul_right _ h2q
      refine W.cons (W.asg (W.callN (W.ng G10 (.ref 85) (W.callW (lk_rmul _) (W.sp (W.nl F10 4 (W.sp (W.callN (W.ng G10 (.ref 113) (W.callW (lk_rpower _) (W.sp (W.sub (W.nl F10 1 (W.nl F10 5 (W.lstV (isList_at hl fun o e => F10.keep.get e) (List.getElem?_eq_getElem hj2) (by have := hq.1; have := hKB.n23; omega) (W.sp (W.nl F10 6 (W.sp0 ⟨G10, ?_⟩))))))))))))))))))
      refine rpower_W (k := k) G10 (r'.mono (by omega)) (hvq.ext F10.keep) (by omega) fun h11 v11 e11 hv11 => W.sp0 ⟨G10.ext e11, ?_⟩
      refine rmul_W (k := k) (G10.ext e11) (r'.mono (by omega)) ((hp7.tk tk10).ext e11) hv11 (by omega) fun h12 v12 e12 hv12 => ?_
      have F12 := (F10.ext e11).ext e12
      refine W.store F12 4 fun h13 F13 s13 => W.nil ?_
      have kk : Keep (fun x => x = L) h8 h13 := (((Keep.same s9).trans (Keep.same s10)).trans (Ext.to (Keep.trans e11 e12))).trans (Keep.same s13)
      refine ⟨⟨v12, _, _, F13, (((hf7.tk tk10).ext e11).ext e12).tk (TK.same F12.ns s13), ?_, (K7.trans e8.to).trans kk⟩, kk⟩
      have e := pmonoJ_succ (c := c) (List.getElem?_eq_getElem hj1) hm
      rw [e]
      exact hv12.tk (TK.same F12.ns s13)
    · obtain ⟨vp, v5, v6, F7, hf7, hp7, K7⟩ := j
      rw [pmonoJ_all (by omega)] at hp7
      have G7 := G.ext F7.keep
      have s1 := sz_pat (qs := qs) hq2 (n := m) (P := P.take i) fun e he => hkb e (List.mem_of_mem_take he)
      have s2 := psz_take (P := P) i
      have s3 := sz_pmonoJ hq2 ks c ks.length
      rw [pmonoJ_all (Nat.le_refl _)] at s3
      have s4 := KB_sum hKB ks.length
      refine W.cons (W.asg (W.callN (W.ng G7 (.ref 78) (W.callW (lk_radd _) (W.sp (W.nl F7 2 (W.sp (W.nl F7 4 (W.sp0 ⟨G7, radd_W (k := k) G7 (r'.mono (by omega)) hf7 hp7 (by omega) fun h8 v8 e8 hv8 => ?_⟩)))))))))
      refine W.store (F7.ext e8) 2 fun h9 F9 s9 => W.nil ⟨⟨v8, _, _, _, _, F9, ?_⟩, ?_⟩
      · rw [pat_take hR]; exact hv8.tk (TK.same (F7.ext e8).ns s9)
      · exact (((Keep.same s5).trans (Keep.same s6)).trans K7).trans ((Ext.to e8).trans (Keep.same s9))
  · obtain ⟨vf, v3, v4, v5, v6, F4, hf⟩ := j
    rw [List.take_length] at hf
    exact W.cons (W.ret (W.nl F4 2 (q h' vf F4.keep hf)))
end
end NN
end

section
open PySem PySem.W PyProof.Rows
set_option linter.unusedVariables false
set_option linter.unusedSimpArgs false
namespace NN
set_option maxRecDepth 100000

/-! ## the lead of a polynomial -/
noncomputable def better (o : Ord) (b : Option (List Int × Rat)) (e : List Int × Rat) : Option (List Int × Rat) := match b with
  | none => some e
  | some e0 => if lexGt (okey o e.1) (okey o e0.1) = true then some e else some e0
noncomputable def plead (o : Ord) (P : Poly) : Option (List Int × Rat) := P.foldl (better o) none
theorem plead_take {o : Ord} {P : Poly} {i : Nat} {e : List Int × Rat} (h : P[i]? = some e) : plead o (P.take (i + 1)) = better o (plead o (P.take i)) e := by
  unfold plead
  rw [List.take_add_one, h, List.foldl_append]; rfl
theorem plead_mem {o : Ord} : ∀ {P : Poly} {e : List Int × Rat}, plead o P = some e → e ∈ P := by
  have : ∀ (P : Poly) (b : Option (List Int × Rat)) (e : List Int × Rat), P.foldl (better o) b = some e → b = some e ∨ e ∈ P := by
    intro P
    induction P with
    | nil => intro b e h; exact .inl h
    | cons f P ih =>
      intro b e h
      rcases ih _ _ h with h | h
      · cases b with
        | none => simp only [better, Option.some.injEq] at h; subst h; exact .inr List.mem_cons_self
        | some e0 =>
          simp only [better] at h
          split at h
          · cases h; exact .inr List.mem_cons_self
          · exact .inl h
      · exact .inr (List.mem_cons_of_mem _ h)
  intro P e h
  rcases this P none e h with h | h
  · cases h
  · exact h
theorem look_of_mem {P : Poly} (hn : (P.map (·.1)).Nodup) {e : List Int × Rat} (h : e ∈ P) : plook P e.1 = some e.2 := by
  obtain ⟨i, hi⟩ := List.mem_iff_getElem?.mp h
  obtain ⟨k, c⟩ := e
  exact look_of_get hn hi

/-- what mvlead gives back -/
noncomputable def LeadAt (h : Heap) (v : Value) : Option (List Int × Rat) → Prop
  | none => v = .none
  | some e => ∃ a vk vc, v = .ref a ∧ IsTup h a #[vk, vc] ∧ KeyAt h vk e.1 ∧ RatAt h vc e.2
theorem LeadAt.tk {h h' : Heap} {v : Value} {o : Option (List Int × Rat)} (x : LeadAt h v o) (t : TK h h') : LeadAt h' v o := by
  cases o with
  | none => exact x
  | some e => obtain ⟨a, vk, vc, r, T, K, R⟩ := x; exact ⟨a, vk, vc, r, t _ _ T, K.tk t, R.tk t⟩
theorem LeadAt.ext {h h' : Heap} {v : Value} {o : Option (List Int × Rat)} (x : LeadAt h v o) (t : Ext h h') : LeadAt h' v o := x.tk (TK.ext t)
theorem KeyAt.plain {h : Heap} {v : Value} {ks : List Int} (x : KeyAt h v ks) : plainIs v .none = true ∧ (v == .none) = false := by
  obtain ⟨a, vs, rfl, _⟩ := x
  exact ⟨rfl, rfl⟩
theorem LeadAt.plain {h : Heap} {v : Value} {o : Option (List Int × Rat)} (x : LeadAt h v o) : plainIs v .none = true ∧ (v == .none) = o.isNone := by
  cases o with
  | none => have : v = .none := x; subst this; exact ⟨rfl, rfl⟩
  | some e => obtain ⟨a, vk, vc, rfl, _⟩ := x; exact ⟨rfl, rfl⟩

section
variable {z : Z} {A : Around} {h : Heap} {env : Env}
noncomputable def BestAt (h : Heap) (o : Ord) (vb vh : Value) : Option (List Int × Rat) → Prop
  | none => vb = .none
  | some e => KeyAt h vb e.1 ∧ KeyAt h vh (okey o e.1)
theorem BestAt.tk {h h' : Heap} {o : Ord} {vb vh : Value} {b : Option (List Int × Rat)} (x : BestAt h o vb vh b) (t : TK h h') : BestAt h' o vb vh b := by
  cases b with
  | none => exact x
  | some e => exact ⟨x.1.tk t, x.2.tk t⟩
theorem BestAt.plain {h : Heap} {o : Ord} {vb vh : Value} {b : Option (List Int × Rat)} (x : BestAt h o vb vh b) : plainIs vb .none = true ∧ (vb == .none) = b.isNone := by
  cases b with
  | none => have : vb = .none := x; subst this; exact ⟨rfl, rfl⟩
  | some e => exact ⟨x.1.plain.1, x.1.plain.2⟩

theorem mvlead_W {a : Addr} {P : Poly} {o : Ord} {to : Tok} {m : Nat} {k : Nat} {Q : Value → Heap → Prop} (G : GL z h) (r : Rm A (k + 4)) (ha : DA z h a P) (hlen : ∀ e ∈ P, e.1.length = m) (hm : 1 ≤ m) (hm2 : m ≤ 100)
    (q : ∀ h' v, Ext h h' → LeadAt h' v (plead o P) → Q v h') : W z A (call (.ref 165) [.ref a, .str o.name to]) h Q := by
  refine W.def 26 nm_mvlead G r (lk_mvlead _) (cd_mvlead _) (by kernel_rfl!) (by kernel_rfl!) fun L h₁ F R' => ?_
  have G' := G.ext F.keep
  have r' := R'.r
  refine W.cons (W.asgT (W.tuple (W.sp (W.cnone (W.sp (W.cnone (W.sp0 (W.newTup fun t2 h2 e2 T2 _ => W.asgP r' T2 fun h3 e3 => W.asgN ?_))))))))
  refine W.store ((F.ext e2).ext e3) 2 fun h4 F4 s4 => W.asgN (W.store F4 3 fun h5 F5 s5 => ?_)
  refine W.cons (W.forKeys (h₀ := h) (d := a) (R := P) r' (fun i h' => ∃ vb vh v4 v5, MF h nm_mvlead L [some (.ref a), some (.str o.name to), some vb, some vh, v4, v5] h' ∧ BestAt h' o vb vh (plead o (P.take i))) (fun x => x = L)
    (fun Q' q' => W.nl F5 0 q') F5.keep ha (fun x hx => ?_) (fun h6 e6 => ⟨_, _, none, none, F5.ext e6, rfl⟩) (fun I i h6 h7 hI j kk tk => ?_) (fun i h6 j => ?_) (fun i ks c v h6 hR hk j => ?_) (fun h' j => ?_))
  · subst hx; obtain ⟨o, _, _, ho, _⟩ := F5.ns; exact ⟨o, ho⟩
  · obtain ⟨vb, vh, v4, v5, F6, B6⟩ := j
    exact ⟨vb, vh, v4, v5, F6.keepD kk (fun q => F5.neL hI q.symm) (fun b hb => by rw [hb]; exact none_of F5.keep hI), B6.tk tk⟩
  · obtain ⟨vb, vh, v4, v5, F6, B6⟩ := j; exact F6.keep
  · obtain ⟨vb, vh, v4, v5, F6, B6⟩ := j
    refine W.store F6 4 fun h7 F7 s7 => ?_
    have G7 := G.ext F7.keep
    have l1 : ks.length = m := hlen _ (List.mem_of_getElem? hR)
    refine W.cons (W.asg (W.callN (W.ng G7 (.ref 39) (W.callW (lk_order_key _) (W.sp (W.nl F7 1 (W.sp (W.nl F7 4 (W.sp0 ⟨G7, order_key_W (k := k) G7 (r'.mono (by omega)) (hk.ext F7.keep) (fun q => by rw [q] at l1; simp at l1; omega) (by omega) fun h8 v8 e8 hv8 => ?_⟩)))))))))
    refine W.store (F7.ext e8) 5 fun h9 F9 s9 => ?_
    have tk9 : TK h6 h9 := ((TK.same F6.ns s7).trans (TK.ext e8)).trans (TK.same (F7.ext e8).ns s9)
    have B9 := B6.tk tk9
    have hp9 := hv8.tk (TK.same (F7.ext e8).ns s9)
    have kk9 : Keep (fun x => x = L) h6 h9 := ((Keep.same s7).trans (Ext.to e8)).trans (Keep.same s9)
    -- the store of the new best
    have take : ∀ hh, Ext h9 hh → better o (plead o (P.take i)) (ks, c) = some (ks, c) →
        W z (A.deeper (envD 26 (.ref 164) (.str (Str.ofString "cas.mvpoly") 320) L 165)) (execs (match (((dBody (stD 26)).drop 1).head?) with | some (.For _ _ [_, .If _ b _ _] _ _) => b | _ => []) (envD 26 (.ref 164) (.str (Str.ofString "cas.mvpoly") 320) L 165)) hh
          (fun f h3 => f = .next ∧ (∃ vb vh v4 v5, MF h nm_mvlead L [some (.ref a), some (.str o.name to), some vb, some vh, v4, v5] h3 ∧ BestAt h3 o vb vh (plead o (P.take (i + 1)))) ∧ Keep (fun x => x = L) h6 h3) := by
      intro hh eh hb
      have Fh := F9.ext eh
      refine W.cons (W.asg2 (x := Str.ofString "best") (y := Str.ofString "highest") r' (W.tuple (W.sp (W.nl Fh 4 (W.sp (W.nl Fh 5 (W.sp0 (W.newTup fun t2 h2 e2 T2 _ => ⟨_, _, _, rfl, T2, fun h3 e3 => ?_⟩))))))) (by kernel_rfl!))
      refine W.store ((Fh.ext e2).ext e3) 3 fun h10 F10 s10 => W.store F10 2 fun h11 F11 s11 => W.nil ⟨rfl, ⟨_, _, _, _, F11, ?_⟩, ?_⟩
      · rw [plead_take hR, hb]
        refine ⟨?_, ?_⟩
        · exact hk.ext F11.keep
        · exact (((hp9.ext eh).ext (Keep.trans e2 e3)).tk (TK.same ((Fh.ext e2).ext e3).ns s10)).tk (TK.same F10.ns s11)
      · exact kk9.trans ((Ext.to (Keep.trans eh (Keep.trans e2 e3))).trans ((Keep.same s10).trans (Keep.same s11)))
    refine W.cons (W.iff (W.tor (W.tcmp (W.nl F9 2 (W.cnone (W.isN B9.plain.1 (W.tb ?_)))))))
    rw [B9.plain.2]
    cases hpl : plead o (P.take i) with
    | none =>
      simp only [Option.isNone_none, if_true]
      refine (take h9 (fun _ _ _ e => e) (by rw [hpl]; rfl)).mono fun f h10 q10 => ?_
      obtain ⟨rfl, q10, k10⟩ := q10
      exact W.nil ⟨q10, k10⟩
    | some e0 =>
      rw [hpl] at B9
      simp only [Option.isNone_some, Bool.false_eq_true, if_false]
      refine W.tor (W.tcmp (W.nl F9 5 (W.nl F9 3 (W.gtT r' hp9 B9.2 (W.tb ?_)))))
      by_cases hg : lexGt (okey o ks) (okey o e0.1) = true
      · rw [if_pos hg, if_pos rfl]
        refine (take h9 (fun _ _ _ e => e) (by rw [hpl]; simp only [better]; rw [if_pos hg])).mono fun f h10 q10 => ?_
        obtain ⟨rfl, q10, k10⟩ := q10
        exact W.nil ⟨q10, k10⟩
      · rw [if_neg hg]
        refine W.tor0 ?_
        rw [if_neg (by decide)]
        refine W.nil (W.nil ⟨⟨_, _, _, _, F9, ?_⟩, kk9⟩)
        rw [plead_take hR, hpl]
        simp only [better]
        rw [if_neg hg]
        exact B9
  · obtain ⟨vb, vh, v4, v5, F6, B6⟩ := j
    rw [List.take_length] at B6
    refine W.cons (W.ret (W.ifx (W.tcmp (W.nl F6 2 (W.cnone (W.isN B6.plain.1 (W.tb ?_)))))))
    rw [B6.plain.2]
    cases hpl : plead o P with
    | none =>
      simp only [Option.isNone_none, if_true]
      exact W.cnone (q h' _ F6.keep (by rw [hpl]; rfl))
    | some e0 =>
      rw [hpl] at B6
      simp only [Option.isNone_some, Bool.false_eq_true, if_false]
      have hl := look_of_mem ha.nodup (plead_mem hpl)
      refine W.tuple (W.sp (W.nl F6 2 (W.sp (W.sub (W.nl F6 0 (W.nl F6 2 (W.getD (k := 0) (r'.mono (by omega)) B6.1 (ha.ext F6.keep).p hl fun x hx => W.sp0 (W.newTup fun t7 h7 e7 T7 _ => q h7 _ (Keep.trans F6.keep e7) ?_))))))))
      rw [hpl]
      exact ⟨t7, _, _, rfl, T7, B6.1.ext e7, hx.ext e7⟩

/-! ## the first lead that divides -/
noncomputable def divides (ks : List Int) (o : Option (List Int × Rat)) : Bool := match o with
  | some e => pdiv e.1 ks
  | none => false
noncomputable def pfirst (ks : List Int) (leads : List (Option (List Int × Rat))) : Option Nat := leads.findIdx? (divides ks)
noncomputable def firstInt (o : Option Nat) : Int := match o with
  | some i => i
  | none => -1
noncomputable def LeadsAt (h : Heap) (vs : List Value) (ls : List (Option (List Int × Rat))) : Prop := vs.length = ls.length ∧ ∀ (i : Nat) (v : Value) (o : Option (List Int × Rat)), vs[i]? = some v → ls[i]? = some o → LeadAt h v o
theorem LeadsAt.tk {h h' : Heap} {vs : List Value} {ls} (x : LeadsAt h vs ls) (t : TK h h') : LeadsAt h' vs ls := ⟨x.1, fun i v q a b => (x.2 i v q a b).tk t⟩
theorem LeadsAt.ext {h h' : Heap} {vs : List Value} {ls} (x : LeadsAt h vs ls) (t : Ext h h') : LeadsAt h' vs ls := x.tk (TK.ext t)

theorem first_divisor_W {vk : Value} {ks : List Int} {l : Addr} {vs : List Value} {ls : List (Option (List Int × Rat))} {k : Nat} {Q : Value → Heap → Prop} (G : GL z h) (r : Rm A (k + 3)) (hk : KeyAt h vk ks) (hl : h.IsList l vs.toArray) (hL : LeadsAt h vs ls)
    (hlen : ∀ e, some e ∈ ls → e.1.length = ks.length) (h100 : ks.length ≤ 100) (q : ∀ h' t, Ext h h' → Q (.int (firstInt (pfirst ks ls)) t) h') : W z A (call (.ref 172) [vk, .ref l]) h Q := by
  refine W.def 28 nm_first_divisor G r (lk_first_divisor _) (cd_first_divisor _) (by kernel_rfl!) (by kernel_rfl!) fun L h₁ F R' => ?_
  have G' := G.ext F.keep
  have r' := R'.r
  refine W.cons (W.forEnumList (h₀ := h) (l := l) (ws := vs) r' (fun j h' => ∃ v2 v3, MF h nm_first_divisor L [some vk, some (.ref l), v2, v3] h' ∧ ∀ i < j, ∀ o, ls[i]? = some o → divides ks o = false) (fun x => x = L)
      (fun Q' q' => W.callN (W.nb G' boot_enumerate (W.callT (W.sp (W.nl F 1 (W.sp0 (W.enumList (isList_at hl fun o e => F.keep.get e) q'))))))) F.keep hl (fun x hx => ?_) (fun h7 e7 => ⟨_, _, F.ext e7, fun i hi => absurd hi (Nat.not_lt_zero _)⟩) (fun e I i h7 h8 he hI j kk tk => ?_) (fun i h7 j => ?_) (fun j v t h7 h8 hw jj e8 => ?_) (fun h' j => ?_))
  · subst hx; obtain ⟨o, _, _, ho, _⟩ := F.ns; exact ⟨o, ho⟩
  · obtain ⟨v2, v3, F7, H⟩ := j
    refine ⟨v2, v3, F7.keepD kk (fun q => ?_) (fun b hb => ?_), H⟩
    · rcases q with q | q
      · exact F.neL he q.symm
      · exact F.neL hI q.symm
    · rcases hb with rfl | rfl
      · exact none_of F.keep he
      · exact none_of F.keep hI
  · obtain ⟨v2, v3, F7, H⟩ := j; exact F7.keep
  · obtain ⟨v2, v3, F7, H⟩ := jj
    have F8 := F7.ext e8
    refine W.store F8 2 fun h9 F9 s9 => W.store F9 3 fun h10 F10 s10 => ?_
    have G10 := G.ext F10.keep
    have hlt : j < ls.length := by rw [← hL.1]; exact (List.getElem?_eq_some_iff.mp hw).1
    have hLj := (hL.2 j v _ hw (List.getElem?_eq_getElem hlt)).ext F10.keep
    have kk10 : Keep (fun x => x = L) h8 h10 := (Keep.same s9).trans (Keep.same s10)
    have miss : divides ks ls[j] = false → ∀ i < j + 1, ∀ o, ls[i]? = some o → divides ks o = false := fun hd i hi o ho => by
      rcases Nat.lt_or_ge i j with h | h
      · exact H i h o ho
      · have : i = j := by omega
        subst this
        rw [List.getElem?_eq_getElem hlt] at ho; cases ho; exact hd
    refine W.cons (W.iff (W.tand (W.tcmp (W.nl F10 3 (W.cnone (W.isNotN hLj.plain.1 (W.tb ?_)))))))
    rw [hLj.plain.2]
    cases hls : ls[j] with
    | none =>
      simp only [Option.isNone_none, Bool.not_true, Bool.false_eq_true, if_false]
      exact W.nil (W.nil ⟨⟨_, _, F10, miss (by rw [hls]; rfl)⟩, kk10⟩)
    | some e =>
      rw [hls] at hLj
      simp only [Option.isNone_some, Bool.not_false, if_true]
      obtain ⟨ta, va, vc, rfl, T, hka, hca⟩ := hLj
      have hle := hlen e (by rw [← hls]; exact List.getElem_mem hlt)
      refine W.tand (W.tplain (W.callN (W.ng G10 (.ref 51) (W.callW (lk_powers_divide _) (W.sp (W.sub (W.nl F10 3 (W.cint fun _ => W.tup0 T (W.sp (W.nl F10 0 (W.sp0 ⟨G10, powers_divide_W (k := k) G10 r' hka (hk.ext F10.keep) hle (by omega) fun h11 e11 => W.tb ?_⟩)))))))))))
      have F11 := F10.ext e11
      by_cases hd : pdiv e.1 ks = true
      · rw [if_pos hd]
        refine W.tand0 ?_
        rw [if_pos rfl]
        refine W.cons (W.ret (W.nl F11 2 ?_))
        have : pfirst ks ls = some j := by
          unfold pfirst
          rw [List.findIdx?_eq_some_iff_getElem]
          refine ⟨hlt, by rw [hls]; exact hd, fun i hi => ?_⟩
          have := H i hi _ (List.getElem?_eq_getElem (by omega))
          rw [this]; decide
        have := q h11 t F11.keep
        rwa [show firstInt (pfirst ks ls) = (j : Int) by rw [‹pfirst ks ls = some j›]; rfl] at this
      · rw [if_neg hd]
        rw [if_neg (by decide)]
        exact W.nil (W.nil ⟨⟨_, _, F11, miss (by rw [hls]; simpa [divides] using hd)⟩, kk10.trans (Ext.to e11)⟩)
  · obtain ⟨v2, v3, F7, H⟩ := j
    refine W.cons (W.ret (W.un (W.cint fun _ => W.neg fun t => ?_)))
    have : pfirst ks ls = none := by
      unfold pfirst
      rw [List.findIdx?_eq_none_iff]
      intro o ho
      obtain ⟨i, hi⟩ := List.mem_iff_getElem?.mp ho
      have hi2 := (List.getElem?_eq_some_iff.mp hi).1
      exact H i (by rw [hL.1]; exact hi2) o hi
    have q' := q h' t F7.keep
    rwa [show firstInt (pfirst ks ls) = -1 by rw [this]; rfl] at q'
end
end NN
end

section
open PySem PySem.W PyProof.Rows
set_option linter.unusedVariables false
set_option linter.unusedSimpArgs false
namespace NN
set_option maxRecDepth 100000

/-! ## division: one turn -/
structure DSt where
  qs : List Poly
  rest : Poly
  left : Poly
noncomputable def ksub (a b : List Int) : List Int := List.zipWith (· - ·) a b
noncomputable def leadOf (o : Ord) (ss : List Poly) (i : Nat) : List Int × Rat := (plead o (ss.getD i [])).getD ([], 0)
noncomputable def dstep (o : Ord) (ss : List Poly) (s : DSt) : DSt := match plead o s.left with
  | none => s
  | some e => match pfirst e.1 (ss.map (plead o)) with
    | none => ⟨s.qs, pset s.rest e.1 e.2, pdel s.left e.1⟩
    | some i => ⟨s.qs.set i (paddT (s.qs.getD i []) (ksub e.1 (leadOf o ss i).1) (e.2 / (leadOf o ss i).2)), s.rest, psub s.left (pshift (ss.getD i []) (ksub e.1 (leadOf o ss i).1) (e.2 / (leadOf o ss i).2))⟩

theorem plead_isSome {o : Ord} {P : Poly} (h : P ≠ []) : ∃ e, plead o P = some e := by
  have : ∀ (P : Poly) (b : Option (List Int × Rat)), b.isSome = true → (P.foldl (better o) b).isSome = true := by
    intro P
    induction P with
    | nil => intro b h; exact h
    | cons e P ih =>
      intro b h
      refine ih _ ?_
      cases b with
      | none => rfl
      | some e0 => simp only [better]; split <;> rfl
  cases P with
  | nil => exact absurd rfl h
  | cons e P => exact Option.isSome_iff_exists.mp (this P (better o none e) rfl)

/-- what a turn of the division asks of the numbers -/
structure DOk (m : Nat) (n : Nat) (s : DSt) : Prop where
  kb : ∀ e ∈ s.left, KB m e.1
  nz : ∀ e ∈ s.left, e.2 ≠ 0
  tl : tsz s.left ≤ 1000000
  tr : tsz s.rest ≤ LIM
  tq : ∀ P ∈ s.qs, tsz P + 2000000 ≤ LIM
  lq : s.qs.length = n
structure SOk (m : Nat) (S : Poly) : Prop where
  len : ∀ e ∈ S, e.1.length = m
  nz : ∀ e ∈ S, e.2 ≠ 0
  ts : tsz S ≤ 1000
  two : S.length ≤ 2

noncomputable def PolysAt (z : Z) (h : Heap) (ds : List Addr) (Ps : List Poly) : Prop := ds.length = Ps.length ∧ ∀ (i : Nat) (d : Addr) (P : Poly), ds[i]? = some d → Ps[i]? = some P → DA z h d P
theorem PolysAt.ext {z : Z} {h h' : Heap} {ds : List Addr} {Ps : List Poly} (x : PolysAt z h ds Ps) (e : Ext h h') : PolysAt z h' ds Ps := ⟨x.1, fun i d P a b => (x.2 i d P a b).ext e⟩
theorem PolysAt.move {z : Z} {h h' : Heap} {ds : List Addr} {Ps : List Poly} (x : PolysAt z h ds Ps) (t : TK h h') (e : ∀ d ∈ ds, ∀ o, h.get? d = some o → h'.get? d = some o) : PolysAt z h' ds Ps := ⟨x.1, fun i d P a b => (x.2 i d P a b).move t (e d (List.mem_of_getElem? a))⟩

section
variable {z : Z} {A : Around} {h : Heap} {env : Env}

/-- a frame whose comprehension is over -/
theorem MF.comp {h₀ h h' : Heap} {nm : List Str} {L C : Addr} {vs : List (Option Value)} (F : MF h₀ nm L vs h) (hs : Heap.SameBut C h h') (hC : h₀.get? C = none) (hL : L ≠ C) : MF h₀ nm L vs h' := F.same hs hL hC

/-- [{} for x in a list] -/
theorem compNewDicts {iter : Expr} {scope : Scope} {pos p1 dp : Pos} {x1 : Str} {cl : List (Str × Addr)} {I a : Addr} {hs hO : Heap} {nmO : List Str} {vsO : List (Option Value)} {vs : List Value} {k : Nat}
    {Post : Value → Addr → Heap → Prop} (r : Rm A k) (G : GL z hO) (F : MF hO nmO env.locals vsO hs) (hit : hs.IsListIter I a 0) (hT : hs.IsList a vs.toArray) (hIO : hO.get? I = none) (hIL : I ≠ env.locals) (haI : a ≠ I)
    (hsz : vs.length ≤ sizeLine) (hok : okComp scope env [x1] = true)
    (fin : ∀ D C (ds : List Addr) h', hs.get? D = none → hs.get? C = none → D ≠ C → h'.IsList D ((ds.map Value.ref).toArray) → (∃ m, h'.Ns C m) → MF hO nmO env.locals vsO h' → Keep (fun b => b = I) hs h' → TK hs h' →
      ds.length = vs.length → ds.Nodup → (∀ d ∈ ds, DA z h' d [] ∧ hO.get? d = none ∧ d ≠ D ∧ d ≠ C ∧ d ≠ env.locals) → Post (.ref D) C h') :
    CompRun z A (.ListComp (.Dict [] [] dp) [⟨.Name x1 p1, iter, [], 0⟩] scope pos) scope cl env (newList []) I hs Post := by
  simp only [okComp, Bool.and_eq_true, beq_iff_eq, List.all_eq_true, Bool.not_eq_true', beq_eq_false_iff_ne] at hok
  obtain ⟨⟨h1, h2⟩, h3⟩ := hok
  have o1 := h3 0 (by simp)
  refine compRunL (nmc := [x1]) (W.KTurns.ofWalks (Walks.list r.h I a haI vs.toArray) fun i v s Q E _ hQ => by rw [letOwned_name]; exact wpAny_pure hQ) ⟨hit, hT⟩ (by simpa using hsz) (fun h Q st q n => wpAny_pyIter_listiter (s := at_ z h n) st.1 (W.ok q)) (fun i h st b hb => ?_) (fun b hb => ?_) F
    (by simp [Ne.symm hIL]) (fun b hb => by rw [List.mem_singleton.mp hb]; exact hIO) h1 (fun y hy => h2 y hy) (fun _ => False) (fun _ h => h.elim) (fun i vs' => ∃ x, vs[i]? = some x ∧ vs' = [some x])
    (fun D C i xs h => ∃ ds : List Addr, xs = ds.map Value.ref ∧ ds.length = i ∧ ds.Nodup ∧ ∀ d ∈ ds, DA z h d [] ∧ hO.get? d = none ∧ d ≠ D ∧ d ≠ C ∧ d ≠ env.locals ∧ d ≠ I)
    (fun D C h _ _ _ e => ⟨[], rfl, rfl, by simp, fun d hd => by simp at hd⟩) (fun D C i xs h h' _ _ _ j kk t => ?_) (fun C i v h1 ws Q hi hP FC hw q => ?_) (fun D C i xs h2 vs' hi hV hD hC hDl FC FO kh tk j st => ?_) (fun D C xs h' a b c d e f g hh i => ?_)
  · rw [List.mem_singleton.mp hb]; exact not_tup_liter st.1
  · simp only [List.mem_cons, List.not_mem_nil, or_false] at hb
    rcases hb with rfl | rfl
    · obtain ⟨o, ho, _⟩ := hit; exact ⟨o, ho⟩
    · obtain ⟨o, ho, _⟩ := hT; exact ⟨o, ho⟩
  · obtain ⟨ds, rfl, hl, hn, hd⟩ := j
    refine ⟨ds, rfl, hl, hn, fun d hdm => ?_⟩
    obtain ⟨a1, a2, a3, a4, a5, a6⟩ := hd d hdm
    exact ⟨a1.move t fun o e => kk d o (by rintro (q | q | q | q); exact a6 (List.mem_singleton.mp q); exact a3 q; exact a4 q; exact a5 q) e, a2, a3, a4, a5, a6⟩
  · exact asgOne FC hw (fun h2 F2 k2 t2 => q h2 _ ⟨v, by simpa using hP, rfl⟩ rfl F2 k2 t2) o1
  · obtain ⟨ds, rfl, hl, hn, hd⟩ := j
    refine W.tests0 ?_
    rw [if_pos rfl]
    refine W.dict0 (G.ext FO.keep) fun d h4 e4 hd4 D4 => ⟨Ext.to e4, TK.ext e4, ds ++ [d], by simp, by simp [hl], ?_, fun d' hd' => ?_⟩
    · rw [List.nodup_append]
      refine ⟨hn, by simp, fun a ha b hb => ?_⟩
      rw [List.mem_singleton] at hb
      subst hb
      rintro rfl
      obtain ⟨o, ho⟩ := (hd a ha).1.p.some
      rw [hd4] at ho; cases ho
    · rcases List.mem_append.mp hd' with q | q
      · obtain ⟨a1, a2, a3, a4, a5, a6⟩ := hd d' q
        exact ⟨a1.ext e4, a2, a3, a4, a5, a6⟩
      · rw [List.mem_singleton] at q
        subst q
        refine ⟨D4, none_of FO.keep hd4, ?_, FC.neL hd4, FO.neL hd4, ?_⟩
        · rintro rfl
          obtain ⟨ys, o, ho, _⟩ := hDl
          rw [hd4] at ho; cases ho
        · rintro rfl
          obtain ⟨o, ho, _⟩ := st.1
          rw [hd4] at ho; cases ho
  · obtain ⟨ds, rfl, hl, hn, hd⟩ := i
    exact fin D C ds h' a b c d e f (g.weak fun b hb => by
      rcases hb with hb | hb
      · exact List.mem_singleton.mp hb
      · exact hb.elim) hh (by simpa using hl) hn fun d' hd' => ⟨(hd d' hd').1, (hd d' hd').2.1, (hd d' hd').2.2.1, (hd d' hd').2.2.2.1, (hd d' hd').2.2.2.2.1⟩
end
end NN
end

section
open PySem PySem.W PyProof.Rows
set_option linter.unusedVariables false
set_option linter.unusedSimpArgs false
namespace NN
set_option maxRecDepth 100000

theorem tsz_pset {P : Poly} (hn : (P.map (·.1)).Nodup) (k : List Int) (q : Rat) : tsz (pset P k q) ≤ tsz P + sz q + 2 := by
  unfold pset
  cases h : plook P k with
  | none =>
    simp only [Option.isSome_none, Bool.false_eq_true, if_false]
    rw [tsz_append, tsz_cons, tsz_nil]; show tsz P + (sz q + 2 + 0) ≤ _; omega
  | some c =>
    simp only [Option.isSome_some, if_true]
    have := tsz_put (q := q) hn h
    omega
theorem tsz_pshift (P : Poly) (k : List Int) (c : Rat) : tsz (pshift P k c) ≤ tsz P + P.length * sz c := by
  unfold pshift
  split
  · simp [tsz_nil]
  · have : ∀ (P acc : Poly), (acc.map (·.1)).Nodup → tsz (P.foldl (fun acc e => pset acc (List.zipWith (· + ·) e.1 k) (e.2 * c)) acc) ≤ tsz acc + tsz P + P.length * sz c := by
      intro P
      induction P with
      | nil => intro acc _; simp [tsz_nil]
      | cons e P ih =>
        intro acc hn
        rw [List.foldl_cons, tsz_cons, List.length_cons, Nat.succ_mul]
        have h1 := ih _ (nodup_set hn (List.zipWith (· + ·) e.1 k) (e.2 * c))
        have h2 := tsz_pset hn (List.zipWith (· + ·) e.1 k) (e.2 * c)
        have h3 := sz_mul e.2 c
        omega
    have h := this P [] (by simp)
    rw [tsz_nil] at h
    exact Nat.le_trans (show tsz (pfold _ P) ≤ _ from h) (by omega)
theorem boot_len : bootBuiltins "len" = some (.builtin "len") := by decide +kernel
theorem set_poly {z : Z} {h h' : Heap} {ds : List Addr} {Ps : List Poly} {i : Nat} {d : Addr} {P' : Poly} (x : PolysAt z h ds Ps) (hi : ds[i]? = some d) (hn : ds.Nodup) (t : TK h h') (kk : Keep (fun b => b = d) h h') (D : DA z h' d P') : PolysAt z h' ds (Ps.set i P') := by
  refine ⟨by rw [List.length_set]; exact x.1, fun j e P a b => ?_⟩
  by_cases hij : i = j
  · subst hij
    rw [hi] at a; cases a
    have hlt : i < Ps.length := by rw [← x.1]; exact (List.getElem?_eq_some_iff.mp hi).1
    rw [List.getElem?_set_self hlt] at b
    cases b; exact D
  · rw [List.getElem?_set_ne hij] at b
    refine (x.2 j e P a b).move t fun o ho => kk e o (fun q => hij ?_) ho
    rw [q] at a
    exact (List.getElem?_inj (List.getElem?_eq_some_iff.mp hi).1 hn).mp (hi.trans a.symm)

section
variable {z : Z} {A : Around} {h : Heap}

/-- one turn of the division's loop, its facts -/
structure DInv (z : Z) (hb h3 : Heap) (L : Addr) (nm : List Str) (vf vs : Value) (la qa rd ld0 : Addr) (ds : List Addr) (s : DSt) (h' : Heap) : Prop where
  fr : ∃ ld v7 v8 v9 v10 v11, MF hb nm L [some vf, some vs, none, some (.ref la), some (.ref qa), some (.ref rd), some (.ref ld), v7, v8, v9, v10, v11] h' ∧ DA z h' ld s.left ∧ ld ∉ ds ∧ ld ≠ rd ∧ ld ≠ L ∧ hb.get? ld = none ∧ (ld = ld0 ∨ h3.get? ld = none)
  kp : Keep (fun a => a = L ∨ a ∈ ds ∨ a = rd ∨ a = ld0) h3 h'
  tk : TK h3 h'
  qs : PolysAt z h' ds s.qs
  rs : DA z h' rd s.rest

theorem mvdivide_W {fa sa : Addr} {f : Poly} {ss : List Poly} {sds : List Addr} {o : Ord} {to : Tok} {m : Nat} {k : Nat} {Q : Value → Heap → Prop} (G : GL z h) (r : Rm A (k + 10)) (hf : DA z h fa f) (hl : h.IsList sa ((sds.map Value.ref).toArray)) (hss : PolysAt z h sds ss)
    (hso : ∀ S ∈ ss, SOk m S) (hm : 1 ≤ m) (hm2 : m ≤ 100) (hn : ss.length ≤ 100) (Inv : DSt → Prop) (mu : DSt → Nat) (h0 : Inv ⟨List.replicate ss.length [], [], f⟩) (hstep : ∀ s, Inv s → s.left ≠ [] → Inv (dstep o ss s) ∧ mu (dstep o ss s) < mu s) (hok : ∀ s, Inv s → DOk m ss.length s)
    (q : ∀ h' t qa rd ds s, Ext h h' → Inv s → s.left = [] → IsTup h' t #[.ref qa, .ref rd] → h'.IsList qa ((ds.map Value.ref).toArray) → PolysAt z h' ds s.qs → DA z h' rd s.rest → (∀ a, a = qa ∨ a = rd ∨ a ∈ ds → h.get? a = none) → Q (.ref t) h') : W z A (call (.ref 177) [.ref fa, .ref sa, .str o.name to]) h Q := by
  refine W.defC 29 nm_mvdivide [true, true, false] G r (lk_mvdivide _) (cd_mvdivide _) (by kernel_rfl!) rfl (by kernel_rfl!) fun L hb₀ h₁ e0 F R cells => ?_
  have Gb := G.ext e0
  have G' := Gb.ext F.keep
  have r' := R.r
  have hc : hb₀.IsCell (L + 1) (some (.str o.name to)) := cells (Str.ofString "order") _ _ (by kernel_rfl!) (by kernel_rfl!)
  have h100 : (1000 : Nat) ≤ sizeLine := by decide
  have hfb := hf.ext e0
  have hlb : hb₀.IsList sa ((sds.map Value.ref).toArray) := isList_at hl fun o e => e0.get e
  have hssb := hss.ext e0
  have hlen : sds.length = ss.length := hss.1
  -- leads
  refine W.cons (W.asgLcomp (cl := [(Str.ofString "order", L + 1)]) (by kernel_rfl!) rfl (by decide +kernel) (W.nl F 1 (W.iterList (isList_at hlb fun o e => F.keep.get e) fun I hs es hI hit => ⟨I, rfl, ?_⟩)) (by kernel_rfl!))
  have hsaI : sa ≠ I := fun q => by obtain ⟨o, ho, _⟩ := hlb; have := F.keep.get ho; rw [q, hI] at this; cases this
  refine compLst r' (F.ext es) hit (isList_at hlb fun o e => es.get (F.keep.get e)) (none_of F.keep hI) (F.neL hI) hsaI (by simp; omega) (by kernel_rfl!)
    (fun i xs h => LeadsAt h xs ((ss.map (plead o)).take i)) (fun _ _ => ⟨by simp, fun i v q a b => by simp at a⟩) (fun _ _ _ _ j t => j.tk t) (fun C i xs h2 x hx FC FO tk j => ?_) (fun D C xs h' hD hC hDC hl' hm' FO hk tk j => ?_)
  · refine W.tests0 ?_
    rw [if_pos rfl]
    have G2 := Gb.ext FC.keep
    rw [List.getElem?_map] at hx
    cases hsd : sds[i]? with
    | none => rw [hsd] at hx; cases hx
    | some sd =>
      rw [hsd] at hx
      cases hx
      have hi : i < ss.length := by rw [← hlen]; exact (List.getElem?_eq_some_iff.mp hsd).1
      have hS : ss[i]? = some ss[i] := List.getElem?_eq_getElem hi
      have hd := (hssb.2 i sd _ hsd hS).ext FC.keep
      refine W.callN (W.ng G2 (.ref 165) (W.callW (lk_mvlead _) (W.sp (W.nl FC 0 (W.sp (W.nc (c := L + 1) (hc.keeps FC.keep.ks) (W.sp0 ⟨G2, mvlead_W (k := k) (m := m) G2 (r'.mono (by omega)) hd (hso _ (List.getElem_mem hi)).len hm hm2 fun h3 v3 e3 hv3 => ⟨e3, ?_⟩⟩) (by kernel_rfl!) (by kernel_rfl!)))))))
      have jl : xs.length = i := by
        have := j.1
        simp at this; omega
      refine ⟨by simp [jl]; omega, fun i' v' q' a b => ?_⟩
      rw [List.getElem?_append] at a
      split at a
      · rename_i hlt
        refine ((j.2 i' v' q' a ?_).ext e3)
        rw [List.getElem?_take] at b ⊢
        rw [if_pos (by omega)] at b
        rw [if_pos (by omega)]
        exact b
      · rename_i hge
        have : i' = i := by
          have := (List.getElem?_eq_some_iff.mp a).1
          simp at this; omega
        subst this
        simp [jl] at a
        subst a
        rw [List.getElem?_take, if_pos (by omega), List.getElem?_map, hS] at b
        cases b
        exact hv3
  rw [List.take_of_length_le (by simp [hlen])] at j
  have hbD : hb₀.get? D = none := none_of (F.keep.trans es) hD
  have hbC : hb₀.get? C = none := none_of (F.keep.trans es) hC
  have hLC : L ≠ C := fun q => (F.ext es).neL hC q.symm
  have hDL : D ≠ L := (F.ext es).neL hD
  obtain ⟨mC, hmC⟩ := hm'
  refine W.store FO 3 fun h2 F2 s2 => ⟨⟨mC, hmC.at fun o e => (s2.2 _ (Ne.symm hLC)).trans e⟩, fun h3 s3 => ?_⟩
  have F3 := F2.comp s3 hbC hLC
  have hla3 : h3.IsList D xs.toArray := isList_at hl' fun o e => (s3.2 _ hDC).trans ((s2.2 _ hDL).trans e)
  have tk3 : TK h' h3 := (TK.same FO.ns s2).trans (TK.same (hmC.at fun o e => (s2.2 _ (Ne.symm hLC)).trans e) s3)
  have hleads3 := j.tk tk3
  clear hk tk hit
  -- quotients
  refine W.cons (W.asgLcomp (cl := []) (by kernel_rfl!) rfl (by decide +kernel) (W.nl F3 1 (W.iterList (isList_at hlb fun o e => F3.keep.get e) fun I4 hs4 es4 hI4 hit4 => ⟨I4, rfl, ?_⟩)) (by kernel_rfl!))
  have hsaI4 : sa ≠ I4 := fun q => by obtain ⟨o, ho, _⟩ := hlb; have := F3.keep.get ho; rw [q, hI4] at this; cases this
  refine compNewDicts r' Gb (F3.ext es4) hit4 (isList_at hlb fun o e => es4.get (F3.keep.get e)) (none_of F3.keep hI4) (F3.neL hI4) hsaI4 (by simp; omega) (by kernel_rfl!) (fun D5 C5 ds h5 hD5 hC5 hDC5 hl5 hm5 FO5 hk5 tk5 hdl hdn hdd => ?_)
  have hbD5 : hb₀.get? D5 = none := none_of (F3.keep.trans es4) hD5
  have hbC5 : hb₀.get? C5 = none := none_of (F3.keep.trans es4) hC5
  have hLC5 : L ≠ C5 := fun q => (F3.ext es4).neL hC5 q.symm
  have hDL5 : D5 ≠ L := (F3.ext es4).neL hD5
  have hDD5 : D ≠ D5 := fun q => by obtain ⟨o, ho, _⟩ := hla3; have := es4.get ho; rw [q, hD5] at this; cases this
  have hDC5' : D ≠ C5 := fun q => by obtain ⟨o, ho, _⟩ := hla3; have := es4.get ho; rw [q, hC5] at this; cases this
  have hDI4 : D ≠ I4 := fun q => by obtain ⟨o, ho, _⟩ := hla3; rw [q, hI4] at ho; cases ho
  obtain ⟨mC5, hmC5⟩ := hm5
  refine W.store FO5 4 fun h6 F6 s6 => ⟨⟨mC5, hmC5.at fun o e => (s6.2 _ (Ne.symm hLC5)).trans e⟩, fun h7 s7 => ?_⟩
  have F7 := F6.comp s7 hbC5 hLC5
  have tk57 : TK h5 h7 := (TK.same FO5.ns s6).trans (TK.same (hmC5.at fun o e => (s6.2 _ (Ne.symm hLC5)).trans e) s7)
  have k57 : Keep (fun b => b = L ∨ b = C5) h5 h7 := fun b o hb e => (s7.2 b (fun q => hb (.inr q))).trans ((s6.2 b (fun q => hb (.inl q))).trans e)
  have hla7 : h7.IsList D xs.toArray := isList_at hla3 fun o e => k57 D o (by rintro (q | q); exact hDL q; exact hDC5' q) (hk5 D o hDI4 (es4.get e))
  have hqa7 : h7.IsList D5 ((ds.map Value.ref).toArray) := isList_at hl5 fun o e => k57 D5 o (by rintro (q | q); exact hDL5 q; exact hDC5 q) e
  have hleads7 : LeadsAt h7 xs (ss.map (plead o)) := (hleads3.tk ((TK.ext es4).trans tk5)).tk tk57
  have hdd7 : ∀ d ∈ ds, DA z h7 d [] ∧ hb₀.get? d = none ∧ d ≠ D5 ∧ d ≠ L := fun d hd => by
    obtain ⟨a1, a2, a3, a4, a5⟩ := hdd d hd
    exact ⟨a1.move tk57 fun o e => k57 d o (by rintro (q | q); exact a5 q; exact a4 q) e, a2, a3, a5⟩
  -- rest, left
  have G7 := Gb.ext F7.keep
  refine W.cons (W.asg2 (x := Str.ofString "rest") (y := Str.ofString "left") r' (W.tuple (W.sp (W.dict0 G7 fun rd h8 e8 hrd8 D8 => ?_))) (by kernel_rfl!))
  have F8 := F7.ext e8
  have G8 := G7.ext e8
  have okf := hok _ h0
  have len1 : ∀ {P : Poly}, tsz P ≤ 1000000 → P.length ≤ sizeLine := fun h => len_line (Nat.le_trans h (by decide))
  refine W.sp (W.callN (W.nb G8 boot_dict (W.callT (W.sp (W.nl F8 0 (W.sp0 (W.dictOf (m := m) G8 (hfb.ext F8.keep) okf.kb (len1 okf.tl) fun ld h9 e9 hld9 D9 => W.sp0 (W.newTup fun t10 h10 e10 T10 _ => ⟨_, _, _, rfl, T10, fun h11 e11 => ?_⟩))))))))
  have F11 := ((F8.ext e9).ext e10).ext e11
  refine W.store F11 6 fun h12 F12 s12 => W.store F12 5 fun h13 F13 s13 => ?_
  have e711 : Ext h7 h11 := Keep.trans (Keep.trans (Keep.trans e8 e9) e10) e11
  have tk713 : TK h7 h13 := ((TK.ext e711).trans (TK.same F11.ns s12)).trans (TK.same F12.ns s13)
  have k713 : Keep (fun b => b = L) h7 h13 := ((Ext.to e711).trans (Keep.same s12)).trans (Keep.same s13)
  have hrdL : rd ≠ L := F7.neL hrd8
  have hldL : ld ≠ L := F8.neL hld9
  have hldrd : ld ≠ rd := fun q => by obtain ⟨o, ho⟩ := D8.p.some; rw [← q, hld9] at ho; cases ho
  have Drd : DA z h13 rd [] := (((D8.ext (Keep.trans (Keep.trans e9 e10) e11)).same F11.ns s12 hrdL).same F12.ns s13 hrdL)
  have Dld : DA z h13 ld f := (((D9.ext (Keep.trans e10 e11)).same F11.ns s12 hldL).same F12.ns s13 hldL)
  have hld7 : h7.get? ld = none := none_of e8 hld9
  have hbrd : hb₀.get? rd = none := none_of F7.keep hrd8
  have hbld : hb₀.get? ld = none := none_of F7.keep hld7
  have hrds : rd ∉ ds := fun hm => by obtain ⟨o, ho⟩ := (hdd7 rd hm).1.p.some; rw [hrd8] at ho; cases ho
  have hlds : ld ∉ ds := fun hm => by obtain ⟨o, ho⟩ := (hdd7 ld hm).1.p.some; rw [hld7] at ho; cases ho
  have hla13 : h13.IsList D xs.toArray := isList_at hla7 fun o e => k713 D o hDL e
  have hqa13 : h13.IsList D5 ((ds.map Value.ref).toArray) := isList_at hqa7 fun o e => k713 D5 o hDL5 e
  have hleads13 := hleads7.tk tk713
  have hdd13 : ∀ d ∈ ds, DA z h13 d [] ∧ hb₀.get? d = none ∧ d ≠ L := fun d hd => by
    obtain ⟨a1, a2, a3, a4⟩ := hdd7 d hd
    exact ⟨a1.move tk713 fun o e => k713 d o a4 e, a2, a4⟩
  have hD13 : D ∉ ds ∧ D ≠ rd ∧ D ≠ ld := by
    obtain ⟨o, ho, hcl, _⟩ := hla7
    refine ⟨fun hm => ?_, fun q => ?_, fun q => ?_⟩
    · obtain ⟨xs', ⟨o', _, _, ho', hc', _⟩, _⟩ := (hdd7 D hm).1.p
      rw [ho] at ho'; cases ho'; have := hc'.1; rw [hcl] at this; injection this with e; exact absurd e (by decide)
    · rw [q, hrd8] at ho; cases ho
    · rw [q, hld7] at ho; cases ho
  have hQ13 : D5 ∉ ds ∧ D5 ≠ rd ∧ D5 ≠ ld := by
    obtain ⟨o, ho, hcl, _⟩ := hqa7
    refine ⟨fun hm => (hdd7 D5 hm).2.2.1 rfl, fun q => ?_, fun q => ?_⟩
    · rw [q, hrd8] at ho; cases ho
    · rw [q, hld7] at ho; cases ho
  have hdsl : ds.length = ss.length := by rw [hdl]; simp [hlen]
  clear k713 tk713 k57 tk57 hk5 tk5 tk3
  have exOf : ∀ h', Keep (fun a => a = L ∨ a ∈ ds ∨ a = rd ∨ a = ld) h13 h' → Ext hb₀ h' := fun h' kk b ob _ e => kk b ob (by
    rintro (q | q | q | q)
    · have f : hb₀.get? L = none := F13.fresh
      rw [q, f] at e; cases e
    · rw [(hdd13 b q).2.1] at e; cases e
    · rw [q, hbrd] at e; cases e
    · rw [q, hbld] at e; cases e) (F13.keep.get e)
  -- the loop
  refine W.cons (W.whl (fun n h' => ∃ s, Inv s ∧ n = mu s ∧ DInv z hb₀ h13 L nm_mvdivide (.ref fa) (.ref sa) D D5 rd ld ds s h') (fun n h' hI => ?_) _ ⟨_, h0, rfl, ⟨ld, none, none, none, none, none, F13, Dld, hlds, hldrd, hldL, hbld, .inl rfl⟩, Keep.refl _ _, TK.refl _, ⟨by simp [hdsl], fun i d P a b => ?_⟩, Drd⟩)
  rotate_left
  · have hP : P = [] := by
      rw [List.getElem?_replicate] at b
      split at b
      · exact (Option.some.inj b).symm
      · cases b
    subst hP
    exact (hdd13 d (List.mem_of_getElem? a)).1
  obtain ⟨s, hinv, rfl, ⟨lc, v7, v8, v9, v10, v11, FL, DL, hl1, hl2, hl3, hl4, hl5'⟩, kp, tk, hqs, hrs⟩ := hI
  have ok := hok s hinv
  have Gh := Gb.ext FL.keep
  refine W.tcmp (W.callN (W.nb Gh boot_len (W.callB (W.sp (W.nl FL 6 (W.sp0 (W.lenD DL (len1 ok.tl) fun t => ?_))))))) 
  refine W.cint fun _ => W.gtI (W.tb ?_)
  by_cases hz : s.left = []
  · rw [hz, if_neg (by simp)]
    refine W.nil (W.cons (W.ret (W.tuple (W.sp (W.nl FL 4 (W.sp (W.nl FL 5 (W.sp0 (W.newTup fun t1 h1' e1' T1 _ => ?_)))))))))
    refine q _ _ D5 rd ds s ((e0.trans FL.keep).trans e1') hinv hz T1 (isList_at hqa13 fun o e => e1'.get (kp D5 o (by
      rintro (q | q | q | q)
      · exact hDL5 q
      · exact hQ13.1 q
      · exact hQ13.2.1 q
      · exact hQ13.2.2 q) e)) (hqs.ext e1') (hrs.ext e1') (fun a ha => none_of e0 (by
      rcases ha with rfl | rfl | ha
      · exact hbD5
      · exact hbrd
      · exact (hdd13 a ha).2.1))
  rw [if_pos (by simpa using List.length_pos_iff.mpr hz)]
  obtain ⟨⟨ks, c⟩, hpl⟩ := plead_isSome (o := o) hz
  have hmem := plead_mem hpl
  have hKB : KB m ks := ok.kb _ hmem
  have lk : ks.length = m := hKB.len
  have hlook := look_of_mem DL.nodup hmem
  have hstp := hstep s hinv hz
  have hsl : sz c + 2 ≤ tsz s.left := tsz_look hlook
  have c0 : c ≠ 0 := ok.nz _ hmem
  have htl := ok.tl
  -- the lead of what is left
  refine W.cons (W.asgT (W.callN (W.ng Gh (.ref 165) (W.callW (lk_mvlead _) (W.sp (W.nl FL 6 (W.sp (W.nc (c := L + 1) (hc.keeps FL.keep.ks) (W.sp0 ⟨Gh, mvlead_W (k := k) (m := m) Gh (r'.mono (by omega)) DL (fun e he => (ok.kb e he).len) hm hm2 fun h14 v14 e14 hv14 => ?_⟩) (by kernel_rfl!) (by kernel_rfl!)))))))))
  rw [hpl] at hv14
  obtain ⟨ta, vk, vc, rfl, T14, hk14, hc14⟩ := hv14
  refine W.asgP r' T14 fun h15 e15 => W.asgN (W.store ((FL.ext e14).ext e15) 7 fun h16 F16 s16 => W.asgN (W.store F16 8 fun h17 F17 s17 => ?_))
  have tk17 : TK h15 h17 := (TK.same ((FL.ext e14).ext e15).ns s16).trans (TK.same F16.ns s17)
  have k17 : Keep (fun a => a = L) h' h17 := (Ext.to (Keep.trans e14 e15)).trans ((Keep.same s16).trans (Keep.same s17))
  have tkh17 : TK h' h17 := (TK.ext (Keep.trans e14 e15)).trans tk17
  have hk17 : KeyAt h17 vk ks := (hk14.ext e15).tk tk17
  have hc17 : RatAt h17 vc c := (hc14.ext e15).tk tk17
  have DL17 : DA z h17 lc s.left := DL.move tkh17 fun o e => k17 _ o hl3 e
  have hrs17 : DA z h17 rd s.rest := hrs.move tkh17 fun o e => k17 _ o hrdL e
  have hqs17 : PolysAt z h17 ds s.qs := hqs.move tkh17 fun d hd o e => k17 _ o (hdd13 d hd).2.2 e
  have kp17 : Keep (fun a => a = L ∨ a ∈ ds ∨ a = rd ∨ a = ld) h13 h17 := kp.trans (k17.weak fun a q => .inl q)
  have tkp17 : TK h13 h17 := tk.trans tkh17
  have G17 := Gb.ext F17.keep
  have ntm : ∀ a : Addr, a ≠ L → (a ∉ ds ∧ a ≠ rd ∧ a ≠ ld) → ¬ (a = L ∨ a ∈ ds ∨ a = rd ∨ a = ld) := fun a h1 h2 => by
    rintro (q | q | q | q)
    · exact h1 q
    · exact h2.1 q
    · exact h2.2.1 q
    · exact h2.2.2 q
  have hla17 : h17.IsList D xs.toArray := isList_at hla13 fun o e => kp17 D o (ntm D hDL hD13) e
  have hqa17 : h17.IsList D5 ((ds.map Value.ref).toArray) := isList_at hqa13 fun o e => kp17 D5 o (ntm D5 hDL5 hQ13) e
  have hL17 := hleads13.tk tkp17
  -- the first lead that divides
  have hlenl : ∀ e, some e ∈ ss.map (plead o) → e.1.length = ks.length := fun e he => by
    obtain ⟨S, hS, hpe⟩ := List.mem_map.mp he
    rw [lk]; exact (hso S hS).len _ (plead_mem hpe)
  refine W.cons (W.asg (W.callN (W.ng G17 (.ref 172) (W.callW (lk_first_divisor _) (W.sp (W.nl F17 7 (W.sp (W.nl F17 3 (W.sp0 ⟨G17, first_divisor_W (k := k) G17 (r'.mono (by omega)) hk17 hla17 hL17 hlenl (by omega) fun h18 t18 e18 => ?_⟩)))))))))
  refine W.store (F17.ext e18) 9 fun h19 F19 s19 => ?_
  have k19 : Keep (fun a => a = L) h17 h19 := (Ext.to e18).trans (Keep.same s19)
  have tk19 : TK h17 h19 := (TK.ext e18).trans (TK.same (F17.ext e18).ns s19)
  have hk19 := hk17.tk tk19
  have hc19 := hc17.tk tk19
  have DL19 : DA z h19 lc s.left := DL17.move tk19 fun o e => k19 _ o hl3 e
  have hrs19 : DA z h19 rd s.rest := hrs17.move tk19 fun o e => k19 _ o hrdL e
  have hqs19 : PolysAt z h19 ds s.qs := hqs17.move tk19 fun d hd o e => k19 _ o (hdd13 d hd).2.2 e
  have kp19 : Keep (fun a => a = L ∨ a ∈ ds ∨ a = rd ∨ a = ld) h13 h19 := kp17.trans (k19.weak fun a q => .inl q)
  have tkp19 : TK h13 h19 := tkp17.trans tk19
  have G19 := Gb.ext F19.keep
  refine W.cons (W.iff (W.tcmp (W.nl F19 9 (W.cint fun _ => W.ltI (W.tb ?_)))))
  have hlcD : lc = ld ∨ h13.get? lc = none := hl5'
  cases hpf : pfirst ks (ss.map (plead o)) with
  | none =>
    have hds : dstep o ss s = ⟨s.qs, pset s.rest ks c, pdel s.left ks⟩ := by unfold dstep; rw [hpl]; simp only [hpf]
    rw [hds] at hstp
    rw [if_pos (by simp [firstInt])]
    refine W.cons (W.asgSub (W.nl F19 8 (W.nl F19 5 (W.nl F19 7 (W.setD (k := 0) (r'.mono (by omega)) hk19 hrs19.p hc19 (len_line ok.tr) fun h20 p20 s20 t20 => ?_)))))
    have k20 : Keep (fun a => a = rd) h19 h20 := Keep.same s20
    have F20 := F19.keepD k20 (fun q => hrdL q.symm) (fun b hb => by rw [hb]; exact hbrd)
    have DL20 : DA z h20 lc s.left := DL19.move t20 fun o e => k20 _ o hl2 e
    refine W.cons (W.xpr (W.meth (W.nl F20 6 (W.getMD DL20.p (W.callB (first := [.ref lc]) (W.sp (W.nl F20 7 (W.sp0 (W.popD1 (k := 0) (r'.mono (by omega)) (hk19.tk t20) DL20.nm DL20.p (len1 ok.tl) hlook fun h21 v21 hv21 p21 s21 t21 => ?_)))))))))
    have k21 : Keep (fun a => a = lc) h20 h21 := Keep.same s21
    have F21 := F20.keepD k21 (fun q => hl3 q.symm) (fun b hb => by rw [hb]; exact hl4)
    refine W.cons (W.cont ⟨_, hstp.2, _, hstp.1, rfl, ⟨lc, _, _, _, _, _, F21, ⟨DL20.nm, p21⟩, hl1, hl2, hl3, hl4, hl5'⟩, ?_, (tkp19.trans t20).trans t21, ?_, ?_⟩)
    · intro a o' ha e
      refine k21 a o' (fun q => ?_) ((kp19.trans (k20.weak fun a q => .inr (.inr (.inl q)))) a o' ha e)
      rcases hlcD with q' | q'
      · exact ha (.inr (.inr (.inr (q.trans q'))))
      · rw [q, q'] at e; cases e
    · exact (hqs19.move t20 fun d hd o e => k20 _ o (fun q => hrds (q ▸ hd)) e).move t21 fun d hd o e => k21 _ o (fun q => hl1 (q ▸ hd)) e
    · exact (DA.move ⟨hrs19.nm, p20⟩ t21 fun o e => k21 _ o (fun q => hl2 q.symm) e)
  | some i =>
    rw [hpf] at F19
    have hneg : decide (firstInt (some i) < 0) = false := decide_eq_false (show ¬ ((i : Int) < 0) by omega)
    rw [hneg, if_neg (by decide)]
    obtain ⟨hi0, hdv, _⟩ := List.findIdx?_eq_some_iff_getElem.mp hpf
    have hi : i < ss.length := by simpa using hi0
    have hS : ss[i]? = some ss[i] := List.getElem?_eq_getElem hi
    have hSO := hso _ (List.getElem_mem hi)
    obtain ⟨⟨lks, lcc⟩, hpe⟩ : ∃ e, plead o ss[i] = some e := by
      rw [List.getElem_map] at hdv
      cases hq : plead o ss[i] with
      | none => rw [hq] at hdv; exact absurd hdv (by simp [divides])
      | some e => exact ⟨e, rfl⟩
    have hmeml := plead_mem hpe
    have lkl : lks.length = m := hSO.len _ hmeml
    have lnz : lcc ≠ 0 := hSO.nz _ hmeml
    have hix : i < xs.length := by rw [hleads13.1]; simpa using hi
    have hxi : xs[i]? = some xs[i] := List.getElem?_eq_getElem hix
    have hLi := (hL17.tk tk19).2 i _ _ hxi (by rw [List.getElem?_map, hS]; rfl)
    rw [hpe] at hLi
    obtain ⟨tl, vlk, vlc, exi, Tl, hlk0, hlc0⟩ := hLi
    have hlk : KeyAt h19 vlk lks := hlk0
    have hlc : RatAt h19 vlc lcc := hlc0
    have hla19 : h19.IsList D xs.toArray := isList_at hla17 fun o e => k19 D o hDL e
    have hqa19 : h19.IsList D5 ((ds.map Value.ref).toArray) := isList_at hqa17 fun o e => k19 D5 o hDL5 e
    have slc : sz lcc + 2 ≤ tsz ss[i] := by
      have : ∀ (P : Poly) (e : List Int × Rat), e ∈ P → sz e.2 + 2 ≤ tsz P := by
        intro P
        induction P with
        | nil => intro e h; simp at h
        | cons f P ih =>
          intro e h
          rw [tsz_cons]
          rcases List.mem_cons.mp h with rfl | h
          · omega
          · have := ih e h; omega
      exact this _ _ hmeml
    have sts := hSO.ts
    have hL27 : LIM = 33554432 := rfl
    have sfac := sz_div c lcc
    have x62 : xs.length < 2 ^ 62 := by rw [hleads13.1]; simp; omega
    refine W.nil (W.cons (W.asg2 (x := Str.ofString "shift") (y := Str.ofString "factor") r' (W.tuple (W.sp ?_)) (by kernel_rfl!)))
    refine W.callN (W.ng G19 (.ref 56) (W.callW (lk_powers_quotient _) (W.sp (W.nl F19 7 (W.sp (W.sub (W.sub (W.nl F19 3 (W.nl F19 9 (W.lstV hla19 (hxi.trans (by rw [exi])) x62 (W.cint fun _ => W.tup0 Tl (W.sp0 ⟨G19, powers_quotient_W (k := k) G19 (r'.mono (by omega)) hk19 hlk (by omega) (by omega) fun h20 v20 e20 hv20 => ?_⟩))))))))))))
    have F20 := F19.ext e20
    have G20 := G19.ext e20
    refine W.sp (W.callN (W.ng G20 (.ref 92) (W.callW (lk_rdiv _) (W.sp (W.nl F20 8 (W.sp (W.sub (W.sub (W.nl F20 3 (W.nl F20 9 (W.lstV (isList_at hla19 fun o e => e20.get e) (hxi.trans (by rw [exi])) x62 (W.cint fun _ => W.tup1 (IsTup.ext Tl e20) (W.sp0 ⟨G20, rdiv_W (k := k) G20 (r'.mono (by omega)) (hc19.ext e20) (hlc.ext e20) (by omega) lnz fun h21 v21 e21 hv21 => ?_⟩)))))))))))))
    refine W.sp0 (W.newTup fun t22 h22 e22 T22 _ => ⟨_, _, _, rfl, T22, fun h23 e23 => ?_⟩)
    have F23 := ((F20.ext e21).ext e22).ext e23
    refine W.store F23 11 fun h24 F24 s24 => W.store F24 10 fun h25 F25 s25 => ?_
    have e1923 : Ext h19 h23 := Keep.trans (Keep.trans (Keep.trans e20 e21) e22) e23
    have tk25 : TK h19 h25 := ((TK.ext e1923).trans (TK.same F23.ns s24)).trans (TK.same F24.ns s25)
    have tk2325 : TK h23 h25 := (TK.same F23.ns s24).trans (TK.same F24.ns s25)
    have k25 : Keep (fun a => a = L) h19 h25 := (Ext.to e1923).trans ((Keep.same s24).trans (Keep.same s25))
    have hsh25 : KeyAt h25 v20 (ksub ks lks) := (hv20.ext (Keep.trans (Keep.trans e21 e22) e23)).tk tk2325
    have hfa25 : RatAt h25 v21 (c / lcc) := (hv21.ext (Keep.trans e22 e23)).tk tk2325
    have DL25 : DA z h25 lc s.left := DL19.move tk25 fun o e => k25 _ o hl3 e
    have hrs25 : DA z h25 rd s.rest := hrs19.move tk25 fun o e => k25 _ o hrdL e
    have hqs25 : PolysAt z h25 ds s.qs := hqs19.move tk25 fun d hd o e => k25 _ o (hdd13 d hd).2.2 e
    have kp25 : Keep (fun a => a = L ∨ a ∈ ds ∨ a = rd ∨ a = ld) h13 h25 := kp19.trans (k25.weak fun a q => .inl q)
    have hqa25 : h25.IsList D5 ((ds.map Value.ref).toArray) := isList_at hqa19 fun o e => k25 D5 o hDL5 e
    have G25 := Gb.ext F25.keep
    -- the quotient grows
    have hdi : i < ds.length := by omega
    have hdsi : ds[i]? = some ds[i] := List.getElem?_eq_getElem hdi
    have hdm := List.getElem_mem hdi
    have hqi : i < s.qs.length := by rw [ok.lq]; exact hi
    have hqsi : s.qs[i]? = some s.qs[i] := List.getElem?_eq_getElem hqi
    have Dq := hqs25.2 i _ _ hdsi hqsi
    have tqi := ok.tq _ (List.getElem_mem hqi)
    have lsh : (ksub ks lks).length = m := by simp [ksub, lk, lkl]
    refine W.cons (W.xpr (W.callN (W.ng G25 (.ref 127) (W.callW (lk_add_term _) (W.sp (W.sub (W.nl F25 4 (W.nl F25 9 (W.lstV hqa25 (x := .ref ds[i]) (by rw [List.getElem?_map, hdsi]; rfl) (by simp; omega) (W.sp (W.nl F25 10 (W.sp (W.nl F25 11 (W.sp0 ⟨G25, add_term_W (k := k) (hb := hb₀) Gb F25.keep (hdd13 _ hdm).2.1 (r'.mono (by omega)) Dq hsh25 hfa25 (by omega) fun h26 k26 t26 D26 => ?_⟩))))))))))))))
    have F26 := F25.keepD k26 (fun q => (hdd13 _ hdm).2.2 q.symm) (fun b hb => by rw [hb]; exact (hdd13 _ hdm).2.1)
    have hqs26 := set_poly hqs25 hdsi hdn t26 k26 D26
    have DL26 : DA z h26 lc s.left := DL25.move t26 fun o e => k26 _ o (fun q => hl1 (q ▸ hdm)) e
    have hrs26 : DA z h26 rd s.rest := hrs25.move t26 fun o e => k26 _ o (fun q => hrds (q ▸ hdm)) e
    have kp26 : Keep (fun a => a = L ∨ a ∈ ds ∨ a = rd ∨ a = ld) h13 h26 := kp25.trans (k26.weak fun a q => .inr (.inl (q ▸ hdm)))
    have G26 := Gb.ext F26.keep
    -- what is left shrinks
    have hsdi : i < sds.length := by omega
    have hsds : sds[i]? = some sds[i] := List.getElem?_eq_getElem hsdi
    have Dsi := (hssb.2 i _ _ hsds hS).ext F26.keep
    refine W.cons (W.asg (W.callN (W.ng G26 (.ref 139) (W.callW (lk_mvsub _) (W.sp (W.nl F26 6 (W.sp (W.callN (W.ng G26 (.ref 144) (W.callW (lk_mvshift _) (W.sp (W.sub (W.nl F26 1 (W.nl F26 9 (W.lstV (isList_at hlb fun o e => F26.keep.get e) (x := .ref sds[i]) (by rw [List.getElem?_map, hsds]; rfl) (by simp; omega) (W.sp (W.nl F26 10 (W.sp (W.nl F26 11 (W.sp0 ⟨G26, mvshift_W (k := k) G26 (r'.mono (by omega)) Dsi (hsh25.tk t26) (hfa25.tk t26) (by omega) (fun e he => by rw [lsh]; exact hSO.len e he) (by omega) fun d27 h27 e27 hd27 D27 => ?_⟩))))))))))))))))))))
    have spsh := tsz_pshift ss[i] (ksub ks lks) (c / lcc)
    have sl2 : ss[i].length * sz (c / lcc) ≤ 2 * sz (c / lcc) := Nat.mul_le_mul_right _ hSO.two
    have F27 := F26.ext e27
    refine W.sp0 ⟨G26.ext e27, mvsub_W (k := k) (m := m) (G26.ext e27) (r'.mono (by omega)) (DL26.ext e27) D27 ok.kb (by omega) fun d28 h28 e28 hd28 D28 => ?_⟩
    refine W.store (F27.ext e28) 6 fun h29 F29 s29 => W.nil ?_
    have e2628 : Ext h26 h28 := Keep.trans e27 e28
    have tk29 : TK h26 h29 := (TK.ext e2628).trans (TK.same (F27.ext e28).ns s29)
    have k29 : Keep (fun a => a = L) h26 h29 := (Ext.to e2628).trans (Keep.same s29)
    have hd26 : h26.get? d28 = none := none_of e27 hd28
    have nL : d28 ≠ L := F27.neL hd28
    have nds : d28 ∉ ds := fun hm => by
      obtain ⟨j, hj⟩ := List.mem_iff_getElem?.mp hm
      have hjl : j < s.qs.length := by rw [ok.lq, ← hdsl]; exact (List.getElem?_eq_some_iff.mp hj).1
      obtain ⟨oo, hoo⟩ := (hqs25.2 j _ _ hj (List.getElem?_eq_getElem hjl)).p.some
      have hjl2 : j < (s.qs.set i (paddT s.qs[i] (ksub ks lks) (c / lcc))).length := by rw [List.length_set]; exact hjl
      obtain ⟨oo', hoo'⟩ := (hqs26.2 j _ _ hj (List.getElem?_eq_getElem hjl2)).p.some
      rw [hd26] at hoo'; cases hoo'
    have nrd : d28 ≠ rd := fun q => by obtain ⟨oo, hoo⟩ := hrs26.p.some; rw [← q, hd26] at hoo; cases hoo
    have hds : dstep o ss s = ⟨s.qs.set i (paddT s.qs[i] (ksub ks lks) (c / lcc)), s.rest, psub s.left (pshift ss[i] (ksub ks lks) (c / lcc))⟩ := by
      have g1 : ss.getD i [] = ss[i] := by rw [List.getD_eq_getElem?_getD, hS]; rfl
      have g2 : s.qs.getD i [] = s.qs[i] := by rw [List.getD_eq_getElem?_getD, hqsi]; rfl
      unfold dstep; rw [hpl]; simp only [hpf, leadOf, g1, g2, hpe, Option.getD_some]
    rw [hds] at hstp
    refine ⟨_, hstp.2, _, hstp.1, rfl, ⟨d28, _, _, _, _, _, F29, D28.same (F27.ext e28).ns s29 nL, nds, nrd, nL, none_of F26.keep hd26, ?_⟩, kp26.trans (k29.weak fun a q => .inl q), ((tkp19.trans tk25).trans t26).trans tk29, hqs26.move tk29 fun d hd o e => k29 _ o (hdd13 d hd).2.2 e, hrs26.move tk29 fun o e => k29 _ o hrdL e⟩
    by_cases hq : d28 = ld
    · exact .inl hq
    · right
      cases hg : h13.get? d28 with
      | none => rfl
      | some oo =>
        have := kp26 d28 oo (ntm d28 nL ⟨nds, nrd, hq⟩) hg
        rw [hd26] at this; cases this
end
end NN
end

section
open PySem PySem.W PyProof.Rows
set_option linter.unusedVariables false
set_option linter.unusedSimpArgs false
namespace NN
set_option maxRecDepth 100000

section
variable {z : Z} {A : Around} {h : Heap}
theorem mvexact_W {fa ba : Addr} {f B : Poly} {m : Nat} {k : Nat} {Q : Value → Heap → Prop} (G : GL z h) (r : Rm A (k + 11)) (hf : DA z h fa f) (hb : DA z h ba B)
    (hso : SOk m B) (hm : 1 ≤ m) (hm2 : m ≤ 100) (Inv : DSt → Prop) (mu : DSt → Nat) (hI : B ≠ [] → Inv ⟨[[]], [], f⟩ ∧ (∀ s, Inv s → s.left ≠ [] → Inv (dstep .lex [B] s) ∧ mu (dstep .lex [B] s) < mu s) ∧ (∀ s, Inv s → DOk m 1 s))
    (q0 : B = [] → ∀ h', Ext h h' → Q .none h') (q : ∀ h' s, Ext h h' → B ≠ [] → Inv s → s.left = [] → (s.rest ≠ [] → Q .none h') ∧ (s.rest = [] → ∀ d, DA z h' d (s.qs.getD 0 []) → h.get? d = none → Q (.ref d) h')) :
    W z A (call (.ref 184) [.ref fa, .ref ba]) h Q := by
  refine W.def 30 nm_mvexact G r (lk_mvexact _) (cd_mvexact _) (by kernel_rfl!) (by kernel_rfl!) fun L h₁ F R' => ?_
  have G' := G.ext F.keep
  have r' := R'.r
  have lB : B.length ≤ sizeLine := len_line (Nat.le_trans hso.ts (by decide))
  refine W.cons (W.iff (W.tcmp (W.callN (W.nb G' boot_len (W.callB (W.sp (W.nl F 1 (W.sp0 (W.lenD (hb.ext F.keep) lB fun t => W.cint fun _ => W.eqI (W.tb ?_))))))))))
  by_cases hB : B = []
  · rw [if_pos (by rw [hB]; rfl)]
    exact W.cons (W.ret (W.cnone (q0 hB _ F.keep)))
  rw [if_neg (by have := List.length_pos_iff.mpr hB; simp; omega)]
  obtain ⟨i0, istep, iok⟩ := hI hB
  refine W.nil (W.cons (W.asgT (W.callN (W.ng G' (.ref 177) (W.callW (lk_mvdivide _) (W.sp (W.nl F 0 (W.sp (W.list (W.sp (W.nl F 1 (W.sp0 (W.newLst fun la h2 e2 hl2 hla => ?_)))))))))))))
  have F2 := F.ext e2
  have G2 := G'.ext e2
  refine W.sp (W.cstr fun to => W.sp0 ⟨G2, mvdivide_W (k := k) (o := .lex) (ss := [B]) (sds := [ba]) (m := m) G2 (r'.mono (by omega)) (hf.ext F2.keep) hl2 ⟨rfl, fun i d P a b => ?_⟩ (fun S hS => by rw [List.mem_singleton.mp hS]; exact hso) hm hm2 (by simp) Inv mu i0 istep iok fun h3 t qa rd ds s e3 hinv hleft T3 hq3 hds hrd hfr => ?_⟩)
  · cases i with
    | zero => simp at a b; subst a b; exact hb.ext F2.keep
    | succ i => simp at a
  have F3 := F2.ext e3
  refine W.asgP r' T3 fun h4 e4 => W.asgN (W.store (F3.ext e4) 2 fun h5 F5 s5 => W.asgN (W.store F5 3 fun h6 F6 s6 => ?_))
  have tk6 : TK h3 h6 := ((TK.ext e4).trans (TK.same (F3.ext e4).ns s5)).trans (TK.same F5.ns s6)
  have k6 : Keep (fun a => a = L) h3 h6 := (Ext.to e4).trans ((Keep.same s5).trans (Keep.same s6))
  have e26 : Ext h h6 := F6.keep
  have ok := iok s hinv
  have lr : s.rest.length ≤ sizeLine := len_line ok.tr
  have nL : ∀ a, a = qa ∨ a = rd ∨ a ∈ ds → a ≠ L := fun a ha => F2.neL (hfr a ha)
  have hrd6 : DA z h6 rd s.rest := hrd.move tk6 fun o e => k6 _ o (nL rd (.inr (.inl rfl))) e
  have hq6 : h6.IsList qa ((ds.map Value.ref).toArray) := isList_at hq3 fun o e => k6 _ o (nL qa (.inl rfl)) e
  have hds6 : PolysAt z h6 ds s.qs := hds.move tk6 fun d hd o e => k6 _ o (nL d (.inr (.inr hd))) e
  have G6 := G.ext F6.keep
  obtain ⟨qn, qs'⟩ := q h6 s F6.keep hB hinv hleft
  refine W.cons (W.ret (W.ifx (W.tcmp (W.callN (W.nb G6 boot_len (W.callB (W.sp (W.nl F6 3 (W.sp0 (W.lenD hrd6 lr fun t => W.cint fun _ => W.eqI (W.tb ?_)))))))))))
  by_cases hr : s.rest = []
  · rw [if_pos (by rw [hr]; rfl)]
    have hlq : s.qs.length = 1 := ok.lq
    have hld : ds.length = 1 := hds.1.trans hlq
    have h0d : 0 < ds.length := by omega
    have h0q : 0 < s.qs.length := by omega
    have e0 : ds[0]? = some ds[0] := List.getElem?_eq_getElem h0d
    have e1 : s.qs[0]? = some s.qs[0] := List.getElem?_eq_getElem h0q
    refine W.sub (W.nl F6 2 (W.cint fun _ => W.lstV (j := 0) hq6 (x := .ref ds[0]) (by rw [List.getElem?_map, e0]; rfl) (by simp; omega) ?_))
    refine qs' hr ds[0] ?_ (none_of F2.keep (hfr _ (.inr (.inr (List.getElem_mem h0d)))))
    rw [List.getD_eq_getElem?_getD, e1]
    exact hds6.2 0 _ _ e0 e1
  · rw [if_neg (by have := List.length_pos_iff.mpr hr; simp; omega)]
    exact W.cnone (qn hr)
end
end NN
end

section
open PySem PySem.W PyProof.Rows
set_option linter.unusedVariables false
set_option linter.unusedSimpArgs false
namespace NN
set_option maxRecDepth 100000

/-! ## the box of draws -/
noncomputable def LRaw (h : Heap) (l : Addr) (vs : List Value) : Prop := ∃ n, h.get? l = some { cls := .type "list", dict := none, data := .seq vs.toArray n, slots := #[] }
theorem LRaw.isList {h : Heap} {l : Addr} {vs : List Value} (x : LRaw h l vs) : h.IsList l vs.toArray := let ⟨n, ho⟩ := x; ⟨_, ho, rfl, n, rfl⟩
theorem LRaw.at {h h' : Heap} {l : Addr} {vs : List Value} (x : LRaw h l vs) (e : ∀ o, h.get? l = some o → h'.get? l = some o) : LRaw h' l vs := let ⟨n, ho⟩ := x; ⟨n, e _ ho⟩
structure BoxAt (h : Heap) (b l : Addr) : Prop where
  bl : ∃ st t, h.IsList b #[.ref l, .int st t] ∧ 0 ≤ st ∧ st < 2147483647
  ll : ∃ vs ns, LRaw h l vs ∧ IntsAre vs ns ∧ vs.length ≤ 100
  ne : b ≠ l
theorem BoxAt.at {h h' : Heap} {b l : Addr} (x : BoxAt h b l) (e1 : ∀ o, h.get? b = some o → h'.get? b = some o) (e2 : ∀ o, h.get? l = some o → h'.get? l = some o) : BoxAt h' b l := by
  obtain ⟨⟨st, t, hb, h0, h1⟩, ⟨vs, ns, hl, hi, hn⟩, ne⟩ := x
  exact ⟨⟨st, t, isList_at hb e1, h0, h1⟩, ⟨vs, ns, hl.at e2, hi, hn⟩, ne⟩
theorem BoxAt.ext {h h' : Heap} {b l : Addr} (x : BoxAt h b l) (e : Ext h h') : BoxAt h' b l := x.at (fun o ho => e.get ho) (fun o ho => e.get ho)
theorem BoxAt.notTup {h : Heap} {b l : Addr} (x : BoxAt h b l) : ∀ a, (a = b ∨ a = l) → ∀ ys, ¬ IsTup h a ys := by
  obtain ⟨⟨st, t, hb, h0, h1⟩, ⟨vs, ns, hl, hi, hn⟩, ne⟩ := x
  rintro a (rfl | rfl)
  · exact not_tup_list hb
  · exact not_tup_list hl.isList
theorem BoxAt.some {h : Heap} {b l : Addr} (x : BoxAt h b l) : ∀ a, (a = b ∨ a = l) → ∃ o, h.get? a = Option.some o := by
  obtain ⟨⟨st, t, ⟨o1, hb, _⟩, h0, h1⟩, ⟨vs, ns, ⟨n, hl⟩, hi, hn⟩, ne⟩ := x
  rintro a (rfl | rfl)
  · exact ⟨o1, hb⟩
  · exact ⟨_, hl⟩

section
variable {z : Z} {A : Around} {h hb : Heap} {env : Env} {k : Nat}
theorem W.newLstR {xs : List Value} {Q : Value → Heap → Prop} (q : ∀ a h', Ext h h' → LRaw h' a xs → h.get? a = none → Q (.ref a) h') (hsz : xs.length ≤ sizeLine := by size_fits) : W z A (newList xs) h Q := fun n =>
  wpAny_newObj_type (W.ok (n := n) (q _ _ (Ext.push h _) ⟨0, Heap.get?_push_size _ rfl⟩ (fresh_size h))) (by show xs.toArray.size ≤ sizeLine; rw [List.size_toArray]; exact hsz)
theorem W.pop0 {l : Addr} {v : Value} {vs : List Value} {t : Tok} {Q : Value → Heap → Prop} (hl : LRaw h l (v :: vs)) (hs : (v :: vs).length ≤ sizeLine) (q : ∀ h', LRaw h' l vs → Heap.SameBut l h h' → Q v h') : W z A (call (.builtin "list.pop") [.ref l, .int 0 t]) h Q := fun n => by
  obtain ⟨m, ho⟩ := hl
  refine call_meets PySem.F.slot_list_pop ⟨_, ho, rfl⟩ PySem.F.entry_list_pop (PySem.F.args_list_pop_2 _ _) (PySem.MeetsSeq.list_pop_at l _ m 0 t 0 v (by decide) (by unfold seqIndex?; simp) (by simp) (by simpa using hs)) ⟨ho, ?_⟩
  refine W.ok (z := z) (n := n) (q _ ⟨m + 1, ?_⟩ (Heap.SameBut.update ..))
  rw [Heap.get?_update_self _ ho rfl]
  simp [Obj.mapSeq]
theorem W.setL {l : Addr} {items : List Value} {j : Nat} {t : Tok} {v : Value} {Q : Unit → Heap → Prop} (hl : h.IsList l items.toArray) (hj : j < items.length) (hj2 : j < 2 ^ 62) (q : ∀ h', h'.IsList l (items.set j v).toArray → Heap.SameBut l h h' → Q () h') : W z A (setItem (.ref l) (.int (j : Int) t) v) h Q := fun n =>
  wpAny_setItem_list (s := at_ z h n) hl (by omega) (by omega) (by simpa using hj) fun h' hl' hs => W.ok (q h' (by simpa using hl') hs)
theorem W.get0 {value slice : Expr} {t : Addr} {x y : Value} {u : Tok} {Q : Value → Heap → Prop} (ht : h.IsList t #[x, y]) (q : Q x h) (hs : subscripted slice false (.ref t) (.int 0 u) = operate [.ref t, .int 0 u] (getItem (.ref t) (.int 0 u)) := by rfl) :
    W z A (subscriptTail value slice (.ref t) (.int 0 u)) h Q := W.lstV (xs := [x, y]) (j := 0) ht rfl (by show 2 < 2 ^ 62; decide) q hs
theorem W.get1 {value slice : Expr} {t : Addr} {x y : Value} {u : Tok} {Q : Value → Heap → Prop} (ht : h.IsList t #[x, y]) (q : Q y h) (hs : subscripted slice false (.ref t) (.int 1 u) = operate [.ref t, .int 1 u] (getItem (.ref t) (.int 1 u)) := by rfl) :
    W z A (subscriptTail value slice (.ref t) (.int 1 u)) h Q := W.lstV (xs := [x, y]) (j := 1) ht rfl (by show 2 < 2 ^ 62; decide) q hs

theorem bl_small {n : Int} (h0 : 0 ≤ n) (h : n < 4294967296) : bl n ≤ 32 := by rw [bl_le]; omega

theorem law_take_W {b l : Addr} {wide : Nat} {t : Tok} {Q : Value → Heap → Prop} (G : GL z hb) (eb : Ext hb h) (hnb : hb.get? b = none) (hnl : hb.get? l = none) (r : Rm A (k + 2)) (B : BoxAt h b l) (hw : 0 < wide)
    (q : ∀ h' (v : Nat) t, Keep (fun a => a = b ∨ a = l) h h' → TK h h' → BoxAt h' b l → v < wide → Q (.int (v : Int) t) h') : W z A (call (.ref 191) [.ref b, .int (wide : Int) t]) h Q := by
  refine W.def 32 nm_law_take (G.ext eb) r (lk_law_take _) (cd_law_take _) (by kernel_rfl!) (by kernel_rfl!) fun L h₁ F R => ?_
  have G' := G.ext (eb.trans F.keep)
  have r' := R.r
  have hdL : ∀ a, (a = b ∨ a = l) → L ≠ a := fun a ha q => by obtain ⟨o, ho⟩ := B.some a ha; rw [← q, F.fresh] at ho; cases ho
  have hbn : ∀ a, (a = b ∨ a = l) → hb.get? a = none := by
    rintro a (rfl | rfl)
    · exact hnb
    · exact hnl
  obtain ⟨⟨st, ts, hbl, hst0, hst1⟩, ⟨vs, ns, hll, hi, hn⟩, ne⟩ := B.ext F.keep
  have F' := F.base eb
  have h100 : (100 : Nat) ≤ sizeLine := by decide
  have wz : (wide : Int) ≠ 0 := by omega
  have fm : ∀ x : Int, 0 ≤ x → ∃ v : Nat, x.fmod (wide : Int) = (v : Int) ∧ v < wide := fun x hx => by
    rw [Int.fmod_eq_emod_of_nonneg _ (by omega)]
    have h1 := Int.emod_nonneg x wz
    have h2 := Int.emod_lt_of_pos x (b := (wide : Int)) (by omega)
    exact ⟨(x % (wide : Int)).toNat, by omega, by omega⟩
  refine W.cons (W.iff (W.tcmp (W.callN (W.nb G' boot_len (W.callB (W.sp (W.sub (W.nl F 0 (W.cint fun _ => W.get0 hbl (W.sp0 (W.lenL hll.isList (by omega) fun t1 => W.cint fun _ => W.gtI (W.tb ?_)))))))))))) 
  cases hi with
  | nil =>
    rw [if_neg (by simp)]
    have b1 : bl st ≤ 32 := bl_small hst0 (by omega)
    have b2 : bl 48271 ≤ 32 := bl_small (by omega) (by omega)
    have hm0 : (0 : Int) ≤ st * 48271 + 17 := by omega
    refine W.nil (W.cons (W.asgSub (W.bin (W.bin (W.bin (W.sub (W.nl F 0 (W.cint fun _ => W.get1 hbl (W.cint fun _ => W.mul (mulOk (by omega)) fun t2 => W.cint fun _ => W.add fun t3 => W.cint fun _ => W.fmod (by decide) fun t4 => ?_)))))))))
    refine W.nl F 0 (W.cint fun t5 => W.setL (items := [.ref l, .int st ts]) (j := 1) hbl (by show 1 < 2; decide) (by decide) fun h2 hb2 s2 => ?_)
    have k2 : Keep (fun a => a = b) h₁ h2 := Keep.same s2
    have t2 : TK h₁ h2 := TK.keep k2 fun a ha => by rw [ha]; exact not_tup_list hbl
    have F2 := F'.keepD k2 (hdL b (.inl rfl)) (fun a ha => by rw [ha]; exact hnb)
    have G2 := G.ext F2.keep
    have hl2 : LRaw h2 l [] := hll.at fun o e => k2 _ o (fun q => ne q.symm) e
    have e1 : (st * 48271 + 17).fmod 2147483647 = (st * 48271 + 17) % 2147483647 := Int.fmod_eq_emod_of_nonneg _ (by omega)
    rw [e1] at hb2
    have m0 := Int.emod_nonneg (st * 48271 + 17) (b := 2147483647) (by decide)
    have m1 := Int.emod_lt_of_pos (st * 48271 + 17) (b := 2147483647) (by decide)
    generalize (st * 48271 + 17) % 2147483647 = st' at *
    obtain ⟨v, hv, hvw⟩ := fm (st'.fdiv 8) (Int.fdiv_nonneg m0 (by decide))
    refine W.cons (W.ret (W.bin (W.bin (W.sub (W.nl F2 0 (W.cint fun _ => W.get1 (x := .ref l) (y := .int st' t4) hb2 (W.cint fun _ => W.fdiv G2 R (by decide) fun t6 => W.nl F2 1 (W.fmod wz fun t7 => ?_))))))))
    rw [hv]
    exact q h2 v t7 (F.keep.to.trans (k2.weak fun a ha => .inl ha)) ((TK.ext F.keep).trans t2) ⟨⟨st', _, hb2, m0, m1⟩, ⟨[], [], hl2, .nil, by simp⟩, ne⟩ hvw
  | @cons x tx vs ns hi =>
    rw [if_pos (by simp)]
    refine W.cons (W.ret (W.bin (W.callN (W.nb G' boot_abs (W.callB (W.sp (W.meth (W.sub (W.nl F 0 (W.cint fun _ => W.get0 hbl (W.getML hll.isList (fun o ho => ?_) (W.callB (first := [.ref l]) (W.sp (W.cint fun t2 => W.sp0 (W.pop0 hll (by omega) fun h2 hl2 s2 => ?_)))))))))))))))
    · obtain ⟨n, hn⟩ := hll; rw [hn] at ho; cases ho; rfl
    have k2 : Keep (fun a => a = l) h₁ h2 := Keep.same s2
    have t2' : TK h₁ h2 := TK.keep k2 fun a ha => by rw [ha]; exact not_tup_list hll.isList
    have F2 := F'.keepD k2 (hdL l (.inr rfl)) (fun a ha => by rw [ha]; exact hnl)
    obtain ⟨v, hv, hvw⟩ := fm (if x < 0 then -x else x) (by split <;> omega)
    refine W.sp0 (W.absI fun t3 => W.nl F2 1 (W.fmod wz fun t4 => ?_))
    rw [hv]
    exact q h2 v t4 (F.keep.to.trans (k2.weak fun a ha => .inr ha)) ((TK.ext F.keep).trans t2') ⟨⟨st, ts, isList_at hbl fun o e => k2 _ o ne e, hst0, hst1⟩, ⟨vs, ns, hl2, hi, by simp at hn; omega⟩, ne⟩ hvw
end
end NN
end

section
open PySem PySem.W PyProof.Rows
set_option linter.unusedVariables false
set_option linter.unusedSimpArgs false
namespace NN
set_option maxRecDepth 100000

theorem boot_list : bootBuiltins "list" = some (.type "list") := by decide +kernel
theorem boot_range : bootBuiltins "range" = some (.type "range") := by decide +kernel

section
variable {z : Z} {A : Around} {h hb : Heap} {env : Env} {k : Nat}
theorem W.slice2 {up : Expr} {pos : Pos} {Q : Value → Heap → Prop} (q : W z A (eval up env) h (fun v h1 => ∀ a h2, Ext h1 h2 → h2.IsSliceOf a .none v .none → h1.get? a = none → Q (.ref a) h2)) : W z A (eval (.Slice none (some up) none pos) env) h Q := fun n => by
  show wpAny _ _ (do
    let l ← valueOrNone (evalOpt none env)
    let u ← PySem.holding [l] (valueOrNone (evalOpt (some up) env))
    let s ← PySem.holding [l, u] (valueOrNone (evalOpt none env))
    newFields "slice" [l, u, s]) _ _ _
  refine wpAny_bind (wpAny_pure (wpAny_bind (wpAny_holding ?_)))
  show wpAny _ _ (eval up env) _ _ _
  refine q.use n fun v h1 n1 q1 => wpAny_bind (wpAny_holding (wpAny_pure ?_))
  exact wpAny_newObj_type (W.ok (q1 _ _ (Ext.push h1 _) (Heap.IsSliceOf.new ..) (fresh_size h1)))
theorem W.lstUpto {value : Expr} {up : Expr} {p : Pos} {l sl : Addr} {xs : List Value} {b : Nat} {u : Tok} {Q : Value → Heap → Prop} (hl : h.IsList l xs.toArray) (hs : h.IsSliceOf sl .none (.int (b : Int) u) .none) (hsz : xs.length ≤ sizeLine)
    (q : ∀ a h', Ext h h' → LRaw h' a (xs.take b) → h.get? a = none → Q (.ref a) h') : W z A (subscriptTail value (.Slice none (some up) none p) (.ref l) (.ref sl)) h Q := fun n =>
  tail_any (s := at_ z h n) (ops := [.ref sl, .ref l]) hl.typeIs slot_list_getitem.lookup (wpAny_getItem_list_slice (s := at_ z h n) hl hs .none (.int _ u) .none (by simp) (W.ok (q _ _ (Ext.push h _) ⟨0, by
    rw [Heap.get?_push_size _ rfl, slicePick_upto']⟩ (fresh_size h))) (by simpa using hsz)) rfl
theorem W.listOf {l : Addr} {xs : List Value} {Q : Value → Heap → Prop} (hl : h.IsList l xs.toArray) (hs : xs.length ≤ sizeLine) (q : ∀ a h', Ext h h' → LRaw h' a xs → h.get? a = none → Q (.ref a) h') : W z A (call (.type "list") [.ref l]) h Q := fun n => by
  obtain ⟨o, ho, hc, m, hd⟩ := hl
  exact call_list_seq (s := at_ z h n) l (.inl rfl) ho hc hd (fun h' c' hk hg => W.ok (q _ h' (Ext.of hk) ⟨c', hg⟩ (fresh_size h))) (by simpa using hs)

theorem law_box_W {sa : Addr} {vs : List Value} {ns : List Int} {much : Nat} {t1 t2 : Tok} {Q : Value → Heap → Prop} (G : GL z h) (r : Rm A (k + 2)) (hl : h.IsList sa vs.toArray) (hi : IntsAre vs ns) (hn : vs.length ≤ 100)
    (q : ∀ h' b l, Ext h h' → h.get? b = none → h.get? l = none → BoxAt h' b l → Q (.ref b) h') : W z A (call (.ref 198) [.ref sa, .int (much : Int) t1, .int 7 t2]) h Q := by
  refine W.def 33 nm_law_box G r (lk_law_box _) (cd_law_box _) (by kernel_rfl!) (by kernel_rfl!) fun L h₁ F R => ?_
  have G' := G.ext F.keep
  have r' := R.r
  have h100 : (100 : Nat) ≤ sizeLine := by decide
  refine W.cons (W.asg (W.nl F 2 (W.store F 3 fun h2 F2 s2 => ?_)))
  refine W.cons (W.forS (W.sub (W.nl F2 0 (W.slice2 (W.nl F2 1 fun sl h3 e3 hsl _ => W.lstUpto (isList_at hl fun o e => e3.get (F2.keep.get e)) hsl (by omega) fun la h4 e4 hla hla0 => W.iterList hla.isList fun I hs es hI hit => ?_)))))
  have F4 := (F2.ext e3).ext e4
  have Fs := F4.ext es
  have hla0' := none_of (Keep.trans F2.keep e3) hla0
  have hlI : la ≠ I := fun q => by obtain ⟨n, ho⟩ := hla; rw [q, hI] at ho; cases ho
  have hIL : I ≠ L := F4.neL hI
  have hlaL : la ≠ L := (F2.ext e3).neL hla0
  have hIh : h.get? I = none := none_of F4.keep hI
  refine Loop.introT (turnsList r'.h I la hlI (vs.take much).toArray) (fun i h' => ∃ st t v4, MF h nm_law_box L [some (.ref sa), some (.int (much : Int) t1), some (.int 7 t2), some (.int st t), v4] h' ∧ 0 ≤ st ∧ st < 2147483647) ⟨hit, hla.isList.at fun o e => es.get e⟩ (fun i h' st b hb => ?_)
    ⟨7, _, _, Fs, by decide, by decide⟩ (fun i h5 h6 j kk tk => ?_) (fun i v h5 hlt hP j => ?_) (fun h' j => ?_)
  · rw [List.mem_singleton.mp hb]; exact not_tup_liter st.1
  · obtain ⟨st, t, v4, F5, a, b⟩ := j
    exact ⟨st, t, v4, F5.keepD kk (by simp [Ne.symm hIL]) (fun b hb => by rw [List.mem_singleton.mp hb]; exact hIh), a, b⟩
  · obtain ⟨st, t, v4, F5, a, b⟩ := j
    have hP' : (vs.take much)[i]? = some v := by simpa using hP
    obtain ⟨n1, t3, _, rfl⟩ := intsAre_get (hi.take much) hP'
    refine W.asgN (W.store F5 4 fun h6 F6 s6 => ?_)
    have b1 : bl st ≤ 32 := bl_small a (by omega)
    have b2 : bl 31 ≤ 32 := bl_small (by omega) (by omega)
    refine W.cons (W.asg (W.bin (W.bin (W.bin (W.nl F6 3 ?_)))))
    refine W.cint fun _ => W.mul (mulOk (by omega)) fun t4 => W.nl F6 4 ?_
    refine W.add fun t5 => W.cint fun _ => W.fmod (by decide) fun t6 => W.store F6 3 fun h7 F7 s7 => W.nil ?_
    have e1 : (st * 31 + n1).fmod 2147483647 = (st * 31 + n1) % 2147483647 := Int.fmod_eq_emod_of_nonneg _ (by omega)
    rw [e1] at F7
    refine ⟨⟨_, _, _, F7, Int.emod_nonneg _ (by decide), Int.emod_lt_of_pos _ (by decide)⟩, fun b hb o e => ?_⟩
    have hbL : b ≠ L := by
      simp only [List.mem_cons, List.not_mem_nil, or_false] at hb
      rcases hb with rfl | rfl
      · exact hIL
      · exact hlaL
    exact (s7.2 b hbL).trans ((s6.2 b hbL).trans e)
  · obtain ⟨st, t, v4, F5, a, b⟩ := j
    have G5 := G.ext F5.keep
    refine W.cons (W.ret (W.list (W.sp (W.callN (W.nb G5 boot_list (W.callT (W.sp (W.sub (W.nl F5 0 (W.slice2 (W.nl F5 1 ?_)))))))))))
    refine fun sl h6 e6 hsl _ => W.lstUpto (isList_at hl fun o e => e6.get (F5.keep.get e)) hsl (by omega) fun lb h7 e7 hlb hlb0 => W.sp0 (W.listOf hlb.isList (by rw [List.length_take]; omega) fun lc h8 e8 hlc hlc0 => ?_)
    have F8 := ((F5.ext e6).ext e7).ext e8
    refine W.sp (W.nl F8 3 (W.sp0 (W.newLst fun b h9 e9 hb9 hb90 => ?_)))
    have hlch : h.get? lc = none := none_of ((F5.ext e6).ext e7).keep hlc0
    refine q h9 b lc (Keep.trans F8.keep e9) (none_of F8.keep hb90) hlch ⟨⟨st, t, hb9, a, by omega⟩, ⟨_, _, hlc.at fun o e => e9.get e, hi.take much, by rw [List.length_take]; omega⟩, fun q => ?_⟩
    obtain ⟨n, ho⟩ := hlc
    rw [← q, hb90] at ho; cases ho
end
end NN
end

section
open PySem PySem.W PyProof.Rows
set_option linter.unusedVariables false
set_option linter.unusedSimpArgs false
namespace NN
set_option maxRecDepth 100000

theorem two_hidden {hb h0 : Heap} {b l : Addr} (e : Ext hb h0) (nb : hb.get? b = none) (nl : hb.get? l = none) : ∃ hB, Ext hb hB ∧ Ext hB h0 ∧ hB.get? b = none ∧ hB.get? l = none ∧ ∀ a o, a ≠ b → a ≠ l → h0.get? a = some o → hB.get? a = some o := by
  have h1 : ∀ a o, a ≠ b → a ≠ l → h0.get? a = some o → ((h0.hide b).hide l).get? a = some o := fun a o h1 h2 ho => by rw [Heap.hide_ne _ h2, Heap.hide_ne _ h1]; exact ho
  refine ⟨(h0.hide b).hide l, fun a o _ ho => h1 a o (fun q => ?_) (fun q => ?_) (e.get ho), fun a o _ ho => Heap.of_hide (Heap.of_hide ho), ?_, Heap.hide_self _ _, h1⟩
  · rw [q, nb] at ho; cases ho
  · rw [q, nl] at ho; cases ho
  · by_cases q : b = l
    · rw [q]; exact Heap.hide_self _ _
    · rw [Heap.hide_ne _ q]; exact Heap.hide_self _ _
theorem cell_not_box {h : Heap} {b l c : Addr} {v : Option Value} (B : BoxAt h b l) (hc : h.IsCell c v) : c ≠ b ∧ c ≠ l := by
  obtain ⟨⟨st, t, ⟨o1, hb, _, n1, hd1⟩, h0, h1⟩, ⟨vs, ns, ⟨n, hl⟩, hi, hn⟩, ne⟩ := B
  obtain ⟨o, ho, hd⟩ := hc
  refine ⟨fun q => ?_, fun q => ?_⟩
  · rw [q, hb] at ho; cases ho; rw [hd1] at hd; cases hd
  · rw [q, hl] at ho; cases ho; cases hd

section
variable {z : Z} {A : Around} {h hb : Heap} {env : Env} {k : Nat}
theorem W.cell {x : Str} {pos : Pos} {c : Addr} {v : Value} {env : Env} {Q : Value → Heap → Prop} (hv : h.IsCell c (some v)) (q : Q v h) (hc : env.cells.lookup x = some c := by kernel_rfl!)
    (hk : (env.scope.kind == .function && env.kindOf x == some .cell && !(x == ("__debug__" : Str))) = true := by kernel_rfl!) : W z A (eval (.Name x pos) env) h Q := W.nc hv q hc hk
theorem W.range1 {n : Int} {t : Tok} {Q : Value → Heap → Prop} (q : ∀ a h' t u v, Ext h h' → IsRange h' a 0 n 1 t u v → h.get? a = none → Q (.ref a) h') : W z A (call (.type "range") [.int n t]) h Q := fun m =>
  call_range_1 (s := at_ z h m) (W.ok (n := m + 1 + 1) (q _ _ _ _ _ (Ext.push h _) (Heap.get?_push_size _ rfl) (fresh_size h)))
theorem W.iterRange {a : Addr} {n : Nat} {t u v : Tok} {Q : Value → Heap → Prop} (hr : IsRange h a 0 (n : Int) 1 t u v) (hn : n < 2 ^ 60) (q : ∀ I h', Ext h h' → h.get? I = none → IsRangeIter h' I 0 (n : Int) 1 → Q (.ref I) h') : W z A (pyIter (.ref a)) h Q := fun m => by
  refine wpAny_pyIter_range (s := at_ z h m) hr (small_one (by omega) (by omega) (by omega) (by omega)) (W.ok (q _ _ (Ext.push h _) (fresh_size h) ?_))
  have e : Builtin.Range.rangeSize 0 (n : Int) 1 = (n : Int) := by rw [rangeSize_one]; split <;> omega
  rw [e]
  exact Heap.get?_push_size _ rfl
theorem turnsRange {x : Str} {p : Pos} (hh : A.handled = none) (I : Addr) (n : Nat) :
    Turns z A (.Name x p) I [I] [I] n (fun i v _ => ∃ t, v = .int (0 + (i : Int) * 1) t) (fun i v h => (∃ t, v = .int (0 + (i : Int) * 1) t) ∧ IsRangeIter h I (0 + ((i + 1 : Nat) : Int) * 1) ((n : Int) - ((i + 1 : Nat) : Int)) 1) (fun i h => IsRangeIter h I (0 + (i : Nat) * 1) ((n : Int) - (i : Nat)) 1) :=
  W.KTurns.ofWalks (Walks.range hh I 0 1 n) fun i v s Q E _ hQ => by rw [letOwned_name]; exact wpAny_pure hQ
theorem not_tup_riter {h : Heap} {I : Addr} {x n c : Int} (y : IsRangeIter h I x n c) : ∀ ys, ¬ IsTup h I ys := not_tup_cls y rfl (by decide)
theorem rangeIter0 {h : Heap} {I : Addr} {n : Nat} (y : IsRangeIter h I 0 (n : Int) 1) : IsRangeIter h I (0 + ((0 : Nat) : Int) * 1) ((n : Int) - ((0 : Nat) : Int)) 1 := by
  have e1 : (0 : Int) + ((0 : Nat) : Int) * 1 = 0 := by simp
  have e2 : (n : Int) - ((0 : Nat) : Int) = n := by simp
  rw [e1, e2]; exact y

structure PolyOk (n high most : Nat) (P : Poly) : Prop where
  len : ∀ e ∈ P, e.1.length = n
  bd : ∀ e ∈ P, ∀ x ∈ e.1, 0 ≤ x ∧ x < (high : Int)
  nz : ∀ e ∈ P, e.2 ≠ 0 ∧ sz e.2 ≤ 2
  few : P.length ≤ most
theorem PolyOk.nil (n high most : Nat) : PolyOk n high most [] := ⟨by simp, by simp, by simp, by simp⟩
theorem mem_pset {P : Poly} {k : List Int} {q : Rat} {e : List Int × Rat} (h : e ∈ pset P k q) : e = (k, q) ∨ e ∈ P := by
  unfold pset at h
  split at h
  · obtain ⟨f, hf, rfl⟩ := List.mem_map.mp h
    unfold pput
    split
    · rename_i hk; left; rw [hk]
    · exact .inr hf
  · rw [List.mem_append, List.mem_singleton] at h
    exact h.symm
theorem PolyOk.set {n high i : Nat} {P : Poly} (x : PolyOk n high i P) {k : List Int} {q : Rat} (h1 : k.length = n) (h2 : ∀ x ∈ k, 0 ≤ x ∧ x < (high : Int)) (h3 : q ≠ 0 ∧ sz q ≤ 2) : PolyOk n high (i + 1) (pset P k q) := by
  refine ⟨fun e he => ?_, fun e he => ?_, fun e he => ?_, ?_⟩
  · rcases mem_pset he with rfl | he
    · exact h1
    · exact x.len e he
  · rcases mem_pset he with rfl | he
    · exact h2
    · exact x.bd e he
  · rcases mem_pset he with rfl | he
    · exact h3
    · exact x.nz e he
  · have := len_pset P k q; have := x.few; omega
theorem sz_small : ∀ x : Int, -3 ≤ x → x ≤ 3 → sz (x : Rat) ≤ 2 := fun x h1 h2 => by
  have : x = -3 ∨ x = -2 ∨ x = -1 ∨ x = 0 ∨ x = 1 ∨ x = 2 ∨ x = 3 := by omega
  rcases this with rfl | rfl | rfl | rfl | rfl | rfl | rfl <;> decide +kernel

theorem law_poly_W {b l : Addr} {n most high : Nat} {t1 t2 t3 : Tok} {Q : Value → Heap → Prop} (G : GL z hb) (eb : Ext hb h) (hnb : hb.get? b = none) (hnl : hb.get? l = none) (r : Rm A (k + 5)) (B : BoxAt h b l) (hn : n ≤ 100) (hm : 0 < most ∧ most ≤ 100) (hh : 0 < high ∧ high ≤ 100)
    (q : ∀ h' d P, Keep (fun a => a = b ∨ a = l) h h' → TK h h' → BoxAt h' b l → h.get? d = none → DA z h' d P → PolyOk n high most P → Q (.ref d) h') :
    W z A (call (.ref 203) [.ref b, .int (n : Int) t1, .int (most : Int) t2, .int (high : Int) t3]) h Q := by
  refine W.defC 34 nm_law_poly [false, true, true, false] (G.ext eb) r (lk_law_poly _) (cd_law_poly _) (by kernel_rfl!) rfl (by kernel_rfl!) fun L hb₀ h₁ e0 F R cells => ?_
  have r' := R.r
  have B0 := B.ext e0
  have c1 : hb₀.IsCell (L + 1) (some (.ref b)) := cells (Str.ofString "box") _ _ (by kernel_rfl!) (by kernel_rfl!)
  have c2 : hb₀.IsCell (L + 2) (some (.int (high : Int) t3)) := cells (Str.ofString "high") _ _ (by kernel_rfl!) (by kernel_rfl!)
  obtain ⟨hB, eB1, eB2, nB1, nB2, eB3⟩ := two_hidden (Keep.trans eb e0) hnb hnl
  have cb1 : hB.IsCell (L + 1) (some (.ref b)) := let ⟨o, ho, hd⟩ := c1; ⟨o, eB3 _ o (cell_not_box B0 c1).1 (cell_not_box B0 c1).2 ho, hd⟩
  have cb2 : hB.IsCell (L + 2) (some (.int (high : Int) t3)) := let ⟨o, ho, hd⟩ := c2; ⟨o, eB3 _ o (cell_not_box B0 c2).1 (cell_not_box B0 c2).2 ho, hd⟩
  have GB := G.ext eB1
  have FB := F.base eB2
  have h100 : (1000 : Nat) ≤ sizeLine := by decide
  have ehh : Ext h h₁ := Keep.trans e0 F.keep
  have B1 := B.ext ehh
  have hLx : ∀ a, (a = b ∨ a = l) → L ≠ a := fun a ha q => by obtain ⟨o, ho⟩ := B0.some a ha; rw [← q, F.fresh] at ho; cases ho
  have hLh : h.get? L = none := none_of e0 F.fresh
  have hBn : ∀ a, (a = b ∨ a = l) → hB.get? a = none := by
    rintro a (rfl | rfl)
    · exact nB1
    · exact nB2
  refine W.cons (W.asg (W.dict0 (GB.ext FB.keep) fun d h2 e2 hd2 D2 => W.store (FB.ext e2) 4 fun h3 F3 s3 => ?_))
  have hdL : d ≠ L := FB.neL hd2
  have hdh : h.get? d = none := none_of ehh hd2
  have hdB : hB.get? d = none := none_of FB.keep hd2
  have hdx : ∀ a, (a = b ∨ a = l) → d ≠ a := fun a ha q => by obtain ⟨o, ho⟩ := B1.some a ha; rw [← q, hd2] at ho; cases ho
  have D3 := D2.same (FB.ext e2).ns s3 hdL
  have k3 : Keep (fun a => a = L) h₁ h3 := (Ext.to e2).trans (Keep.same s3)
  have t3' : TK h₁ h3 := (TK.ext e2).trans (TK.same (FB.ext e2).ns s3)
  have B3 := B1.at (fun o e => k3 _ o (fun q => hLx b (.inl rfl) q.symm) e) (fun o e => k3 _ o (fun q => hLx l (.inr rfl) q.symm) e)
  have kh3 : Keep (fun a => a = b ∨ a = l) h h3 := fun a o ha e => k3 a o (fun q => by rw [q, hLh] at e; cases e) (ehh.get e)
  have th3 : TK h h3 := (TK.ext ehh).trans t3'
  have G3 := GB.ext F3.keep
  refine W.cons (W.forS (W.callN (W.nb G3 boot_range (W.callT (W.sp (W.bin (W.cint fun _ => W.callN (W.ng G3 (.ref 191) (W.callW (lk_law_take _) (W.sp (W.cell (cb1.keeps F3.keep.ks) (W.sp (W.nl F3 2 (W.sp0 ⟨G3, law_take_W (k := k) GB F3.keep nB1 nB2 (r'.mono (by omega)) B3 hm.1 fun h4 v t4 k4 tk4 B4 hv => W.add fun t5 => W.sp0 ?_⟩))))))))))))))
  have eN : (1 : Int) + (v : Int) = ((v + 1 : Nat) : Int) := by omega
  rw [eN]
  have F4 := F3.keepD k4 (by rintro (q | q); exact hLx b (.inl rfl) q; exact hLx l (.inr rfl) q) hBn
  have D4 : DA z h4 d [] := D3.move tk4 fun o e => k4 _ o (by rintro (q | q); exact hdx b (.inl rfl) q; exact hdx l (.inr rfl) q) e
  have kh4 := kh3.trans k4
  have th4 := th3.trans tk4
  refine W.range1 fun ra h5 ta tb tc e5 hr hra => W.iterRange hr (by omega) fun I hs es hI hit => ?_
  have Fs := (F4.ext e5).ext es
  have e4s : Ext h4 hs := Keep.trans e5 es
  have hI4 : h4.get? I = none := none_of e5 hI
  have hIx : ∀ a, (a = b ∨ a = l) → a ≠ I := fun a ha q => by obtain ⟨o, ho⟩ := B4.some a ha; rw [q, hI4] at ho; cases ho
  have hId : d ≠ I := fun q => by obtain ⟨o, ho⟩ := D4.p.some; rw [q, hI4] at ho; cases ho
  have hIL : I ≠ L := F4.neL hI4
  have hIB : hB.get? I = none := none_of F4.keep hI4
  have hIh : h.get? I = none := by
    cases e : h.get? I with
    | none => rfl
    | some o =>
      by_cases q : I = b ∨ I = l
      · exact absurd rfl (hIx I q)
      · rw [kh4 I o q e] at hI4; cases hI4
  refine Loop.introT (turnsRange r'.h I (v + 1)) (fun i h' => ∃ P v5 v6 v7, MF hB nm_law_poly L [none, some (.int (n : Int) t1), some (.int (most : Int) t2), none, some (.ref d), v5, v6, v7] h' ∧ DA z h' d P ∧ PolyOk n high i P ∧ BoxAt h' b l ∧ Keep (fun a => a = b ∨ a = l) h h' ∧ TK h h') (rangeIter0 hit) (fun i h' st b hb => ?_)
    ⟨[], _, _, _, Fs, D4.ext e4s, PolyOk.nil _ _ _, B4.ext e4s, kh4.trans (Ext.to e4s), th4.trans (TK.ext e4s)⟩ (fun i h6 h7 j kk tk => ?_) (fun i vi h6 hlt hP j => ?_) (fun h' j => ?_)
  · rw [List.mem_singleton.mp hb]; exact not_tup_riter st
  · obtain ⟨P, v5, v6, v7, F6, D6, ok6, B6, K6, T6⟩ := j
    have kI : Keep (fun a => a = I) h6 h7 := kk.weak fun a q => by simpa using q
    exact ⟨P, v5, v6, v7, F6.keepD kI (fun q => hIL q.symm) (fun a ha => by rw [ha]; exact hIB), D6.move tk fun o e => kI _ o hId e, ok6, B6.at (fun o e => kI _ o (hIx b (.inl rfl)) e) (fun o e => kI _ o (hIx l (.inr rfl)) e),
      fun a o ha e => kI a o (fun q => by rw [q, hIh] at e; cases e) (K6 a o ha e), T6.trans tk⟩
  · obtain ⟨P, v5, v6, v7, F6, D6, ok6, B6, K6, T6⟩ := j
    obtain ⟨ti, rfl⟩ := hP
    have hdI6 : ∀ a, (a = b ∨ a = l) → d ≠ a := hdx
    refine W.asgN (W.store F6 5 fun h7 F7 s7 => ?_)
    have kL7 : Keep (fun a => a = L) h6 h7 := Keep.same s7
    have D7 := D6.same F6.ns s7 hdL
    have B7 := B6.at (fun o e => kL7 _ o (fun q => hLx b (.inl rfl) q.symm) e) (fun o e => kL7 _ o (fun q => hLx l (.inr rfl) q.symm) e)
    have t7 : TK h6 h7 := TK.same F6.ns s7
    have G7 := GB.ext F7.keep
    -- the powers drawn
    refine W.cons (W.asg (W.callN (W.nb G7 PyProof.Rows.boot_tuple (W.callT (W.sp ?_)))))
    refine W.lcomp (cl := [(Str.ofString "high", L + 2), (Str.ofString "box", L + 1)]) (by kernel_rfl!) rfl (by decide +kernel) ?_
    refine W.callN (W.nb G7 boot_range (W.callT (W.sp (W.nl F7 1 (W.sp0 (W.range1 fun rb h8 ta tb tc e8 hr hrb => W.iterRange (n := n) hr (by omega) fun I9 h9 e9 hI9 hit9 => ⟨I9, rfl, ?_⟩))))))
    have e79 : Ext h7 h9 := Keep.trans e8 e9
    have F9 := F7.ext e79
    have B9 := B7.ext e79
    have hI97 : h7.get? I9 = none := none_of e8 hI9
    have hI9L : I9 ≠ L := F7.neL hI97
    have hI9B : hB.get? I9 = none := none_of F7.keep hI97
    have hI9x : ∀ a, (a = b ∨ a = l) → a ≠ I9 := fun a ha q => by obtain ⟨o, ho⟩ := B7.some a ha; rw [q, hI97] at ho; cases ho
    refine compRunL (nmc := [Str.ofString "letter"]) (turnsRange r'.h I9 n) (rangeIter0 hit9) (by omega) (fun h Q st q n => wpAny_pyIter_rangeiter (s := at_ z h n) st (W.ok q)) (fun i h' st b hb => by rw [List.mem_singleton.mp hb]; exact not_tup_riter st) (fun b hb => by rw [List.mem_singleton.mp hb]; exact ⟨_, hit9⟩) F9 (fun hm => hI9L (List.mem_singleton.mp hm).symm) (fun b hb => by rw [List.mem_singleton.mp hb]; exact hI9B) rfl (by decide +kernel)
      (fun a => a = b ∨ a = l) (fun a ha => ⟨B9.some a ha, hBn a ha, (hLx a ha).symm, by simpa using hI9x a ha⟩) (fun i vs' => ∃ v, vs' = [some v])
      (fun D C i xs h' => ∃ ks, IntsAre xs ks ∧ ks.length = i ∧ (∀ x ∈ ks, 0 ≤ x ∧ x < (high : Int)) ∧ BoxAt h' b l) (fun D C h' _ _ _ e => ⟨[], .nil, rfl, by simp, B9.ext e⟩) (fun D C i xs h' h'' hD hC _ jj kk t => ?_) (fun C i v h' ws Q hi hP FC hw q => ?_) (fun D C i xs h2 vs' hi hV hD hC hDl FC FO kh tk jj st => ?_) (fun D C xs h' hD hC hDC hl' hm' FO kh tk jj => ?_)
    · obtain ⟨ks, a1, a2, a3, a4⟩ := jj
      have nx : ∀ a, (a = b ∨ a = l) → ¬ (a ∈ [I9] ∨ a = D ∨ a = C ∨ a = L) := fun a ha => by
        rintro (q | q | q | q)
        · exact hI9x a ha (by simpa using q)
        · obtain ⟨o, ho⟩ := B9.some a ha; rw [q, hD] at ho; cases ho
        · obtain ⟨o, ho⟩ := B9.some a ha; rw [q, hC] at ho; cases ho
        · exact hLx a ha q.symm
      exact ⟨ks, a1, a2, a3, a4.at (fun o e => kk _ o (nx b (.inl rfl)) e) (fun o e => kk _ o (nx l (.inr rfl)) e)⟩
    · exact asgOne FC hw (fun h2 F2 k2 t2 => q h2 _ ⟨v, rfl⟩ rfl F2 k2 t2) (by kernel_rfl!)
    · obtain ⟨ks, a1, a2, a3, a4⟩ := jj
      have G2 := GB.ext FO.keep
      refine W.tests0 ?_
      rw [if_pos rfl]
      refine W.callN (W.ng G2 (.ref 191) (W.callW (lk_law_take _) (W.sp (W.cell (cb1.keeps FO.keep.ks) (W.sp (W.cell (cb2.keeps FO.keep.ks) (W.sp0 ⟨G2, law_take_W (k := k) GB FO.keep nB1 nB2 (r'.mono (by omega)) a4 hh.1 fun h4 v t4 k4 tk4 B4 hv => ⟨k4, tk4, ks ++ [(v : Int)], intsAre_snoc a1 _ _, by simp [a2], fun x hx => ?_, B4⟩⟩)))))))
      rcases List.mem_append.mp hx with hx | hx
      · exact a3 x hx
      · rw [List.mem_singleton] at hx; omega
    obtain ⟨ks, a1, a2, a3, a4⟩ := jj
    obtain ⟨mC, hmC⟩ := hm'
    refine ⟨⟨mC, hmC⟩, fun h10 s10 => ?_⟩
    have kC : Keep (fun a => a = C) h' h10 := Keep.same s10
    have tC : TK h' h10 := TK.same hmC s10
    have hCL : L ≠ C := fun q => (F7.ext e79).neL hC q.symm
    have hCB : hB.get? C = none := none_of F9.keep hC
    have hC7 : h7.get? C = none := none_of e79 hC
    have hCx : ∀ a, (a = b ∨ a = l) → a ≠ C := fun a ha q => by obtain ⟨o, ho⟩ := B9.some a ha; rw [q, hC] at ho; cases ho
    have F10 := FO.comp s10 hCB hCL
    have B10 := a4.at (fun o e => kC _ o (hCx b (.inl rfl)) e) (fun o e => kC _ o (hCx l (.inr rfl)) e)
    have k710 : Keep (fun a => a = b ∨ a = l) h7 h10 := fun a o ha e => kC a o (fun q => by rw [q, hC7] at e; cases e) (kh a o (by
      rintro (q | q)
      · rw [List.mem_singleton.mp q, hI97] at e; cases e
      · exact ha q) (e79.get e))
    have t710 : TK h7 h10 := ((TK.ext e79).trans tk).trans tC
    have hl10 : h10.IsList D xs.toArray := isList_at hl' fun o e => kC _ o hDC e
    have lxs : xs.length = n := by rw [intsAre_length a1, a2]
    refine W.sp0 (W.tupOfList (xs := xs) r' hl10 (by omega) fun ta' h11 e11 T11 _ => ?_)
    have F11 := F10.ext e11
    refine W.store F11 6 fun h12 F12 s12 => ?_
    have kL12 : Keep (fun a => a = L) h11 h12 := Keep.same s12
    have t12 : TK h11 h12 := TK.same F11.ns s12
    have hk12 : KeyAt h12 (.ref ta') ks := ⟨ta', xs, rfl, t12 _ _ T11, a1⟩
    have B12 := (B10.ext e11).at (fun o e => kL12 _ o (fun q => hLx b (.inl rfl) q.symm) e) (fun o e => kL12 _ o (fun q => hLx l (.inr rfl) q.symm) e)
    have G12 := GB.ext F12.keep
    -- the number drawn
    have k712 : Keep (fun a => (a = b ∨ a = l) ∨ a = L) h7 h12 := ((k710.weak fun a q => .inl q).trans (Ext.to e11)).trans (kL12.weak fun a q => .inr q)
    have t712 : TK h7 h12 := (t710.trans (TK.ext e11)).trans t12
    refine W.cons (W.asg (W.bin (W.callN (W.ng G12 (.ref 191) (W.callW (lk_law_take _) (W.sp (W.cell (cb1.keeps F12.keep.ks) (W.sp (W.cint fun t13 => W.sp0 ⟨G12, law_take_W (k := k) (wide := 7) GB F12.keep nB1 nB2 (r'.mono (by omega)) B12 (by decide) fun h13 v t14 k13 t13' B13 hv => W.cint fun _ => W.subI fun t15 => ?_⟩)))))))))
    have F13 := F12.keepD k13 (by rintro (q | q); exact hLx b (.inl rfl) q; exact hLx l (.inr rfl) q) hBn
    refine W.store F13 7 fun h14 F14 s14 => ?_
    have kL14 : Keep (fun a => a = L) h13 h14 := Keep.same s14
    have t14' : TK h13 h14 := TK.same F13.ns s14
    have B14 := B13.at (fun o e => kL14 _ o (fun q => hLx b (.inl rfl) q.symm) e) (fun o e => kL14 _ o (fun q => hLx l (.inr rfl) q.symm) e)
    have k714 : Keep (fun a => (a = b ∨ a = l) ∨ a = L) h7 h14 := (k712.trans (k13.weak fun a q => .inl q)).trans (kL14.weak fun a q => .inr q)
    have t714 : TK h7 h14 := (t712.trans t13').trans t14'
    have D14 : DA z h14 d P := D7.move t714 fun o e => k714 _ o (by
      rintro ((q | q) | q)
      · exact hdx b (.inl rfl) q
      · exact hdx l (.inr rfl) q
      · exact hdL q) e
    have K14 : Keep (fun a => a = b ∨ a = l) h h14 := fun a o ha e => k714 a o (by
      rintro (q | q)
      · exact ha q
      · rw [q, hLh] at e; cases e) (kL7 a o (fun q => by rw [q, hLh] at e; cases e) (K6 a o ha e))
    have T14 : TK h h14 := (T6.trans t7).trans t714
    have hk14 : KeyAt h14 (.ref ta') ks := (hk12.tk t13').tk t14'
    refine W.cons (W.iff (W.tcmp (W.nl F14 7 ?_)))
    refine W.cint fun _ => W.neI (W.tb ?_)
    have presI : ∀ h', Keep (fun a => (a = b ∨ a = l) ∨ a = L ∨ a = d) h7 h' → ∀ b ∈ [I], ∀ o, h6.get? b = some o → h'.get? b = some o := fun h' kk bb hbb o e => by
      rw [List.mem_singleton] at hbb
      subst hbb
      exact kk _ o (by
        rintro (q | q | q)
        · exact hIx _ q rfl
        · exact hIL q
        · exact hId q.symm) (kL7 _ o hIL e)
    by_cases hz : (v : Int) - 3 = 0
    · rw [if_neg (by simpa using hz)]
      exact W.nil (W.nil ⟨⟨P, _, _, _, F14, D14, ⟨ok6.len, ok6.bd, ok6.nz, by have := ok6.few; omega⟩, B14, K14, T14⟩, presI h14 (k714.weak fun a q => by
        rcases q with q | q
        · exact .inl q
        · exact .inr (.inl q))⟩)
    · rw [if_pos (by simpa using hz)]
      refine W.cons (W.asgSub (W.tuple (W.sp (W.nl F14 7 (W.sp (W.cint fun t16 => W.sp0 (W.newTup fun tr h15 e15 T15 _ => ?_)))))))
      have F15 := F14.ext e15
      obtain ⟨x, hx⟩ : ∃ x : Int, x = (v : Int) - 3 := ⟨_, rfl⟩
      rw [← hx] at T15
      have hv15 : RatAt h15 (.ref tr) (x : Rat) := ⟨tr, _, t16, rfl, by simpa using T15⟩
      have lP : P.length ≤ sizeLine := by have := ok6.few; omega
      refine W.nl F15 4 (W.nl F15 6 (W.setD (k := 0) (r'.mono (by omega)) (hk14.ext e15) (D14.ext e15).p hv15 lP fun h16 p16 s16 t16' => W.nil (W.nil ?_)))
      have kd : Keep (fun a => a = d) h15 h16 := Keep.same s16
      have B16 := (B14.ext e15).at (fun o e => kd _ o (fun q => hdx b (.inl rfl) q.symm) e) (fun o e => kd _ o (fun q => hdx l (.inr rfl) q.symm) e)
      refine ⟨⟨_, _, _, _, F15.keepD kd (fun q => hdL q.symm) (fun a ha => by rw [ha]; exact hdB), ⟨D14.nm, p16⟩, ok6.set (by rw [a2]) a3 ⟨?_, sz_small _ (by omega) (by omega)⟩, B16, fun a o ha e => kd a o (fun q => by rw [q, hdh] at e; cases e) (e15.get (K14 a o ha e)), (T14.trans (TK.ext e15)).trans t16'⟩, presI h16 ?_⟩
      · exact fun q => hz (by rw [← hx]; exact Rat.intCast_eq_zero_iff.mp q)
      · exact ((k714.weak fun a q => by
          rcases q with q | q
          · exact .inl q
          · exact .inr (.inl q)).trans (Ext.to e15)).trans (kd.weak fun a q => .inr (.inr q))
  · obtain ⟨P, v5, v6, v7, F6, D6, ok6, B6, K6, T6⟩ := j
    exact W.cons (W.ret (W.nl F6 4 (q h' d P K6 T6 B6 hdh D6 ⟨ok6.len, ok6.bd, ok6.nz, by have := ok6.few; omega⟩)))
end
end NN
end

section
open PySem PySem.W PyProof.Rows
set_option linter.unusedVariables false
set_option linter.unusedSimpArgs false
namespace NN
set_option maxRecDepth 100000

section
variable {z : Z} {A : Around} {h h₀ : Heap} {env : Env}
theorem Loop.introS {tg : Expr} {body : List Stmt} {I : Addr} {fp wr : List Addr} {n : Nat} {P Md : Nat → Value → Heap → Prop} {St : Nat → Heap → Prop} {Q : Flow → Heap → Prop}
    (K : Turns z A tg I fp wr n P Md St) (J : Nat → Heap → Prop) (hst : St 0 h) (hnt : ∀ i h, St i h → ∀ b ∈ wr, ∀ xs, ¬ IsTup h b xs) (h0 : J 0 h) (hJ : ∀ i h h', J i h → Keep (· ∈ wr) h h' → TK h h' → J i h')
    (step : ∀ i v h1, i < n → P i v h1 → St (i + 1) h1 → J i h1 → W z A (assign tg env v) h1 (fun _ h2 => W z A (execs body env) h2 (fun f h3 => match f with
      | .next | .cont => J (i + 1) h3 ∧ (∀ b ∈ fp, ∀ o, h1.get? b = some o → h3.get? b = some o)
      | .brk => Q .next h3
      | .ret v => Q (.ret v) h3)))
    (hQ : ∀ h', J n h' → Q .next h') : Loop z A tg body env (.ref I) h Q := fun n0 => by
  refine codeAny_forLoop_any (fun k s => ∃ i h' n', s = at_ z h' n' ∧ i ≤ n ∧ k = n - i ∧ St i h' ∧ J i h') (fun k s hI => ?_) n ⟨0, h, n0, rfl, Nat.zero_le _, rfl, hst, h0⟩
  obtain ⟨i, h', n', rfl, hi, rfl, st, j⟩ := hI
  by_cases hlt : i < n
  · refine K.item i _ _ _ hlt st fun v h1 tk hMd hk => ?_
    refine K.go i v _ _ _ hMd fun h2 hP st2 hk2 => ?_
    have kk : Keep (· ∈ wr) h' h2 := fun b o hb e => hk2 b o hb (hk b o hb e)
    refine (step i v h2 hlt hP st2 (hJ i h' h2 j kk (TK.keep kk fun b hb => hnt i h' st b hb))).use tk fun _ h3 n3 q3 => ?_
    refine q3.use n3 fun f h4 n4 q4 => ?_
    cases f with
    | next => exact ⟨n - (i + 1), by omega, i + 1, h4, n4, rfl, hlt, rfl, K.frame _ _ _ st2 fun b hb o e => q4.2 b hb o e, q4.1⟩
    | cont => exact ⟨n - (i + 1), by omega, i + 1, h4, n4, rfl, hlt, rfl, K.frame _ _ _ st2 fun b hb o e => q4.2 b hb o e, q4.1⟩
    | brk => exact W.ok q4
    | ret v => exact W.ok q4
  · have e : i = n := by omega
    subst e
    refine K.done _ _ _ st fun h1 tk hk => wpAny_execs_nil ?_
    have kk : Keep (· ∈ wr) h' h1 := fun b o hb e => hk b o hb e
    exact ⟨h1, tk, rfl, hQ h1 (hJ _ h' h1 j kk (TK.keep kk fun b hb => hnt _ h' st b hb))⟩

/-- for x1, x2 in enumerate(a list), the loop's own objects named -/
theorem W.forEnumListE {x1 x2 : Str} {p1 p2 tp pos : Pos} {kt : Nat} {iter : Expr} {body : List Stmt} {l : Addr} {ws : List Value} {k : Nat} {Q : Flow → Heap → Prop} (r : Rm A k) (J : Addr → Addr → Nat → Heap → Prop) (D : Addr → Prop)
    (he : ∀ Q' : Value → Heap → Prop, (∀ e I h1, Ext h h1 → h.get? e = none → h.get? I = none → e ≠ I → IsEnum h1 e I 0 .none → h1.IsListIter I l 0 → Q' (.ref e) h1) → W z A (eval iter env) h Q')
    (e0 : Ext h₀ h) (hl : h₀.IsList l ws.toArray) (hD : ∀ a, D a → ∃ o, h.get? a = some o)
    (h0 : ∀ e I h1, h.get? e = none → h.get? I = none → Ext h h1 → J e I 0 h1) (hJ : ∀ e I i h1 h2, h.get? e = none → h.get? I = none → J e I i h1 → Keep (fun b => b = e ∨ b = I) h1 h2 → TK h1 h2 → J e I i h2) (hext : ∀ e I i h1, J e I i h1 → Ext h₀ h1)
    (step : ∀ e I i v t h1 h2, h.get? e = none → h.get? I = none → (∃ o, h1.get? e = some o) → (∃ o, h1.get? I = some o) → ws[i]? = some v → J e I i h1 → Ext h1 h2 → W z A (storeName env x1 (.int (i : Int) t)) h2 (fun _ h3 => W z A (storeName env x2 v) h3 (fun _ h4 => W z A (execs body env) h4 (fun f h5 => match f with
      | .next | .cont => J e I (i + 1) h5 ∧ Keep D h2 h5
      | .brk => Q .next h5
      | .ret v => Q (.ret v) h5))))
    (hQ : ∀ e I h', J e I ws.length h' → Q .next h') (hs : ∀ x, foldedSetIterable iter env x = PySem.Sem.pure x := by intro _; rfl) : W z A (exec (.For (.Tuple [.Name x1 p1, .Name x2 p2] kt tp) iter body [] pos) env) h Q := by
  refine W.forS (he _ fun e I hs es hee hI hne hE hit => W.iterEnum hE ?_) hs
  obtain ⟨ol, hol⟩ : ∃ o, h₀.get? l = some o := let ⟨o, ho, _⟩ := hl; ⟨o, ho⟩
  have hlh : hs.IsList l ws.toArray := isList_at hl fun o e => es.get (e0.get e)
  have hle : l ≠ e := fun q => by have := e0.get hol; rw [q, hee] at this; cases this
  have hlI : l ≠ I := fun q => by have := e0.get hol; rw [q, hI] at this; cases this
  refine Loop.introS (turnsEnumList r.h e I l hne hle hlI ws.toArray) (J e I) ⟨⟨_, hE⟩, hit, hlh⟩ (fun i h st b hb => ?_) (h0 e I hs hee hI es)
    (fun i h1 h2 j kk tk => hJ e I i h1 h2 hee hI j (kk.weak fun a q => by simpa using q) tk) (fun i v h1 hi hP st j => ?_) (fun h' j => hQ e I h' (by simpa using j))
  · simp only [List.mem_cons, List.not_mem_nil, or_false] at hb
    rcases hb with rfl | rfl
    · obtain ⟨old, x⟩ := st.1; exact not_tup_enum x
    · exact not_tup_liter st.2.1
  · obtain ⟨T, vals, rfl, ⟨t, x, hx, rfl⟩, hTT⟩ := hP
    have xe : ∃ o, h1.get? e = some o := let ⟨⟨old, x⟩, _⟩ := st; ⟨_, x⟩
    have xI : ∃ o, h1.get? I = some o := let ⟨_, ⟨o, ho, _⟩, _⟩ := st; ⟨o, ho⟩
    refine W.asgP r hTT fun h2 e2 => W.asgN ((step e I i x t h1 h2 hee hI xe xI (by simpa using hx) j e2).mono fun _ h3 q3 => W.asgN (q3.mono fun _ h4 q4 => q4.mono fun f h5 q5 => ?_))
    have pres : J e I (i + 1) h5 → Keep D h2 h5 → ∀ b ∈ [e, I, l], ∀ o, h1.get? b = some o → h5.get? b = some o := fun j3 k3 b hb o q => by
      simp only [List.mem_cons, List.not_mem_nil, or_false] at hb
      rcases hb with rfl | rfl | rfl
      · exact k3 _ _ (fun q => by obtain ⟨o, ho⟩ := hD _ q; rw [hee] at ho; cases ho) (e2.get q)
      · exact k3 _ _ (fun q => by obtain ⟨o, ho⟩ := hD _ q; rw [hI] at ho; cases ho) (e2.get q)
      · have e1 := (hext _ _ _ _ j).get hol
        rw [e1] at q; cases q
        exact (hext _ _ _ _ j3).get hol
    cases f with
    | next => exact ⟨q5.1, pres q5.1 q5.2⟩
    | cont => exact ⟨q5.1, pres q5.1 q5.2⟩
    | brk => exact q5
    | ret v => exact q5
theorem W.vone {op : BoolOp} {e : Expr} {pos : Pos} {Q : Value → Heap → Prop} (q : W z A (eval e env) h Q) : W z A (eval (.BoolOp op [e] pos) env) h Q := fun n => BoolOp_one (q n)
theorem W.vand {e1 e2 : Expr} {rest : List Expr} {pos : Pos} {Q : Value → Heap → Prop} (q : W z A (eval e1 env) h (fun v h1 => W z A (truthy v) h1 (fun c h2 => if c then W z A (eval (.BoolOp .And (e2 :: rest) pos) env) h2 Q else Q v h2))) :
    W z A (eval (.BoolOp .And (e1 :: e2 :: rest) pos) env) h Q := fun n => BoolOp_and (q.use n fun v h1 n1 q1 => q1.use n1 fun c h2 n2 q2 => by cases c <;> first | exact q2 n2 | exact W.ok q2)
theorem W.vor {e1 e2 : Expr} {rest : List Expr} {pos : Pos} {Q : Value → Heap → Prop} (q : W z A (eval e1 env) h (fun v h1 => W z A (truthy v) h1 (fun c h2 => if c then Q v h2 else W z A (eval (.BoolOp .Or (e2 :: rest) pos) env) h2 Q))) :
    W z A (eval (.BoolOp .Or (e1 :: e2 :: rest) pos) env) h Q := fun n => BoolOp_or (q.use n fun v h1 n1 q1 => q1.use n1 fun c h2 n2 q2 => by cases c <;> first | exact q2 n2 | exact W.ok q2)
end

/-! ## the sum of what came out -/
noncomputable def totJ (rest : Poly) (qs ss : List Poly) (j : Nat) : Poly := ((qs.zip ss).take j).foldl (fun t p => padd t (pmul p.1 p.2)) rest
noncomputable def numJ (rest : Poly) (qs ss : List Poly) (pt : List Rat) (j : Nat) : Rat := ((qs.zip ss).take j).foldl (fun t p => t + pat p.1 pt * pat p.2 pt) (pat rest pt)
theorem totJ_succ {rest : Poly} {qs ss : List Poly} {j : Nat} {q s : Poly} (hq : qs[j]? = some q) (hs : ss[j]? = some s) : totJ rest qs ss (j + 1) = padd (totJ rest qs ss j) (pmul q s) := by
  unfold totJ
  have : (qs.zip ss)[j]? = some (q, s) := by rw [List.getElem?_zip_eq_some]; exact ⟨hq, hs⟩
  rw [List.take_add_one, this, List.foldl_append]; rfl
theorem numJ_succ {rest : Poly} {qs ss : List Poly} {pt : List Rat} {j : Nat} {q s : Poly} (hq : qs[j]? = some q) (hs : ss[j]? = some s) : numJ rest qs ss pt (j + 1) = numJ rest qs ss pt j + pat q pt * pat s pt := by
  unfold numJ
  have : (qs.zip ss)[j]? = some (q, s) := by rw [List.getElem?_zip_eq_some]; exact ⟨hq, hs⟩
  rw [List.take_add_one, this, List.foldl_append]; rfl
structure SumOk (m : Nat) (rest : Poly) (qs ss : List Poly) : Prop where
  kr : ∀ e ∈ rest, KB m e.1
  kq : ∀ q ∈ qs, ∀ e ∈ q, KB m e.1
  ks : ∀ s ∈ ss, ∀ e ∈ s, KB m e.1
  kp : ∀ (i : Nat) q s, qs[i]? = some q → ss[i]? = some s → ∀ e ∈ pmul q s, KB m e.1
  ts : ∀ s ∈ ss, tsz s ≤ 12 ∧ s.length ≤ 2
  tq : tsz rest + (qs.map tsz).sum ≤ 700000
  lq : qs.length = ss.length
  l3 : ss.length ≤ 3
theorem psz_le (P : Poly) : psz P ≤ 68 * tsz P := by
  have := len_tsz P
  unfold psz; omega
theorem sum_take_le : ∀ (l : List Nat) (i : Nat), (l.take i).sum ≤ l.sum
  | [], i => by simp
  | a :: l, 0 => by simp
  | a :: l, i + 1 => by
    have := sum_take_le l i
    simp only [List.take_succ_cons, List.sum_cons]; omega
theorem sum_take_succ : ∀ (l : List Nat) (i : Nat) (x : Nat), l[i]? = some x → (l.take i).sum + x ≤ l.sum
  | [], i, x, h => by simp at h
  | a :: l, 0, x, h => by simp at h; subst h; simp
  | a :: l, i + 1, x, h => by
    have := sum_take_succ l i x (by simpa using h)
    simp only [List.take_succ_cons, List.sum_cons]; omega
theorem prod_size {q s : Poly} (h : tsz s ≤ 12 ∧ s.length ≤ 2) : s.length * tsz q + q.length * tsz s ≤ 6 * tsz q := by
  have h1 : s.length * tsz q ≤ 2 * tsz q := Nat.mul_le_mul_right _ h.2
  have h2 : q.length * tsz s ≤ q.length * 12 := Nat.mul_le_mul_left _ h.1
  have := len_tsz q
  omega
theorem totJ_facts {m : Nat} {rest : Poly} {qs ss : List Poly} (ok : SumOk m rest qs ss) (hn : (rest.map (·.1)).Nodup) : ∀ j, j ≤ ss.length → ((totJ rest qs ss j).map (·.1)).Nodup ∧ (∀ e ∈ totJ rest qs ss j, KB m e.1) ∧ tsz (totJ rest qs ss j) ≤ tsz rest + 6 * ((qs.map tsz).take j).sum
  | 0, _ => ⟨by simpa [totJ] using hn, by simpa [totJ] using ok.kr, by simp [totJ]⟩
  | j + 1, hj => by
    obtain ⟨a, b, c⟩ := totJ_facts ok hn j (by omega)
    have hlt : j < qs.length := by rw [ok.lq]; omega
    have hlt' : j < ss.length := by omega
    have hq : qs[j]? = some qs[j] := List.getElem?_eq_getElem hlt
    have hs : ss[j]? = some ss[j] := List.getElem?_eq_getElem (by omega)
    rw [totJ_succ hq hs]
    refine ⟨nodup_padd a _, KB_padd b (ok.kp j _ _ hq hs), ?_⟩
    have h1 := tsz_padd a (pmul qs[j] ss[j])
    have h2 := tsz_pmul qs[j] ss[j]
    have h3 := prod_size (q := qs[j]) (ok.ts _ (List.getElem_mem (by omega : j < ss.length)))
    have h4 : ((qs.map tsz).take (j + 1)).sum = ((qs.map tsz).take j).sum + tsz qs[j] := by
      rw [List.take_add_one, List.getElem?_map, hq, List.sum_append]; simp
    omega
theorem sz_numJ {m : Nat} {rest : Poly} {qs ss : List Poly} {pt : List Rat} (ok : SumOk m rest qs ss) (hp : ∀ q ∈ pt, sz q ≤ 2) : ∀ j, j ≤ ss.length → sz (numJ rest qs ss pt j) ≤ 1 + psz rest + 68 * ((qs.map tsz).take j).sum + 1000 * j
  | 0, _ => by
    have := sz_pat hp ok.kr
    simp [numJ]; omega
  | j + 1, hj => by
    have ih := sz_numJ ok hp j (by omega)
    have hlt : j < qs.length := by rw [ok.lq]; omega
    have hlt' : j < ss.length := by omega
    have hq : qs[j]? = some qs[j] := List.getElem?_eq_getElem hlt
    have hs : ss[j]? = some ss[j] := List.getElem?_eq_getElem (by omega)
    rw [numJ_succ hq hs]
    have h1 := sz_add (numJ rest qs ss pt j) (pat qs[j] pt * pat ss[j] pt)
    have h2 := sz_mul (pat qs[j] pt) (pat ss[j] pt)
    have h3 := sz_pat hp (ok.kq _ (List.mem_of_getElem? hq))
    have h4 := sz_pat hp (ok.ks _ (List.mem_of_getElem? hs))
    have h5 := psz_le qs[j]
    have h6 := psz_le ss[j]
    have h7 := (ok.ts _ (List.mem_of_getElem? hs)).1
    have h8 : ((qs.map tsz).take (j + 1)).sum = ((qs.map tsz).take j).sum + tsz qs[j] := by
      rw [List.take_add_one, List.getElem?_map, hq, List.sum_append]; simp
    omega

section
variable {z : Z} {A : Around} {h : Heap} {k : Nat}
theorem law_sum_right_W {fa sa qa rd la : Addr} {f rest : Poly} {sds qds : List Addr} {ss qs : List Poly} {pv : List Value} {pt : List Rat} {m : Nat} {Q : Value → Heap → Prop} (G : GL z h) (r : Rm A (k + 9)) (hf : DA z h fa f) (hsl : h.IsList sa ((sds.map Value.ref).toArray)) (hss : PolysAt z h sds ss)
    (hql : h.IsList qa ((qds.map Value.ref).toArray)) (hqs : PolysAt z h qds qs) (hrd : DA z h rd rest) (hpl : h.IsList la pv.toArray) (hpt : RatsAt h pv pt) (hpm : pt.length = m) (hp2 : ∀ q ∈ pt, sz q ≤ 2)
    (ok : SumOk m rest qs ss) (hm100 : m ≤ 100) (hfk : ∀ e ∈ f, KB m e.1) (hfs : psz f ≤ 1000000) (e1 : peq (totJ rest qs ss ss.length) f = true) (e2 : numJ rest qs ss pt ss.length = pat f pt)
    (q : ∀ h', Ext h h' → Q (.bool true) h') : W z A (call (.ref 210) [.ref fa, .ref sa, .ref qa, .ref rd, .ref la]) h Q := by
  refine W.def 35 nm_law_sum_right G r (lk_law_sum_right _) (cd_law_sum_right _) (by kernel_rfl!) (by kernel_rfl!) fun L h₁ F R => ?_
  have G' := G.ext F.keep
  have r' := R.r
  have hL27 : LIM = 33554432 := rfl
  have htq := ok.tq
  have prest := psz_le rest
  have h100 : (1000 : Nat) ≤ sizeLine := by decide
  refine W.cons (W.asg2 (x := Str.ofString "total") (y := Str.ofString "number") r' (W.tuple (W.sp (W.nl F 3 (W.sp ?_)))) (by kernel_rfl!))
  refine W.callN (W.ng G' (.ref 158) (W.callW (lk_mvat _) (W.sp (W.nl F 3 (W.sp (W.nl F 4 (W.sp0 ⟨G', mvat_W (k := k) (m := m) G' (r'.mono (by omega)) (hrd.ext F.keep) ok.kr (isList_at hpl fun o e => F.keep.get e) (hpt.ext F.keep) hpm hp2 (by omega) fun h2 v2 e2' hv2 => W.sp0 (W.newTup fun t3 h3 e3 T3 _ => ⟨_, _, _, rfl, T3, fun h4 e4 => ?_⟩)⟩)))))))
  have F4 := ((F.ext e2').ext e3).ext e4
  refine W.store F4 6 fun h5 F5 s5 => W.store F5 5 fun h6 F6 s6 => ?_
  have hv6 : RatAt h6 v2 (pat rest pt) := ((hv2.ext (Keep.trans e3 e4)).tk (TK.same F4.ns s5)).tk (TK.same F5.ns s6)
  have G6 := G.ext F6.keep
  have hls : sds.length = ss.length := hss.1
  have hlq : qds.length = ss.length := hqs.1.trans ok.lq
  have l3 := ok.l3
  refine W.cons (W.forEnumListE (h₀ := h) (l := sa) (ws := sds.map Value.ref) r' (fun e I j h' => ∃ vt vn v7 v8, MF h nm_law_sum_right L [some (.ref fa), some (.ref sa), some (.ref qa), some (.ref rd), some (.ref la), some (.ref vt), some vn, v7, v8] h' ∧ DA z h' vt (totJ rest qs ss j) ∧ RatAt h' vn (numJ rest qs ss pt j) ∧ vt ≠ e ∧ vt ≠ I ∧ vt ≠ L) (fun x => x = L)
      (fun Q' q' => W.callN (W.nb G6 boot_enumerate (W.callT (W.sp (W.nl F6 1 (W.sp0 (W.enumList (isList_at hsl fun o e => F6.keep.get e) q'))))))) F6.keep hsl (fun x hx => ?_) (fun e I h7 he hI e7 => ⟨rd, v2, _, _, F6.ext e7, hrd.ext (Keep.trans F6.keep e7), hv6.ext e7, ?_, ?_, ?_⟩) (fun e I i h7 h8 he hI j kk tk => ?_) (fun e I i h7 j => ?_) (fun e I j v t h7 h8 he hI xe xI hw jj e8 => ?_) (fun e I h' j => ?_))
  · subst hx; obtain ⟨o, _, _, ho, _⟩ := F6.ns; exact ⟨o, ho⟩
  · intro q; obtain ⟨o, ho⟩ := hrd.p.some; have := F6.keep.get ho; rw [q, he] at this; cases this
  · intro q; obtain ⟨o, ho⟩ := hrd.p.some; have := F6.keep.get ho; rw [q, hI] at this; cases this
  · intro q; obtain ⟨o, ho⟩ := hrd.p.some; have := F.fresh; rw [q, this] at ho; cases ho
  · obtain ⟨vt, vn, v7, v8, F7, D7, N7, n1, n2, n3⟩ := j
    refine ⟨vt, vn, v7, v8, F7.keepD kk (fun q => ?_) (fun b hb => ?_), D7.move tk fun o ex => kk _ o (by rintro (q | q); exact n1 q; exact n2 q) ex, N7.tk tk, n1, n2, n3⟩
    · rcases q with q | q
      · exact F6.neL he q.symm
      · exact F6.neL hI q.symm
    · rcases hb with rfl | rfl
      · exact none_of F6.keep he
      · exact none_of F6.keep hI
  · obtain ⟨vt, vn, v7, v8, F7, _⟩ := j; exact F7.keep
  · obtain ⟨vt, vn, v7, v8, F7, D7, N7, n1, n2, n3⟩ := jj
    have F8 := F7.ext e8
    refine W.store F8 7 fun h9 F9 s9 => W.store F9 8 fun h10 F10 s10 => ?_
    have k10 : Keep (fun a => a = L) h8 h10 := (Keep.same s9).trans (Keep.same s10)
    have t10 : TK h7 h10 := ((TK.ext e8).trans (TK.same F8.ns s9)).trans (TK.same F9.ns s10)
    have D10 : DA z h10 vt (totJ rest qs ss j) := (D7.ext e8).move ((TK.same F8.ns s9).trans (TK.same F9.ns s10)) fun o ex => k10 _ o n3 ex
    have N10 := N7.tk t10
    have G10 := G.ext F10.keep
    rw [List.getElem?_map] at hw
    obtain ⟨sd, hsd, rfl⟩ : ∃ sd, sds[j]? = some sd ∧ v = .ref sd := by
      cases hq : sds[j]? with
      | none => rw [hq] at hw; cases hw
      | some sd => rw [hq] at hw; cases hw; exact ⟨sd, rfl, rfl⟩
    have hjs : j < ss.length := by rw [← hls]; exact (List.getElem?_eq_some_iff.mp hsd).1
    have hjq : j < qs.length := by rw [ok.lq]; exact hjs
    have hjd : j < qds.length := by omega
    have eS : ss[j]? = some ss[j] := List.getElem?_eq_getElem hjs
    have eQ : qs[j]? = some qs[j] := List.getElem?_eq_getElem hjq
    have eD : qds[j]? = some qds[j] := List.getElem?_eq_getElem hjd
    have DS := hss.2 j _ _ hsd eS
    have DQ := hqs.2 j _ _ eD eQ
    have mS := List.getElem_mem hjs
    have mQ := List.getElem_mem hjq
    have hts := ok.ts _ mS
    have hps := prod_size (q := qs[j]) hts
    have sQ := sum_take_succ (qs.map tsz) j (tsz qs[j]) (by rw [List.getElem?_map, eQ]; rfl)
    obtain ⟨_, kT, sT⟩ := totJ_facts ok hrd.nodup j (by omega)
    have pS := psz_le ss[j]
    have pQ := psz_le qs[j]
    -- the product, the sum
    have hql10 : h10.IsList qa ((qds.map Value.ref).toArray) := isList_at hql fun o e => F10.keep.get e
    refine W.cons (W.asg (W.callN (W.ng G10 (.ref 120) (W.callW (lk_mvadd _) (W.sp (W.nl F10 5 (W.sp (W.callN (W.ng G10 (.ref 151) (W.callW (lk_mvmul _) (W.sp (W.sub (W.nl F10 2 (W.nl F10 7 ?_))))))))))))))
    refine W.lstV hql10 (x := .ref qds[j]) (by rw [List.getElem?_map, eD]; rfl) (by simp; omega) (W.sp (W.nl F10 8 (W.sp0 ⟨G10, mvmul_W (k := k) (m := m) G10 (r'.mono (by omega)) (DQ.ext F10.keep) (DS.ext F10.keep) (fun e he => (ok.kq _ mQ e he).len) (fun e he => (ok.ks _ mS e he).len) hm100 (by omega) fun d11 h11 e11 hd11 D11 => ?_⟩)))
    have F11 := F10.ext e11
    have G11 := G10.ext e11
    have hpm' := tsz_pmul qs[j] ss[j]
    refine W.sp0 ⟨G11, mvadd_W (k := k) (m := m) G11 (r'.mono (by omega)) (D10.ext e11) D11 kT (by omega) fun d12 h12 e12 hd12 D12 => ?_⟩
    have F12 := F11.ext e12
    refine W.store F12 5 fun h13 F13 s13 => ?_
    have e1012 : Ext h10 h12 := Keep.trans e11 e12
    have hd10 : h10.get? d12 = none := none_of e11 hd12
    have nL : d12 ≠ L := F10.neL hd10
    have k810 : Keep (fun a => a = L) h7 h10 := (Ext.to e8).trans k10
    have ne' : d12 ≠ e := fun q => by
      obtain ⟨o, ho⟩ := xe
      have := k810 e o (fun q' => F6.neL he q') ho
      rw [← q, hd10] at this; cases this
    have nI' : d12 ≠ I := fun q => by
      obtain ⟨o, ho⟩ := xI
      have := k810 I o (fun q' => F6.neL hI q') ho
      rw [← q, hd10] at this; cases this
    have D13 := D12.same F12.ns s13 nL
    have t13 : TK h10 h13 := (TK.ext e1012).trans (TK.same F12.ns s13)
    have k13 : Keep (fun a => a = L) h10 h13 := (Ext.to e1012).trans (Keep.same s13)
    have N13 := N10.tk t13
    have G13 := G.ext F13.keep
    -- the values
    have sN := sz_numJ ok hp2 j (by omega)
    have sNq := sz_pat hp2 (ok.kq _ mQ)
    have sNs := sz_pat hp2 (ok.ks _ mS)
    refine W.cons (W.asg (W.callN (W.ng G13 (.ref 78) (W.callW (lk_radd _) (W.sp (W.nl F13 6 (W.sp (W.callN (W.ng G13 (.ref 85) (W.callW (lk_rmul _) (W.sp (W.callN (W.ng G13 (.ref 158) (W.callW (lk_mvat _) (W.sp (W.sub (W.nl F13 2 (W.nl F13 7 ?_))))))))))))))))))
    refine W.lstV (isList_at hql fun o e => F13.keep.get e) (x := .ref qds[j]) (by rw [List.getElem?_map, eD]; rfl) (by simp; omega) (W.sp (W.nl F13 4 (W.sp0 ⟨G13, mvat_W (k := k) (m := m) G13 (r'.mono (by omega)) (DQ.ext F13.keep) (ok.kq _ mQ) (isList_at hpl fun o e => F13.keep.get e) (hpt.ext F13.keep) hpm hp2 (by omega) fun h14 v14 e14 hv14 => ?_⟩)))
    have F14 := F13.ext e14
    have G14 := G13.ext e14
    refine W.sp (W.callN (W.ng G14 (.ref 158) (W.callW (lk_mvat _) (W.sp (W.nl F14 8 (W.sp (W.nl F14 4 (W.sp0 ⟨G14, mvat_W (k := k) (m := m) G14 (r'.mono (by omega)) (DS.ext F14.keep) (ok.ks _ mS) (isList_at hpl fun o e => F14.keep.get e) (hpt.ext F14.keep) hpm hp2 (by omega) fun h15 v15 e15 hv15 => ?_⟩))))))))
    have G15 := G14.ext e15
    refine W.sp0 ⟨G15, rmul_W (k := k) G15 (r'.mono (by omega)) (hv14.ext e15) hv15 (by omega) fun h16 v16 e16 hv16 => ?_⟩
    have sM := sz_mul (pat qs[j] pt) (pat ss[j] pt)
    refine W.sp0 ⟨G15.ext e16, radd_W (k := k) (G15.ext e16) (r'.mono (by omega)) (N13.ext (Keep.trans (Keep.trans e14 e15) e16)) hv16 (by omega) fun h17 v17 e17 hv17 => ?_⟩
    have e1317 : Ext h13 h17 := Keep.trans (Keep.trans (Keep.trans e14 e15) e16) e17
    refine W.store (F13.ext e1317) 6 fun h18 F18 s18 => W.nil ⟨⟨d12, v17, _, _, F18, ?_, ?_, ne', nI', nL⟩, ?_⟩
    · rw [totJ_succ eQ eS]; exact (D13.ext e1317).same (F13.ext e1317).ns s18 nL
    · rw [numJ_succ eQ eS]; exact hv17.tk (TK.same (F13.ext e1317).ns s18)
    · exact (k10.trans k13).trans ((Ext.to e1317).trans (Keep.same s18))
  · obtain ⟨vt, vn, v7, v8, F7, D7, N7, _⟩ := j
    rw [List.length_map, hls] at D7 N7
    have G7 := G.ext F7.keep
    have hf7 := hf.ext F7.keep
    refine W.cons (W.ret (W.vand (W.cmp (W.nl F7 5 (W.nl F7 0 (W.eqD r' D7 hf7 (W.tb ?_)))))))
    rw [e1, if_pos rfl]
    refine W.vand (W.cmp (W.nl F7 6 (W.callN (W.ng G7 (.ref 158) (W.callW (lk_mvat _) (W.sp (W.nl F7 0 (W.sp (W.nl F7 4 (W.sp0 ⟨G7, mvat_W (k := k) (m := m) G7 (r'.mono (by omega)) hf7 hfk (isList_at hpl fun o e => F7.keep.get e) (hpt.ext F7.keep) hpm hp2 (by omega) fun h8 v8 e8 hv8 => W.eqR r' (N7.ext e8) hv8 (W.tb ?_)⟩))))))))))
    rw [e2, decide_eq_true rfl, if_pos rfl]
    have F8 := F7.ext e8
    have G8 := G.ext F8.keep
    refine W.vone (W.cmp (W.callN (W.nb G8 boot_len (W.callB (W.sp (W.nl F8 2 (W.sp0 (W.lenL (isList_at hql fun o e => F8.keep.get e) (by simp; omega) fun t => ?_))))))))
    refine W.callN (W.nb G8 boot_len (W.callB (W.sp (W.nl F8 1 (W.sp0 (W.lenL (isList_at hsl fun o e => F8.keep.get e) (by simp; omega) fun t => W.eqI ?_))))))
    have : (((qds.map Value.ref).length : Int) == ((sds.map Value.ref).length : Int)) = true := by simp [hlq, hls]
    rw [this]
    exact q h8 F8.keep
end
end NN
end

section
open PySem PySem.W PyProof.Rows
set_option linter.unusedVariables false
set_option linter.unusedSimpArgs false
namespace NN
set_option maxRecDepth 100000

section
variable {z : Z} {A : Around} {h : Heap} {env : Env}
/-- as defC, the cells' places told to be new, those of bare names too -/
theorem W.defCF {f : Addr} (i : Nat) {cd pm : Value} {args : List Value} (nm : List Str) (bs : List Bool) {k : Nat} {Q : Value → Heap → Prop} (G : GL z h) (r : Rm A (k + 1))
    (hl : (KK z.w).lookup f = some (objD i cd pm)) (hcd : codeIn (KK z.w) cd (dName (stD i)) = true) (hok : okDefC i nm bs = true) (hlen : args.length = bs.length)
    (hb : bindArgs (fnD i cd pm) ⟨args, []⟩ = PySem.Sem.pure ((nm.take bs.length).zip args))
    (body : ∀ L hb h₁, Ext h hb → MF hb nm L (mk bs args ++ List.replicate (nm.length - bs.length) none) h₁ → Rb (A.deeper (envC i cd pm L f)) k →
      (∀ x c, (envC i cd pm L f).cells.lookup x = some c → hb.IsCell c (bindC (envC i cd pm L f).kindOf ((nm.take bs.length).zip args) (fun _ => none) x) ∧ h.get? c = none) → h.get? L = none →
      W z (A.deeper (envC i cd pm L f)) (execs (dBody (stD i)) (envC i cd pm L f)) h₁ (fun fl h' => Q (retOf fl) h')) :
    W z A (call (.ref f) args) h Q := fun n => by
  simp only [okDefC, Bool.and_eq_true, beq_iff_eq, Bool.not_eq_true', decide_eq_true_eq, List.all_eq_true, Bool.or_eq_true] at hok
  obtain ⟨⟨⟨⟨⟨⟨h1, h2⟩, h3⟩, h4⟩, h5⟩, h6⟩, h7⟩ := hok
  have hz : (nm.take bs.length).length = args.length := by rw [List.length_take]; omega
  refine wpAny_call (codeAny_call_cells (fd := fnD i cd pm) (body := dBody (stD i)) (binds := (nm.take bs.length).zip args) (by have := r.d; omega) (G.k _ _ hl) rfl G.nolimit (codeRec_of G.k hcd) rfl
    hb rfl (fun x hx => ?_) (fun s₁ X => ?_) h2 h3 h1)
  · have hm := mem_zip_fst hx
    rcases maskOk_mem h6 hm with q | q
    · exact .inl q
    · refine .inr ⟨q, ?_⟩
      rcases h7 x.1 hm with q' | q'
      · have q : List.lookup x.1 (dScope (stD i)).names = some NameKind.cell := q
        rw [q'] at q; cases q
      · rw [← q']; exact cellsFrom_isSome _ _ _ _ _ _ fun _ => rfl
  · obtain ⟨h₁, tk, rfl⟩ := X.toInCall.same
    have hLs : h.get? h.objs.size = none := fresh_size h
    have F : MF (h₁.hide h.objs.size) nm h.objs.size (mk bs args ++ List.replicate (nm.length - bs.length) none) h₁ := by
      refine ⟨?_, fun a o _ e => Heap.of_hide e, Heap.hide_self _ _⟩
      obtain ⟨o, es, ep, a, b, c, d⟩ := X.toInCall.ns
      refine ⟨o, es, ep, a, b, c, fun y => (d y).trans ?_⟩
      have e1 := bindL_mask (fun n => (dScope (stD i)).names.lookup n) (nm.take bs.length) args bs (fun _ => none) y (h4.sublist (List.take_sublist _ _)) h6 hz
      have e2 := lkv_append (nm.take bs.length) (nm.drop bs.length) (mk bs args) (nm.length - bs.length) y (mk_length _ h6 hz)
      rw [List.take_append_drop] at e2
      rw [e2]
      refine e1.trans ?_
      cases lkv (nm.take bs.length) (mk bs args) y <;> rfl
    have rb : Rb (A.deeper (envC i cd pm h.objs.size f)) k := ⟨r.deeper _, by
      obtain ⟨l, e⟩ := r.f
      exact ⟨envC i cd pm h.objs.size f, l, by simp only [Around.deeper, e]; rfl, h3, h2, rfl, rfl⟩⟩
    have ex : Ext h (h₁.hide h.objs.size) := fun b o _ e => by
      rw [Heap.hide_ne]
      · exact X.toInCall.keep b o e
      · intro q; rw [q, hLs] at e; cases e
    refine (body h.objs.size (h₁.hide h.objs.size) h₁ ex F rb (fun x c hc => ?_) hLs).use tk fun fl h' n' q => ?_
    · obtain ⟨o, ho, hd⟩ := X.cell x c hc
      have hab := X.above x c (mem_of_lookup hc)
      have hne : c ≠ h.objs.size := Nat.ne_of_gt hab
      exact ⟨⟨o, by rw [Heap.hide_ne _ hne]; exact ho, hd⟩, fresh_ge h c (Nat.le_of_lt hab)⟩
    · cases fl <;> exact ⟨h', n', rfl, q⟩

theorem not_tup_cell {h : Heap} {c : Addr} {v : Option Value} (x : h.IsCell c v) : ∀ ys, ¬ IsTup h c ys := fun ys t => by
  obtain ⟨o, ho, hd⟩ := x
  obtain ⟨o', ho', _, n, hd'⟩ := t
  rw [ho] at ho'; cases ho'; rw [hd] at hd'; cases hd'
theorem isCell_at {h h' : Heap} {c : Addr} {v : Option Value} (x : h.IsCell c v) (e : ∀ o, h.get? c = some o → h'.get? c = some o) : h'.IsCell c v := let ⟨o, ho, hd⟩ := x; ⟨o, e o ho, hd⟩
theorem W.storeC {x : Str} {c : Addr} {v0 : Option Value} {v : Value} {Q : Unit → Heap → Prop} (hv : h.IsCell c v0) (q : ∀ h', h'.IsCell c (some v) → Keep (fun a => a = c) h h' → TK h h' → Q () h') (hc : env.cells.lookup x = some c := by kernel_rfl!)
    (hk : env.scope.kind = .function := by rfl) (hl : env.kindOf x = some .cell := by kernel_rfl!) : W z A (storeName env x v) h Q := fun n =>
  wpAny_storeName_cell (s := at_ z h n) hk hl hc hv fun h' hv' hs => W.ok (q h' hv' (Keep.same hs) (TK.keep (Keep.same hs) fun b hb => by rw [hb]; exact not_tup_cell hv))
theorem W.neNil {k : Nat} {a b : Addr} {Q : Value → Heap → Prop} (r : Rm A (k + 8)) (ha : h.IsList a #[]) (hb : h.IsList b #[]) (q : Q (.bool false) h) : W z A (compareOp .NotEq (.ref a) (.ref b)) h Q := fun n =>
  ke_ne_ints (s := at_ z h n) (xs := []) (ys := []) (ns := []) (ms := []) ha hb .nil .nil (by have := r.u; omega) (W.ok q)
end
end NN
end

section
open PySem PySem.W PyProof.Rows
set_option linter.unusedVariables false
set_option linter.unusedSimpArgs false
namespace NN
set_option maxRecDepth 100000

theorem ad (L : Addr) : L + 2 ≠ L ∧ L + 3 ≠ L ∧ L + 1 ≠ L + 2 ∧ L + 1 ≠ L + 3 ∧ L + 2 ≠ L + 3 := by
  have : ∀ n : Nat, n + 2 ≠ n ∧ n + 3 ≠ n ∧ n + 1 ≠ n + 2 ∧ n + 1 ≠ n + 3 ∧ n + 2 ≠ n + 3 := by omega
  exact this L
/-- the checker's frame: its two mutable cells, the leads -/
structure LS (hB : Heap) (L la : Addr) (nm : List Str) (vs : List (Option Value)) (lvs : List Value) (ls : List (Option (List Int × Rat))) (h : Heap) : Prop where
  F : MF hB nm L vs h
  c2 : ∃ v, h.IsCell (L + 2) v
  c3 : ∃ v, h.IsCell (L + 3) v
  la : h.IsList la lvs.toArray
  ld : LeadsAt h lvs ls
theorem LS.move {hB : Heap} {L la : Addr} {nm : List Str} {vs : List (Option Value)} {lvs : List Value} {ls} {h h' : Heap} {D : Addr → Prop} (x : LS hB L la nm vs lvs ls h) (kk : Keep D h h') (t : TK h h') (hn : ∀ a, D a → hB.get? a = none) (h0 : ¬ D L) (h2 : ¬ D (L + 2)) (h3 : ¬ D (L + 3)) (hl : ¬ D la) : LS hB L la nm vs lvs ls h' :=
  ⟨x.F.keepD kk h0 hn, let ⟨v, hv⟩ := x.c2; ⟨v, isCell_at hv fun o e => kk _ o h2 e⟩, let ⟨v, hv⟩ := x.c3; ⟨v, isCell_at hv fun o e => kk _ o h3 e⟩, isList_at x.la fun o e => kk _ o hl e, x.ld.tk t⟩
theorem LS.ext {hB : Heap} {L la : Addr} {nm : List Str} {vs : List (Option Value)} {lvs : List Value} {ls} {h h' : Heap} (x : LS hB L la nm vs lvs ls h) (e : Ext h h') : LS hB L la nm vs lvs ls h' := x.move (D := fun _ => False) e (TK.ext e) (fun _ f => f.elim) id id id id
theorem hide_ext (h : Heap) (L : Addr) : Ext (h.hide L) h := fun a o _ e => Heap.of_hide e
theorem hide_get {h : Heap} {L a : Addr} (ne : a ≠ L) {o : Obj} (e : h.get? a = some o) : (h.hide L).get? a = some o := by rw [Heap.hide_ne _ ne]; exact e
/-- all that stands but the frame's names as the ground -/
theorem MF.rebase {h₀ h : Heap} {nm : List Str} {L : Addr} {vs : List (Option Value)} (F : MF h₀ nm L vs h) : MF (h.hide L) nm L vs h ∧ Ext h₀ (h.hide L) :=
  ⟨⟨F.ns, hide_ext h L, Heap.hide_self _ _⟩, fun a o _ e => hide_get (fun q => by rw [q, F.fresh] at e; cases e) (F.keep.get e)⟩
theorem LS.others {hB : Heap} {L la : Addr} {nm : List Str} {vs : List (Option Value)} {lvs : List Value} {ls} {h : Heap} (x : LS hB L la nm vs lvs ls h) : la ≠ L ∧ la ≠ L + 2 ∧ la ≠ L + 3 := by
  obtain ⟨o, ho, hc, n, hd⟩ := x.la
  refine ⟨fun q => ?_, fun q => ?_, fun q => ?_⟩
  · obtain ⟨o', es, ep, ho', hd', _⟩ := x.F.ns
    rw [q, ho'] at ho; cases ho; rw [hd'] at hd; cases hd
  · obtain ⟨v, o', ho', hd'⟩ := x.c2
    rw [q, ho'] at ho; cases ho; rw [hd'] at hd; cases hd
  · obtain ⟨v, o', ho', hd'⟩ := x.c3
    rw [q, ho'] at ho; cases ho; rw [hd'] at hd; cases hd
theorem LS.still {hB : Heap} {L la : Addr} {nm : List Str} {vs vs' : List (Option Value)} {lvs : List Value} {ls} {h h' : Heap} (x : LS hB L la nm vs lvs ls h) (e : Ext (h.hide L) h') (F : MF hB nm L vs' h') : LS hB L la nm vs' lvs ls h' := by
  obtain ⟨n1, _, _⟩ := x.others
  refine ⟨F, let ⟨v, hv⟩ := x.c2; ⟨v, isCell_at hv fun o q => e.get (hide_get (ad L).1 q)⟩, let ⟨v, hv⟩ := x.c3; ⟨v, isCell_at hv fun o q => e.get (hide_get (ad L).2.1 q)⟩, isList_at x.la fun o q => e.get (hide_get n1 q), ?_⟩
  refine x.ld.tk ?_
  exact TK.keep (D := fun a => a = L) (fun a o hne q => e.get (hide_get hne q)) fun b hb => by rw [hb]; exact not_tup_ns x.F.ns

theorem LS.stored {hB : Heap} {L la : Addr} {nm : List Str} {vs vs' : List (Option Value)} {lvs : List Value} {ls} {h h' : Heap} (x : LS hB L la nm vs lvs ls h) (F : MF hB nm L vs' h') (s : Heap.SameBut L h h') : LS hB L la nm vs' lvs ls h' :=
  ⟨F, let ⟨v, hv⟩ := x.c2; ⟨v, isCell_at hv fun o e => (s.2 _ (ad L).1).trans e⟩, let ⟨v, hv⟩ := x.c3; ⟨v, isCell_at hv fun o e => (s.2 _ (ad L).2.1).trans e⟩, isList_at x.la fun o e => (s.2 _ x.others.1).trans e, x.ld.tk (TK.same x.F.ns s)⟩
theorem LS.reb {hB : Heap} {L la : Addr} {nm : List Str} {vs : List (Option Value)} {lvs : List Value} {ls} {h : Heap} (x : LS hB L la nm vs lvs ls h) : LeadsAt (h.hide L) lvs ls ∧ (h.hide L).IsList la lvs.toArray ∧ ∀ c v, c ≠ L → h.IsCell c v → (h.hide L).IsCell c v :=
  ⟨x.ld.tk (TK.keep (D := fun a => a = L) (fun a o hne q => hide_get hne q) fun b hb => by rw [hb]; exact not_tup_ns x.F.ns), isList_at x.la fun o q => hide_get x.others.1 q, fun c v hc hv => isCell_at hv fun o q => hide_get hc q⟩

section
variable {z : Z} {A : Around} {h : Heap} {k : Nat}
theorem law_leads_right_W {fa sa qa rd : Addr} {f rest : Poly} {sds qds : List Addr} {ss qs : List Poly} {o : Ord} {to : Tok} {m : Nat} {Q : Value → Heap → Prop} (G : GL z h) (r : Rm A (k + 12)) (hf : DA z h fa f) (hsl : h.IsList sa ((sds.map Value.ref).toArray)) (hss : PolysAt z h sds ss)
    (hql : h.IsList qa ((qds.map Value.ref).toArray)) (hqs : PolysAt z h qds qs) (hrd : DA z h rd rest) (hm : 1 ≤ m) (hm2 : m ≤ 100) (hn : ss.length ≤ 100) (hqn : qs.length = ss.length)
    (lf : ∀ e ∈ f, e.1.length = m) (ls : ∀ s ∈ ss, ∀ e ∈ s, e.1.length = m) (lq : ∀ q ∈ qs, ∀ e ∈ q, e.1.length = m) (lr : ∀ e ∈ rest, e.1.length = m)
    (H1 : ∀ e ∈ rest, e.2 ≠ 0 ∧ ∀ s ∈ ss, divides e.1 (plead o s) = false)
    (H2 : ∀ (i : Nat) qp, qs[i]? = some qp → ∀ e ∈ qp, ∃ le fe, plead o (ss.getD i []) = some le ∧ plead o f = some fe ∧ lexGt (okey o (kadd e.1 le.1)) (okey o fe.1) = false ∧ ∀ j < i, divides (kadd e.1 le.1) (plead o (ss.getD j [])) = false)
    (q : ∀ h', Ext h h' → Q (.bool true) h') : W z A (call (.ref 215) [.ref fa, .ref sa, .ref qa, .ref rd, .str o.name to]) h Q := by
  refine W.defCF 36 nm_law_leads_right [true, true, true, true, false] G r (lk_law_leads_right _) (cd_law_leads_right _) (by kernel_rfl!) rfl (by kernel_rfl!) fun L hb₀ h₁ e0 F R cells hL0 => ?_
  have r' := R.r
  have h100 : (1000 : Nat) ≤ sizeLine := by decide
  have cc1 := cells (Str.ofString "order") (L + 1) (by kernel_rfl!)
  have cc2 := cells (Str.ofString "powers") (L + 2) (by kernel_rfl!)
  have cc3 := cells (Str.ofString "top") (L + 3) (by kernel_rfl!)
  have co : hb₀.IsCell (L + 1) (some (.str o.name to)) := cc1.1
  obtain ⟨hB, eB1, eB2, nB1, nB2, eB3⟩ := two_hidden e0 cc2.2 cc3.2
  have cB : hB.IsCell (L + 1) (some (.str o.name to)) := let ⟨ob, ho, hd⟩ := co; ⟨ob, eB3 _ ob (ad L).2.2.1 (ad L).2.2.2.1 ho, hd⟩
  have GB := G.ext eB1
  have FB := F.base eB2
  have hfB := hf.ext eB1
  have hslB : hB.IsList sa ((sds.map Value.ref).toArray) := isList_at hsl fun o e => eB1.get e
  have hssB := hss.ext eB1
  have hqlB : hB.IsList qa ((qds.map Value.ref).toArray) := isList_at hql fun o e => eB1.get e
  have hqsB := hqs.ext eB1
  have hrdB := hrd.ext eB1
  have hlen : sds.length = ss.length := hss.1
  have hlq : qds.length = qs.length := hqs.1
  -- leads
  refine W.cons (W.asgLcomp (cl := [(Str.ofString "order", L + 1)]) (by kernel_rfl!) rfl (by decide +kernel) (W.nl FB 1 (W.iterList (isList_at hslB fun o e => FB.keep.get e) fun I hs es hI hit => ⟨I, rfl, ?_⟩)) (by kernel_rfl!))
  have hsaI : sa ≠ I := fun q => by obtain ⟨o, ho, _⟩ := hslB; have := FB.keep.get ho; rw [q, hI] at this; cases this
  refine compLst r' (FB.ext es) hit (isList_at hslB fun o e => es.get (FB.keep.get e)) (none_of FB.keep hI) (FB.neL hI) hsaI (by simp; omega) (by kernel_rfl!)
    (fun i xs h => LeadsAt h xs ((ss.map (plead o)).take i)) (fun _ _ => ⟨by simp, fun i v q a b => by simp at a⟩) (fun _ _ _ _ j t => j.tk t) (fun C i xs h2 x hx FC FO tk j => ?_) (fun D C xs h' hD hC hDC hl' hm' FO hk tk j => ?_)
  · refine W.tests0 ?_
    rw [if_pos rfl]
    have G2 := GB.ext FC.keep
    rw [List.getElem?_map] at hx
    cases hsd : sds[i]? with
    | none => rw [hsd] at hx; cases hx
    | some sd =>
      rw [hsd] at hx
      cases hx
      have hi : i < ss.length := by rw [← hlen]; exact (List.getElem?_eq_some_iff.mp hsd).1
      have hS : ss[i]? = some ss[i] := List.getElem?_eq_getElem hi
      have hd := (hssB.2 i sd _ hsd hS).ext FC.keep
      refine W.callN (W.ng G2 (.ref 165) (W.callW (lk_mvlead _) (W.sp (W.nl FC 0 (W.sp (W.cell (cB.keeps FC.keep.ks) (W.sp0 ⟨G2, mvlead_W (k := k) (m := m) G2 (r'.mono (by omega)) hd (ls _ (List.getElem_mem hi)) hm hm2 fun h3 v3 e3 hv3 => ⟨e3, ?_⟩⟩)))))))
      have jl : xs.length = i := by
        have := j.1
        simp at this; omega
      refine ⟨by simp [jl]; omega, fun i' v' q' a b => ?_⟩
      rw [List.getElem?_append] at a
      split at a
      · rename_i hlt
        refine ((j.2 i' v' q' a ?_).ext e3)
        rw [List.getElem?_take] at b ⊢
        rw [if_pos (by omega)] at b
        rw [if_pos (by omega)]
        exact b
      · rename_i hge
        have : i' = i := by
          have := (List.getElem?_eq_some_iff.mp a).1
          simp at this; omega
        subst this
        simp [jl] at a
        subst a
        rw [List.getElem?_take, if_pos (by omega), List.getElem?_map, hS] at b
        cases b
        exact hv3
  rw [List.take_of_length_le (by simp [hlen])] at j
  have hbC : hB.get? C = none := none_of (FB.keep.trans es) hC
  have hLC : L ≠ C := fun q => (FB.ext es).neL hC q.symm
  have hDL : D ≠ L := (FB.ext es).neL hD
  have x2 : ∃ ob, h₁.get? (L + 2) = some ob := let ⟨ob, ho, _⟩ := cc2.1; ⟨ob, F.keep.get ho⟩
  have x3 : ∃ ob, h₁.get? (L + 3) = some ob := let ⟨ob, ho, _⟩ := cc3.1; ⟨ob, F.keep.get ho⟩
  obtain ⟨mC, hmC⟩ := hm'
  refine W.store FO 5 fun h2 F2 s2 => ⟨⟨mC, hmC.at fun o e => (s2.2 _ (Ne.symm hLC)).trans e⟩, fun h3 s3 => ?_⟩
  have F3 := F2.comp s3 hbC hLC
  have k13 : ∀ a ob, a ≠ L → h₁.get? a = some ob → h3.get? a = some ob := fun a ob ha e => by
    have e1 := es.get e
    have nC : a ≠ C := fun q => by rw [q, hC] at e1; cases e1
    have nI : a ≠ I := fun q => by rw [q, hI] at e; cases e
    exact (s3.2 a nC).trans ((s2.2 a ha).trans (hk a ob (by simpa using nI) e1))
  have S3 : LS hB L D nm_law_leads_right [some (.ref fa), some (.ref sa), some (.ref qa), some (.ref rd), none, some (.ref D), none, none, none, none] xs (ss.map (plead o)) h3 := by
    refine ⟨F3, ?_, ?_, isList_at hl' fun o e => (s3.2 _ hDC).trans ((s2.2 _ hDL).trans e), j.tk ((TK.same FO.ns s2).trans (TK.same (hmC.at fun o e => (s2.2 _ (Ne.symm hLC)).trans e) s3))⟩
    · exact ⟨_, isCell_at cc2.1 fun o e => k13 _ o (ad L).1 (F.keep.get e)⟩
    · exact ⟨_, isCell_at cc3.1 fun o e => k13 _ o (ad L).2.1 (F.keep.get e)⟩
  clear hk tk hit k13 F3 FO
  have hxl : xs.length = ss.length := by have := j.1; simpa using this
  have hB2n : ∀ a, (a = L ∨ a = L + 2 ∨ a = L + 3) → hB.get? a = none := by
    rintro a (rfl | rfl | rfl)
    · exact FB.fresh
    · exact nB1
    · exact nB2
  -- the rest
  refine W.cons (W.forKeys (h₀ := hB) (d := rd) (R := rest) r' (fun i h' => LS hB L D nm_law_leads_right [some (.ref fa), some (.ref sa), some (.ref qa), some (.ref rd), none, some (.ref D), none, none, none, none] xs (ss.map (plead o)) h') (fun x => x = L ∨ x = L + 2 ∨ x = L + 3)
    (fun Q' q' => W.nl S3.F 3 q') S3.F.keep hrdB (fun x hx => ?_) (fun h4 e4 => S3.ext e4) (fun I i h4 h5 hI S kk tk => ?_) (fun i h4 S => S.F.keep) (fun i ks c v h4 hR hk S => ?_) (fun h' S => ?_))
  · rcases hx with rfl | rfl | rfl
    · obtain ⟨o, _, _, ho, _⟩ := S3.F.ns; exact ⟨o, ho⟩
    · obtain ⟨v, o, ho, _⟩ := S3.c2; exact ⟨o, ho⟩
    · obtain ⟨v, o, ho, _⟩ := S3.c3; exact ⟨o, ho⟩
  · refine S.move kk tk (fun a ha => by rw [ha]; exact none_of S3.F.keep hI) (fun q => S3.F.neL hI q.symm) (fun q => ?_) (fun q => ?_) (fun q => ?_)
    · obtain ⟨v, o, ho, _⟩ := S3.c2; rw [q, hI] at ho; cases ho
    · obtain ⟨v, o, ho, _⟩ := S3.c3; rw [q, hI] at ho; cases ho
    · obtain ⟨o, ho, _⟩ := S3.la; rw [q, hI] at ho; cases ho
  · obtain ⟨v0, hv0⟩ := S.c2
    refine W.storeC hv0 fun h5 hc5 k5 t5 => ?_
    have S5 : LS hB L D nm_law_leads_right [some (.ref fa), some (.ref sa), some (.ref qa), some (.ref rd), none, some (.ref D), none, none, none, none] xs (ss.map (plead o)) h5 := ⟨S.F.keepD k5 (fun q => (ad L).1 q.symm) (fun a ha => by rw [ha]; exact nB1), ⟨_, hc5⟩, let ⟨v, hv⟩ := S.c3; ⟨v, isCell_at hv fun o e => k5 _ o (fun q => (ad L).2.2.2.2 q.symm) e⟩, isList_at S.la fun o e => k5 _ o S.others.2.1 e, S.ld.tk t5⟩
    obtain ⟨FR, eR⟩ := S5.F.rebase
    obtain ⟨ldR, laR, cRR⟩ := S5.reb
    have GR := GB.ext eR
    have cR : (h5.hide L).IsCell (L + 2) (some v) := cRR _ _ (ad L).1 hc5
    have hkR : KeyAt (h5.hide L) v ks := (hk.ext eR)
    have hrdR := hrdB.ext eR
    have hmem := List.mem_of_getElem? hR
    have hl := look_of_get hrd.nodup hR
    have G5 := GR.ext FR.keep
    have hnz : c ≠ 0 := (H1 _ hmem).1
    have lks : ks.length = m := lr _ hmem
    refine W.cons (W.iff (W.tor (W.tcmp (W.sub (W.nl FR 3 (W.cell hc5 (W.getD (k := 0) (r'.mono (by omega)) (hkR.ext FR.keep) (hrdR.ext FR.keep).p hl fun x hx => W.ng G5 (.ref 64) (W.eqR r' hx G5.R0 (W.tb ?_)))))))))
    rw [if_neg (by simpa using hnz)]
    refine W.tor (W.tcmp (W.lcomp (cl := [(Str.ofString "powers", L + 2)]) (by kernel_rfl!) rfl (by decide +kernel) (W.nl FR 5 (W.iterList S5.la fun I6 h6 e6 hI6 hit6 => ⟨I6, rfl, ?_⟩))))
    have hDI : D ≠ I6 := fun q => by obtain ⟨o, ho, _⟩ := S5.la; rw [q, hI6] at ho; cases ho
    refine compLst r' (FR.ext e6) hit6 (isList_at S5.la fun o e => e6.get e) (none_of FR.keep hI6) (FR.neL hI6) hDI (by omega) (by kernel_rfl!) (fun i ys h => ys = []) (fun _ _ => rfl) (fun _ _ _ _ j _ => j) (fun C6 i6 ys h7 x hx FC FO tk j => ?_) (fun D6 C6 ys h7 hD6 hC6 hDC6 hl6 hm6 FO hk6 tk6 j => ?_)
    · subst j
      have hix : i6 < ss.length := by rw [← hxl]; exact (List.getElem?_eq_some_iff.mp hx).1
      have hL7 := (ldR.2 i6 x _ hx (by rw [List.getElem?_map, List.getElem?_eq_getElem hix]; rfl)).ext FC.keep
      have G7 := GR.ext FC.keep
      have hdv := (H1 _ hmem).2 _ (List.getElem_mem hix)
      refine W.tests1 (W.tand (W.tcmp (W.nl FC 0 (W.cnone (W.isNotN hL7.plain.1 (W.tb ?_))))))
      rw [hL7.plain.2]
      cases hls : plead o ss[i6] with
      | none =>
        simp only [Option.isNone_none, Bool.not_true, Bool.false_eq_true, if_false]
        exact ⟨fun _ _ _ e => e, trivial⟩
      | some e =>
        rw [hls] at hL7 hdv
        simp only [Option.isNone_some, Bool.not_false, if_true]
        obtain ⟨ta, va, vc, rfl, T, hka, hca⟩ := hL7
        have hle : e.1.length = m := ls _ (List.getElem_mem hix) _ (plead_mem hls)
        refine W.tand (W.tplain (W.callN (W.ng G7 (.ref 51) (W.callW (lk_powers_divide _) (W.sp (W.sub (W.nl FC 0 (W.cint fun _ => W.tup0 T (W.sp (W.cell (cR.keeps FC.keep.ks) (W.sp0 ⟨G7, powers_divide_W (k := k) G7 (r'.mono (by omega)) hka (hkR.ext FC.keep) (by omega) (by omega) fun h11 e11 => W.tb ?_⟩)))))))))))
        have hp : pdiv e.1 ks = false := hdv
        rw [hp]
        simp only [Bool.false_eq_true, if_false]
        exact ⟨e11, trivial⟩
    · subst j
      refine ⟨hm6, fun h8 s8 => W.list (W.sp0 (W.newLst fun b9 h9 e9 hb9 _ => ?_))⟩
      have hC6R : (h5.hide L).get? C6 = none := none_of (Keep.trans FR.keep e6) hC6
      have hLC6 : L ≠ C6 := fun q => (FR.ext e6).neL hC6 q.symm
      have F9 := (FO.comp s8 hC6R hLC6).ext e9
      have S9 := S5.still F9.keep (F9.base eR)
      refine W.neNil (k := k) (r'.mono (by omega)) (isList_at hl6 fun o e => e9.get ((s8.2 _ hDC6).trans e)) hb9 (W.tb ?_)
      rw [if_neg (by decide)]
      refine W.tor0 ?_
      rw [if_neg (by decide)]
      exact W.nil (W.nil ⟨S9, fun a ob ha e => F9.keep.get (hide_get (fun q => ha (.inl q)) (k5 a ob (fun q => ha (.inr (.inl q))) e))⟩)
  -- the quotients
  have G4 := GB.ext S.F.keep
  refine W.cons (W.forEnumList (h₀ := hB) (l := qa) (ws := qds.map Value.ref) r' (fun j h' => ∃ v7 v8, LS hB L D nm_law_leads_right [some (.ref fa), some (.ref sa), some (.ref qa), some (.ref rd), none, some (.ref D), none, v7, v8, none] xs (ss.map (plead o)) h') (fun x => x = L ∨ x = L + 2 ∨ x = L + 3)
    (fun Q' q' => W.callN (W.nb G4 boot_enumerate (W.callT (W.sp (W.nl S.F 2 (W.sp0 (W.enumList (isList_at hqlB fun o e => S.F.keep.get e) q'))))))) S.F.keep hqlB (fun x hx => ?_) (fun h7 e7 => ⟨_, _, S.ext e7⟩) (fun e I i h7 h8 he hI j kk tk => ?_) (fun i h7 j => ?_) (fun j v t h7 h8 hw jj e8 => ?_) (fun h' j => ?_))
  · rcases hx with rfl | rfl | rfl
    · obtain ⟨o, _, _, ho, _⟩ := S.F.ns; exact ⟨o, ho⟩
    · obtain ⟨v, o, ho, _⟩ := S.c2; exact ⟨o, ho⟩
    · obtain ⟨v, o, ho, _⟩ := S.c3; exact ⟨o, ho⟩
  · obtain ⟨v7, v8, S7⟩ := j
    refine ⟨v7, v8, S7.move kk tk (fun a ha => ?_) ?_ ?_ ?_ ?_⟩
    · rcases ha with rfl | rfl
      · exact none_of S.F.keep he
      · exact none_of S.F.keep hI
    · rintro (q | q)
      · exact S.F.neL he q.symm
      · exact S.F.neL hI q.symm
    · obtain ⟨v, o, ho, _⟩ := S.c2
      rintro (q | q)
      · rw [q, he] at ho; cases ho
      · rw [q, hI] at ho; cases ho
    · obtain ⟨v, o, ho, _⟩ := S.c3
      rintro (q | q)
      · rw [q, he] at ho; cases ho
      · rw [q, hI] at ho; cases ho
    · obtain ⟨o, ho, _⟩ := S.la
      rintro (q | q)
      · rw [q, he] at ho; cases ho
      · rw [q, hI] at ho; cases ho
  · obtain ⟨v7, v8, S7⟩ := j; exact S7.F.keep
  · obtain ⟨v7, v8, S7⟩ := jj
    have S8 := S7.ext e8
    refine W.store S8.F 7 fun h9 F9 s9 => W.store F9 8 fun h10 F10 s10 => ?_
    have S10 := (S8.stored F9 s9).stored F10 s10
    have k810 : Keep (fun x => x = L ∨ x = L + 2 ∨ x = L + 3) h8 h10 := ((Keep.same s9).trans (Keep.same s10)).weak fun x hx => .inl hx
    rw [List.getElem?_map] at hw
    obtain ⟨qd, hqd, rfl⟩ : ∃ qd, qds[j]? = some qd ∧ v = .ref qd := by
      cases hq : qds[j]? with
      | none => rw [hq] at hw; cases hw
      | some qd => rw [hq] at hw; cases hw; exact ⟨qd, rfl, rfl⟩
    have hjq : j < qs.length := by rw [← hlq]; exact (List.getElem?_eq_some_iff.mp hqd).1
    have hjs : j < ss.length := by omega
    have eQ : qs[j]? = some qs[j] := List.getElem?_eq_getElem hjq
    have eS : ss[j]? = some ss[j] := List.getElem?_eq_getElem hjs
    have gD : ss.getD j [] = ss[j] := by rw [List.getD_eq_getElem?_getD, eS]; rfl
    have DQ := hqsB.2 j _ _ hqd eQ
    have mQ := List.getElem_mem hjq
    have hjx : j < xs.length := by omega
    have eX : xs[j]? = some xs[j] := List.getElem?_eq_getElem hjx
    have hL10 : LeadAt h10 xs[j] (plead o ss[j]) := S10.ld.2 j _ _ eX (by rw [List.getElem?_map, eS]; rfl)
    have G10 := GB.ext S10.F.keep
    -- the loop over the quotient's terms
    have cont : ∀ h11, Ext h10 h11 → W z (A.deeper (envC 36 (.ref 214) (.str (Str.ofString "law_nn0260_01") 426) L 215))
        (execs (match ((dBody (stD 36)).drop 2).head? with | some (.For _ _ b _ _) => b.drop 1 | _ => []) (envC 36 (.ref 214) (.str (Str.ofString "law_nn0260_01") 426) L 215)) h11
        (fun f h3 => f = .next ∧ LS hB L D nm_law_leads_right [some (.ref fa), some (.ref sa), some (.ref qa), some (.ref rd), none, some (.ref D), none, some (.int (j : Int) t), some (.ref qd), none] xs (ss.map (plead o)) h3 ∧ Keep (fun x => x = L ∨ x = L + 2 ∨ x = L + 3) h10 h3) := by
      intro h11 e11
      have S11 := S10.ext e11
      refine W.cons (W.forKeys (h₀ := hB) (d := qd) (R := qs[j]) r' (fun i h' => LS hB L D nm_law_leads_right [some (.ref fa), some (.ref sa), some (.ref qa), some (.ref rd), none, some (.ref D), none, some (.int (j : Int) t), some (.ref qd), none] xs (ss.map (plead o)) h' ∧ Keep (fun x => x = L ∨ x = L + 2 ∨ x = L + 3) h10 h') (fun x => x = L ∨ x = L + 2 ∨ x = L + 3)
        (fun Q' q' => W.nl S11.F 8 q') S11.F.keep DQ (fun x hx => ?_) (fun h12 e12 => ⟨S11.ext e12, Ext.to (Keep.trans e11 e12)⟩) (fun I i h12 h13 hI jj kk tk => ?_) (fun i h12 jj => jj.1.F.keep) (fun i ks c v h12 hR hk jj => ?_) (fun h' jj => W.nil ⟨rfl, jj.1, jj.2⟩))
      · rcases hx with rfl | rfl | rfl
        · obtain ⟨o, _, _, ho, _⟩ := S11.F.ns; exact ⟨o, ho⟩
        · obtain ⟨v, o, ho, _⟩ := S11.c2; exact ⟨o, ho⟩
        · obtain ⟨v, o, ho, _⟩ := S11.c3; exact ⟨o, ho⟩
      · refine ⟨jj.1.move kk tk (fun a ha => by rw [ha]; exact none_of S11.F.keep hI) (fun q => S11.F.neL hI q.symm) (fun q => ?_) (fun q => ?_) (fun q => ?_), fun a ob ha e => kk a ob (fun q => by have := e11.get e; rw [q, hI] at this; cases this) (jj.2 a ob ha e)⟩
        · obtain ⟨v, o, ho, _⟩ := S11.c2; rw [q, hI] at ho; cases ho
        · obtain ⟨v, o, ho, _⟩ := S11.c3; rw [q, hI] at ho; cases ho
        · obtain ⟨o, ho, _⟩ := S11.la; rw [q, hI] at ho; cases ho
      obtain ⟨S12, K12⟩ := jj
      have hmem := List.mem_of_getElem? hR
      obtain ⟨le, fe, hle, hfe, hgt, hnd⟩ := H2 j _ eQ _ hmem
      rw [gD] at hle
      have lks : ks.length = m := lq _ mQ _ hmem
      have lle : le.1.length = m := ls _ (List.getElem_mem hjs) _ (plead_mem hle)
      have lfe : fe.1.length = m := lf _ (plead_mem hfe)
      have ltop : (kadd ks le.1).length = m := by simp [kadd, lks, lle]
      obtain ⟨v0, hv0⟩ := S12.c2
      refine W.storeC hv0 fun h13 hc13 k13 t13 => ?_
      have S13 : LS hB L D nm_law_leads_right [some (.ref fa), some (.ref sa), some (.ref qa), some (.ref rd), none, some (.ref D), none, some (.int (j : Int) t), some (.ref qd), none] xs (ss.map (plead o)) h13 := ⟨S12.F.keepD k13 (fun q => (ad L).1 q.symm) (fun a ha => by rw [ha]; exact nB1), ⟨_, hc13⟩, let ⟨v, hv⟩ := S12.c3; ⟨v, isCell_at hv fun o e => k13 _ o (fun q => (ad L).2.2.2.2 q.symm) e⟩, isList_at S12.la fun o e => k13 _ o S12.others.2.1 e, S12.ld.tk t13⟩
      have hk13 : KeyAt h13 v ks := hk.ext S13.F.keep
      have hL13 : LeadAt h13 xs[j] (plead o ss[j]) := S13.ld.2 j _ _ eX (by rw [List.getElem?_map, eS]; rfl)
      rw [hle] at hL13
      obtain ⟨tl, vlk, vlc, exl, Tl, hlk, hlc⟩ := hL13
      have G13 := GB.ext S13.F.keep
      have x62 : xs.length < 2 ^ 62 := by omega
      refine W.cons (W.asg (W.callN (W.ng G13 (.ref 44) (W.callW (lk_powers_product _) (W.sp (W.cell hc13 (W.sp (W.sub (W.sub (W.nl S13.F 5 (W.nl S13.F 7 (W.lstV S13.la (eX.trans (by rw [exl])) x62 (W.cint fun _ => W.tup0 Tl (W.sp0 ⟨G13, powers_product_W (k := k) G13 (r'.mono (by omega)) hk13 hlk (by omega) (by omega) fun h14 v14 e14 hv14 => ?_⟩))))))))))))))
      have S14 := S13.ext e14
      obtain ⟨v3, hv3⟩ := S14.c3
      refine W.storeC hv3 fun h15 hc15 k15 t15 => ?_
      have hc2' : h15.IsCell (L + 2) (some v) := isCell_at hc13 fun o e => k15 _ o (ad L).2.2.2.2 (e14.get e)
      have S15 : LS hB L D nm_law_leads_right [some (.ref fa), some (.ref sa), some (.ref qa), some (.ref rd), none, some (.ref D), none, some (.int (j : Int) t), some (.ref qd), none] xs (ss.map (plead o)) h15 := ⟨S14.F.keepD k15 (fun q => (ad L).2.1 q.symm) (fun a ha => by rw [ha]; exact nB2), ⟨_, hc2'⟩, ⟨_, hc15⟩, isList_at S14.la fun o e => k15 _ o S14.others.2.2 e, S14.ld.tk t15⟩
      have hv15 : KeyAt h15 v14 (kadd ks le.1) := hv14.tk t15
      obtain ⟨FR, eR⟩ := S15.F.rebase
      obtain ⟨ldR, laR, cRR⟩ := S15.reb
      have GR := GB.ext eR
      have cR3 : (h15.hide L).IsCell (L + 3) (some v14) := cRR _ _ (ad L).2.1 hc15
      have cRo : (h15.hide L).IsCell (L + 1) (some (.str o.name to)) := cB.keeps eR.ks
      have hvR : KeyAt (h15.hide L) v14 (kadd ks le.1) := hv15.tk (TK.keep (D := fun a => a = L) (fun a o hne q => hide_get hne q) fun b hb => by rw [hb]; exact not_tup_ns S15.F.ns)
      have G15 := GR.ext FR.keep
      have hfR := hfB.ext eR
      have lnn : ∀ l : List Int, l.length = m → l ≠ [] := fun l hl q => by rw [q] at hl; simp at hl; omega
      refine W.cons (W.iff (W.tcmp (W.callN (W.ng G15 (.ref 39) (W.callW (lk_order_key _) (W.sp (W.cell (cRo.keeps FR.keep.ks) (W.sp (W.cell hc15 (W.sp0 ⟨G15, order_key_W (k := k) G15 (r'.mono (by omega)) hv15 (lnn _ ltop) (by omega) fun h16 v16 e16 hv16 => ?_⟩))))))))))
      have F16 := FR.ext e16
      have G16 := GR.ext F16.keep
      refine W.callN (W.ng G16 (.ref 39) (W.callW (lk_order_key _) (W.sp (W.cell (cRo.keeps F16.keep.ks) (W.sp (W.sub (W.callN (W.ng G16 (.ref 165) (W.callW (lk_mvlead _) (W.sp (W.nl F16 0 (W.sp (W.cell (cRo.keeps F16.keep.ks) (W.sp0 ⟨G16, mvlead_W (k := k) (m := m) G16 (r'.mono (by omega)) (hfR.ext F16.keep) lf hm hm2 fun h17 v17 e17 hv17 => W.cint fun _ => ?_⟩))))))))))))))
      rw [hfe] at hv17
      obtain ⟨tf, vfk, vfc, rfl, Tf, hfk, hfc⟩ := hv17
      have G17 := G16.ext e17
      refine W.tup0 Tf (W.sp0 ⟨G17, order_key_W (k := k) G17 (r'.mono (by omega)) hfk (lnn _ lfe) (by omega) fun h18 v18 e18 hv18 => W.gtT r' ((hv16.ext e17).ext e18) hv18 (W.tb ?_)⟩)
      rw [hgt, if_neg (by decide)]
      have F18 := (F16.ext e17).ext e18
      have la18 : h18.IsList D xs.toArray := isList_at laR fun o e => F18.keep.get e
      -- no earlier lead divides
      refine W.nil (W.cons (W.iff (W.tcmp (W.lcomp (cl := [(Str.ofString "top", L + 3)]) (by kernel_rfl!) rfl (by decide +kernel) (W.sub (W.nl F18 5 (W.slice2 (W.nl F18 7 ?_))))))))
      refine fun sl h19 e19 hsl _ => W.lstUpto (isList_at la18 fun o e => e19.get e) hsl (by omega) fun lb h20 e20 hlb hlb0 => W.iterList hlb.isList fun I21 h21 e21 hI21 hit21 => ⟨I21, rfl, ?_⟩
      have F20 := (F18.ext e19).ext e20
      have hlI : lb ≠ I21 := fun q => by obtain ⟨n, ho⟩ := hlb; rw [q, hI21] at ho; cases ho
      refine compLst r' (F20.ext e21) hit21 (isList_at hlb.isList fun o e => e21.get e) (none_of F20.keep hI21) (F20.neL hI21) hlI (by rw [List.length_take]; omega) (by kernel_rfl!) (fun i ys h => ys = []) (fun _ _ => rfl) (fun _ _ _ _ j _ => j) (fun C6 i6 ys h22 x hx FC FO tk jy => ?_) (fun D6 C6 ys h22 hD6 hC6 hDC6 hl6 hm6 FO hk6 tk6 jy => ?_)
      · subst jy
        rw [List.getElem?_take] at hx
        by_cases hij : i6 < j
        · rw [if_pos hij] at hx
          have hix : i6 < ss.length := by omega
          have hL7 := (ldR.2 i6 x _ hx (by rw [List.getElem?_map, List.getElem?_eq_getElem hix]; rfl)).ext FC.keep
          have G7 := GR.ext FC.keep
          have hdv := hnd i6 hij
          rw [show ss.getD i6 [] = ss[i6] by rw [List.getD_eq_getElem?_getD, List.getElem?_eq_getElem hix]; rfl] at hdv
          refine W.tests1 (W.tand (W.tcmp (W.nl FC 0 (W.cnone (W.isNotN hL7.plain.1 (W.tb ?_))))))
          rw [hL7.plain.2]
          cases hls : plead o ss[i6] with
          | none =>
            simp only [Option.isNone_none, Bool.not_true, Bool.false_eq_true, if_false]
            exact ⟨fun _ _ _ e => e, trivial⟩
          | some e =>
            rw [hls] at hL7 hdv
            simp only [Option.isNone_some, Bool.not_false, if_true]
            obtain ⟨ta, va, vc, rfl, T, hka, hca⟩ := hL7
            have hle' : e.1.length = m := ls _ (List.getElem_mem hix) _ (plead_mem hls)
            refine W.tand (W.tplain (W.callN (W.ng G7 (.ref 51) (W.callW (lk_powers_divide _) (W.sp (W.sub (W.nl FC 0 (W.cint fun _ => W.tup0 T (W.sp (W.cell (cR3.keeps FC.keep.ks) (W.sp0 ⟨G7, powers_divide_W (k := k) G7 (r'.mono (by omega)) hka (hvR.ext FC.keep) (by omega) (by omega) fun h11 e11 => W.tb ?_⟩)))))))))))
            have hp : pdiv e.1 (kadd ks le.1) = false := hdv
            rw [hp]
            simp only [Bool.false_eq_true, if_false]
            exact ⟨e11, trivial⟩
        · rw [if_neg hij] at hx; cases hx
      · subst jy
        refine ⟨hm6, fun h23 s23 => W.list (W.sp0 (W.newLst fun b9 h24 e24 hb24 _ => ?_))⟩
        have hC6R : (h15.hide L).get? C6 = none := none_of (Keep.trans F20.keep e21) hC6
        have hLC6 : L ≠ C6 := fun q => (F20.ext e21).neL hC6 q.symm
        have F24 := (FO.comp s23 hC6R hLC6).ext e24
        have S24 := S15.still F24.keep (F24.base eR)
        refine W.neNil (k := k) (r'.mono (by omega)) (isList_at hl6 fun o e => e24.get ((s23.2 _ hDC6).trans e)) hb24 (W.tb ?_)
        rw [if_neg (by decide)]
        have kk : Keep (fun x => x = L ∨ x = L + 2 ∨ x = L + 3) h12 h24 := fun a ob ha e => F24.keep.get (hide_get (fun q => ha (.inl q)) (k15 a ob (fun q => ha (.inr (.inr q))) (e14.get (k13 a ob (fun q => ha (.inr (.inl q))) e))))
        exact W.nil (W.nil ⟨⟨S24, K12.trans kk⟩, kk⟩)
    have fin : ∀ h11, Ext h10 h11 → W z (A.deeper (envC 36 (.ref 214) (.str (Str.ofString "law_nn0260_01") 426) L 215))
        (execs (match ((dBody (stD 36)).drop 2).head? with | some (.For _ _ b _ _) => b.drop 1 | _ => []) (envC 36 (.ref 214) (.str (Str.ofString "law_nn0260_01") 426) L 215)) h11
        (fun f h5 => match f with
          | .next | .cont => (∃ v7 v8, LS hB L D nm_law_leads_right [some (.ref fa), some (.ref sa), some (.ref qa), some (.ref rd), none, some (.ref D), none, v7, v8, none] xs (ss.map (plead o)) h5) ∧ Keep (fun x => x = L ∨ x = L + 2 ∨ x = L + 3) h8 h5
          | .brk => False
          | .ret v => False) := fun h11 e11 => (cont h11 e11).mono fun f h3 q3 => by
      obtain ⟨rfl, q4, q5⟩ := q3
      exact ⟨⟨_, _, q4⟩, k810.trans q5⟩
    have fin' : ∀ h11, Ext h10 h11 → ∀ Q' : Flow → Heap → Prop, (∀ h5, ((∃ v7 v8, LS hB L D nm_law_leads_right [some (.ref fa), some (.ref sa), some (.ref qa), some (.ref rd), none, some (.ref D), none, v7, v8, none] xs (ss.map (plead o)) h5) ∧ Keep (fun x => x = L ∨ x = L + 2 ∨ x = L + 3) h8 h5) → Q' .next h5) → W z (A.deeper (envC 36 (.ref 214) (.str (Str.ofString "law_nn0260_01") 426) L 215))
        (execs (match ((dBody (stD 36)).drop 2).head? with | some (.For _ _ b _ _) => b.drop 1 | _ => []) (envC 36 (.ref 214) (.str (Str.ofString "law_nn0260_01") 426) L 215)) h11 Q' := fun h11 e11 Q' q' => (cont h11 e11).mono fun f h3 q3 => by
      obtain ⟨rfl, q4, q5⟩ := q3
      exact q' h3 ⟨⟨_, _, q4⟩, k810.trans q5⟩
    have x62 : xs.length < 2 ^ 62 := by omega
    refine W.cons (W.iff (W.tand (W.tcmp (W.sub (W.nl S10.F 5 (W.nl S10.F 7 (W.lstV S10.la eX x62 (W.cnone (W.isN hL10.plain.1 (W.tb ?_))))))))))
    rw [hL10.plain.2]
    cases hpl : plead o ss[j] with
    | none =>
      simp only [Option.isNone_none, if_true]
      have hQ0 : qs[j] = [] := by
        cases hq : qs[j] with
        | nil => rfl
        | cons e' rest' =>
          obtain ⟨le, _, hle, _⟩ := H2 j _ eQ e' (by rw [hq]; exact List.mem_cons_self)
          rw [gD, hpl] at hle; cases hle
      have DQ10 := DQ.ext S10.F.keep
      refine W.tand (W.tcmp (W.nl S10.F 8 (W.dict0 G10 fun d11 h11 e11 hd11 D11 => W.neD r' (DQ10.ext e11) D11 (W.tb ?_))))
      rw [hQ0, if_neg (by decide)]
      exact W.nil (fin' h11 e11 _ fun h5 q5 => q5)
    | some le =>
      simp only [Option.isNone_some, Bool.false_eq_true, if_false]
      exact W.nil (fin' h10 (fun _ _ _ e => e) _ fun h5 q5 => q5)
  · obtain ⟨v7, v8, S7⟩ := j
    exact W.cons (W.ret (W.cbool (q h' (Keep.trans eB1 S7.F.keep))))
end
end NN
end

section
open PySem PySem.W PyProof.Rows Builtin
set_option linter.unusedVariables false
set_option linter.unusedSimpArgs false
namespace NN
set_option maxRecDepth 100000

/-! ## a tuple repeated; a dict of one pair -/
theorem noFill_tuple_mul : fillsNumberSlot (.type "tuple") "mul" = pure false :=
  PySem.fillsNumberSlot_seq (id := "tuple.__mul__") (r := some (.builtin "tuple.__rmul__")) PySem.F.slot_tuple_mul.lookup (by decide +kernel) PySem.F.slot_tuple_rmul.lookup (by decide +kernel)
theorem repeat_tuple : seqRepeat? (.type "tuple") = pure (some (.builtin "tuple.__mul__")) := by
  unfold seqRepeat?
  rw [PySem.seqSlot_of (T := "tuple") (name := "__mul__") (id := "tuple.__mul__") PySem.F.slot_tuple_mul.lookup (by decide +kernel), PySem.seqSlot_of (T := "tuple") (name := "__rmul__") (id := "tuple.__rmul__") PySem.F.slot_tuple_rmul.lookup (by decide +kernel)]
  rfl
theorem rmul_int_tuple (a : Int) (t : Tok) (l : Addr) (items : Array Value) (n : Nat) (d : Option Addr) (sl : Array (Option Value)) :
    Meets (Builtin.«int.__rmul__» ⟨[.int a t, .ref l], []⟩) (fun _ R s => s.heap.get? l = some { cls := .type "tuple", dict := d, data := .seq items n, slots := sl } ∧ R (.ok (.ret Value.notImplemented)) s) :=
  .of_wp fun prog w A R s h => by obtain ⟨hp, g, d, tk, os⟩ := s; obtain ⟨hl, h⟩ := h; wp_walk; exact ⟨_, rfl, h⟩
theorem mul_tuple_int (l : Addr) (items : Array Value) (n : Nat) (d : Option Addr) (sl : Array (Option Value)) (x : Int) (u : Tok) (h1 : 1 < x) (h2 : x ≤ 100) (h3 : items.size = 1) :
    Meets (Builtin.«tuple.__mul__» ⟨[.ref l, .int x u], []⟩) (fun _ R s => s.heap.get? l = some { cls := .type "tuple", dict := d, data := .seq items n, slots := sl } ∧ R (.ok (.ret (Value.ref s.heap.objs.size))) { s with heap := s.heap.push { cls := Value.type "tuple", data := Data.seq (List.foldl (fun x1 x2 => x1 ++ x2) #[] (List.replicate x.toNat items)) } }) :=
  .of_wp fun prog w A R s h => by
    obtain ⟨hp, g, d, tk, os⟩ := s; obtain ⟨hl, h⟩ := h
    have hT : IsTup (Shared.heap ⟨hp, g, d, tk, os⟩) l items := ⟨_, hl, rfl, n, rfl⟩
    have hE : items.isEmpty = false := by simp [Array.isEmpty, h3]
    wp_walk
    rw [if_neg (by simp; omega)]
    refine wpAny_bind (tupleItemsOf_ hT ?_)
    have e1 : (items.isEmpty || x == 1) = false := by rw [hE]; simp; omega
    have e2 : (decide (x ≤ 0) || items.isEmpty) = false := by rw [hE]; simp; omega
    have e3 : Tuple.tupleTooMany ((items.size : Int) * x) = false := by
      unfold Tuple.tupleTooMany; rw [h3]
      have : sizeLine = 16777216 := sizeLine_eq
      simp; omega
    have e4 : ¬ ((items.size : Int) * x > (2 ^ 63 - 1) / 8) := by rw [h3]; simp; omega
    simp only [e1, e2, e3, if_neg e4, Bool.false_eq_true, if_false]
    refine wpAny_bind (m := Tuple.tupleExact _) (wpAny_newObj_type (wpAny_pure ⟨_, rfl, h⟩) ?_)
    show (List.foldl (fun x1 x2 => x1 ++ x2) #[] (List.replicate x.toNat items)).size ≤ sizeLine
    rw [listMul_foldl, List.size_toArray, List.length_append, lm_len_rep_flat]
    have : sizeLine = 16777216 := sizeLine_eq
    have e5 : items.toList.length = 1 := by rw [Array.length_toList]; exact h3
    rw [e5]
    show 0 + x.toNat * 1 ≤ sizeLine
    omega

section
variable {z : Z} {A : Around} {h : Heap} {env : Env} {k : Nat}
theorem W.mulTup {t : Addr} {v : Value} {m : Nat} {u : Tok} {Q : Value → Heap → Prop} (ht : IsTup h t #[v]) (h1 : 2 ≤ m) (h2 : m ≤ 100) (q : ∀ a h', Ext h h' → IsTup h' a (List.replicate m v).toArray → Q (.ref a) h') : W z A (binaryOp .Mult (.ref t) (.int (m : Int) u)) h Q := fun n => by
  obtain ⟨⟨cls, dd, data, sl⟩, ho, hc, n1, hd⟩ := id ht
  simp only at hc hd
  subst hc hd
  refine wpAny_binaryOp_repeat_ref (s := at_ z h n) (T := "tuple") (U := "int") (by decide) ⟨_, ho, rfl⟩ (fun s' => typeIs_int s' m u) noFill_tuple_mul PySem.F.fills_int_mul PySem.F.slot_int_rmul repeat_tuple PySem.F.slot_int_index.lookup
    (call_meets PySem.F.slot_int_rmul (typeIs_int _ m u) PySem.F.entry_int_rmul (PySem.F.args_int_rmul_2 _ _) (rmul_int_tuple m u t #[v] n1 dd sl)
      ⟨ho, rfl, ⟨_, ho, rfl⟩, call_meets PySem.F.slot_tuple_mul ⟨_, ho, rfl⟩ PySem.F.entry_tuple_mul (PySem.F.args_tuple_mul_2 _ _) (mul_tuple_int t #[v] n1 dd sl m u (by omega) (by omega) rfl) ⟨ho, ?_⟩⟩)
  refine W.ok (z := z) (n := n) (q _ _ (Ext.push h _) ⟨_, Heap.get?_push_size _ rfl, rfl, 0, ?_⟩)
  show Data.seq _ 0 = _
  rw [listMul_foldl, show (#[v] : Array Value).toList = [v] from rfl, lm_rep_flat_one]
  simp
theorem W.dict1 {ke ve : Expr} {pos : Pos} {Q : Value → Heap → Prop} (G : GL z h) (r : Rm A k)
    (q : ∀ d h1, Ext h h1 → h.get? d = none → DA z h1 d [] → W z A (eval ke env) h1 (fun kv h2 => W z A (eval ve env) h2 (fun vv h3 => ∃ ks c, KeyAt h3 kv ks ∧ RatAt h3 vv c ∧ DA z h3 d [] ∧ ∀ h4, DA z h4 d [(ks, c)] → Heap.SameBut d h3 h4 → TK h3 h4 → Q (.ref d) h4))) :
    W z A (eval (.Dict [some ke] [ve] pos) env) h Q := fun n => by
  refine wpAny_Dict_any rfl rfl (by simp) (by simp) ?_
  have q1 := q h.objs.size (h.push { cls := .type "dict", data := .dict #[] }) (Ext.push h _) (fresh_size h) ⟨G.fresh_nm, PolyAt.new h⟩
  show wpAny _ _ (evalPairs [(eval ke env, do let x ← eval ve env; PySem.standAt pos; Pure.pure x)]) _ _ (at_ z (h.push { cls := .type "dict", data := .dict #[] }) n)
  refine evalPairs_cons (q1.use n fun kv h2 n2 q2 => wpAny_bind (q2.use n2 fun vv h3 n3 q3 => wpAny_bind (wpAny_standAt (wpAny_pure (evalPairs_nil ?_)))))
  obtain ⟨ks, c, hk, hc, D, q4⟩ := q3
  unfold storeAll
  show wpAny _ _ (forIn [(kv, vv)] PUnit.unit _) _ _ _
  simp only [List.forIn_cons, List.forIn_nil]
  refine wpAny_bind (wpAny_bind ((W.dictSet (Q := fun _ h4 => DA z h4 h.objs.size [(ks, c)] ∧ Heap.SameBut h.objs.size h3 h4 ∧ TK h3 h4) r hk D hc (by simp) (fun h4 a b cc => ⟨a, b, cc⟩)).use n3 fun _ h4 n4 q5 => wpAny_pure (wpAny_pure ?_)))
  exact ⟨h4, n4, rfl, q4 h4 q5.1 q5.2.1 q5.2.2⟩
end
end NN
end

section
open PySem PySem.W PyProof.Rows
set_option linter.unusedVariables false
set_option linter.unusedSimpArgs false
namespace NN
set_option maxRecDepth 100000

theorem peq_nil {P : Poly} : peq P [] = decide (P = []) := by
  cases P with
  | nil => rfl
  | cons e P => simp [peq]

structure ExOk (m : Nat) (C f : Poly) (Inv : DSt → Prop) (mu : DSt → Nat) : Prop where
  i0 : Inv ⟨[[]], [], f⟩
  st : ∀ s, Inv s → s.left ≠ [] → Inv (dstep .lex [C] s) ∧ mu (dstep .lex [C] s) < mu s
  ok : ∀ s, Inv s → DOk m 1 s

section
variable {z : Z} {A : Around} {h : Heap} {k : Nat}
theorem W.lenT {l : Addr} {vs : List Value} {Q : Value → Heap → Prop} (hl : IsTup h l vs.toArray) (hsz : vs.length ≤ sizeLine) (q : ∀ t, Q (.int (vs.length : Int) t) h) : W z A (call (.builtin "len") [.ref l]) h Q := fun n =>
  PyProof.Rows.len_tuple (s := at_ z h n) hl (by have : sizeLine = 16777216 := sizeLine_eq; simp; omega) (W.ok (n := n + 1 + 1) (q _))

theorem law_exact_right_W {aa ba ca : Addr} {PA PB PC : Poly} {m : Nat} {Q : Value → Heap → Prop} (G : GL z h) (r : Rm A (k + 12)) (ha : DA z h aa PA) (hb : DA z h ba PB) (hc : DA z h ca PC) (hso : SOk m PC) (hm : 1 ≤ m) (hm2 : m ≤ 100)
    (la : ∀ e ∈ PA, e.1.length = m) (hsz : PC.length * tsz PA + PA.length * tsz PC ≤ LIM)
    (Inv1 : DSt → Prop) (mu1 : DSt → Nat) (h1 : PC ≠ [] → ExOk m PC (pmul PA PC) Inv1 mu1) (f1 : ∀ s, PC ≠ [] → Inv1 s → s.left = [] → s.rest = [] ∧ peq (s.qs.getD 0 []) PA = true)
    (Inv2 : DSt → Prop) (mu2 : DSt → Nat) (h2 : PC ≠ [] → ExOk m PC PB Inv2 mu2) (f2 : ∀ s, PC ≠ [] → Inv2 s → s.left = [] → s.rest = [] → (∀ e ∈ s.qs.getD 0 [], e.1.length = m) ∧ PC.length * tsz (s.qs.getD 0 []) + (s.qs.getD 0 []).length * tsz PC ≤ LIM ∧ peq (pmul (s.qs.getD 0 []) PC) PB = true)
    (q : ∀ h', Ext h h' → Q (.bool true) h') : W z A (call (.ref 222) [.ref aa, .ref ba, .ref ca]) h Q := by
  refine W.def 37 nm_law_exact_right G r (lk_law_exact_right _) (cd_law_exact_right _) (by kernel_rfl!) (by kernel_rfl!) fun L h₁ F R => ?_
  have G' := G.ext F.keep
  have r' := R.r
  refine W.cons (W.iff (W.tcmp (W.nl F 2 (W.dict0 G' fun d0 h0 e0 hd0 D0 => W.eqD r' ((hc.ext F.keep).ext e0) D0 (W.tb ?_)))))
  have F0 := F.ext e0
  have G0 := G.ext F0.keep
  rw [peq_nil]
  by_cases hC : PC = []
  · rw [if_pos (by simpa using hC)]
    refine W.cons (W.ret (W.cmp (W.callN (W.ng G0 (.ref 184) (W.callW (lk_mvexact _) (W.sp (W.nl F0 0 (W.sp (W.nl F0 2 (W.sp0 ⟨G0, mvexact_W (k := k) (m := m) G0 (r'.mono (by omega)) (ha.ext F0.keep) (hc.ext F0.keep) hso hm hm2 Inv1 mu1 (fun hne => absurd hC hne) (fun _ h3 e3 => W.cnone (W.isN rfl (q h3 (Keep.trans F0.keep e3)))) (fun h3 s e3 hne => absurd hC hne)⟩))))))))))
  rw [if_neg (by simpa using hC)]
  refine W.nil (W.cons (W.iff (W.tcmp (W.callN (W.ng G0 (.ref 184) (W.callW (lk_mvexact _) (W.sp (W.callN (W.ng G0 (.ref 151) (W.callW (lk_mvmul _) (W.sp (W.nl F0 0 (W.sp (W.nl F0 2 (W.sp0 ⟨G0, mvmul_W (k := k) (m := m) G0 (r'.mono (by omega)) (ha.ext F0.keep) (hc.ext F0.keep) la hso.len hm2 hsz fun d3 h3 e3 hd3 D3 => ?_⟩)))))))))))))))
  have F3 := F0.ext e3
  have G3 := G.ext F3.keep
  have x1 := h1 hC
  refine W.sp (W.nl F3 2 (W.sp0 ⟨G3, mvexact_W (k := k) (m := m) G3 (r'.mono (by omega)) D3 (hc.ext F3.keep) hso hm hm2 Inv1 mu1 (fun _ => ⟨x1.i0, x1.st, x1.ok⟩) (fun h => absurd h hC) (fun h4 s e4 _ hi hl => ?_)⟩))
  obtain ⟨hr, hp⟩ := f1 s hC hi hl
  refine ⟨fun hne => absurd hr hne, fun _ d4 D4 _ => ?_⟩
  have F4 := F3.ext e4
  have G4 := G.ext F4.keep
  refine W.nl F4 0 (W.neD r' D4 (ha.ext F4.keep) (W.tb ?_))
  rw [hp, if_neg (by decide)]
  have x2 := h2 hC
  refine W.nil (W.cons (W.asg (W.callN (W.ng G4 (.ref 184) (W.callW (lk_mvexact _) (W.sp (W.nl F4 1 (W.sp (W.nl F4 2 (W.sp0 ⟨G4, mvexact_W (k := k) (m := m) G4 (r'.mono (by omega)) (hb.ext F4.keep) (hc.ext F4.keep) hso hm hm2 Inv2 mu2 (fun _ => ⟨x2.i0, x2.st, x2.ok⟩) (fun h => absurd h hC) (fun h5 s5 e5 _ hi5 hl5 => ?_)⟩))))))))))
  have F5 := F4.ext e5
  refine ⟨fun _ => W.store F5 3 fun h6 F6 s6 => ?_, fun hr5 d5 D5 hd5 => W.store F5 3 fun h6 F6 s6 => ?_⟩
  · refine W.cons (W.ret (W.vor (W.cmp (W.nl F6 3 (W.cnone (W.isN rfl (W.tb ?_)))))))
    rw [if_pos (by decide)]
    exact q h6 F6.keep
  · obtain ⟨ll, lz, lp⟩ := f2 s5 hC hi5 hl5 hr5
    refine W.cons (W.ret (W.vor (W.cmp (W.nl F6 3 (W.cnone (W.isN rfl (W.tb ?_)))))))
    rw [if_neg (show ¬ ((Value.ref d5 == Value.none) = true) from Bool.false_ne_true)]
    have nL : d5 ≠ L := F4.neL hd5
    have D6 := D5.same F5.ns s6 nL
    have G6 := G.ext F6.keep
    refine W.vone (W.cmp (W.callN (W.ng G6 (.ref 151) (W.callW (lk_mvmul _) (W.sp (W.nl F6 3 (W.sp (W.nl F6 2 (W.sp0 ⟨G6, mvmul_W (k := k) (m := m) G6 (r'.mono (by omega)) D6 (hc.ext F6.keep) ll hso.len hm2 lz fun d7 h7 e7 hd7 D7 => ?_⟩)))))))))
    have F7 := F6.ext e7
    refine W.nl F7 1 (W.eqD r' D7 (hb.ext F7.keep) ?_)
    rw [lp]
    exact q h7 F7.keep

set_option maxHeartbeats 1000000 in
theorem law_exact_least_W {aa ca : Addr} {PA PC : Poly} {m : Nat} {Q : Value → Heap → Prop} (G : GL z h) (r : Rm A (k + 12)) (ha : DA z h aa PA) (hc : DA z h ca PC) (hso : SOk m PC) (hm : 2 ≤ m) (hm2 : m ≤ 100)
    (la : ∀ e ∈ PA, e.1.length = m) (hsz : PC.length * tsz PA + PA.length * tsz PC + 100 ≤ LIM) (hkb : ∀ e ∈ pmul PA PC, KB m e.1)
    (Inv : DSt → Prop) (mu : DSt → Nat) (h1 : ∀ le, plead .lex PC = some le → le.1.sum ≠ 0 → ExOk m PC (padd (pmul PA PC) [(List.replicate m 0, 1)]) Inv mu) (f1 : ∀ le s, plead .lex PC = some le → le.1.sum ≠ 0 → Inv s → s.left = [] → s.rest ≠ [])
    (q : ∀ h', Ext h h' → Q (.bool true) h') : W z A (call (.ref 229) [.ref aa, .ref ca]) h Q := by
  refine W.def 38 nm_law_exact_least G r (lk_law_exact_least _) (cd_law_exact_least _) (by kernel_rfl!) (by kernel_rfl!) fun L h₁ F R => ?_
  have G' := G.ext F.keep
  have r' := R.r
  have h100 : (1000 : Nat) ≤ sizeLine := by decide
  refine W.cons (W.iff (W.tor (W.tcmp (W.nl F 1 (W.dict0 G' fun d0 h0 e0 hd0 D0 => W.eqD r' ((hc.ext F.keep).ext e0) D0 (W.tb ?_))))))
  have F0 := F.ext e0
  have G0 := G.ext F0.keep
  rw [peq_nil]
  by_cases hC : PC = []
  · rw [if_pos (by simpa using hC), if_pos rfl]
    exact W.cons (W.ret (W.cbool (q h0 F0.keep)))
  rw [if_neg (by simpa using hC)]
  obtain ⟨le, hle⟩ := plead_isSome (o := .lex) hC
  have lle : le.1.length = m := hso.len _ (plead_mem hle)
  refine W.tor (W.tcmp (W.callN (W.nb G0 boot_sum (W.callB (W.sp (W.sub (W.callN (W.ng G0 (.ref 165) (W.callW (lk_mvlead _) (W.sp (W.nl F0 1 (W.sp (W.cstr fun to => W.sp0 ⟨G0, mvlead_W (k := k) (o := .lex) (m := m) G0 (r'.mono (by omega)) (hc.ext F0.keep) hso.len (by omega) hm2 fun h2 v2 e2 hv2 => W.cint fun _ => ?_⟩)))))))))))))
  rw [hle] at hv2
  obtain ⟨tl, vk, vc, rfl, Tl, hk, hcc⟩ := hv2
  have F2 := F0.ext e2
  obtain ⟨ka, vs, rfl, Tk, Ik⟩ := id hk
  refine W.tup0 Tl (W.sp0 (W.sumTup r' Tk Ik fun h3 u3 e3 => W.cint fun _ => W.eqI (W.tb ?_)))
  have F3 := F2.ext e3
  have G3 := G.ext F3.keep
  by_cases hs0 : le.1.sum = 0
  · rw [if_pos (by simpa using hs0), if_pos rfl]
    exact W.cons (W.ret (W.cbool (q h3 F3.keep)))
  rw [if_neg (by simpa using hs0)]
  refine W.tor0 ?_
  rw [if_neg (by decide)]
  have x1 := h1 le hle hs0
  -- one
  refine W.nil (W.cons (W.asg (W.dict1 G3 r' fun d4 h4 e4 hd4 D4 => ?_)))
  have F4 := F3.ext e4
  have G4 := G.ext F4.keep
  refine W.bin (W.tuple (W.sp (W.cint fun t0 => W.sp0 (W.newTup fun tz h5 e5 T5 _ => ?_))))
  have F5 := F4.ext e5
  have G5 := G.ext F5.keep
  refine W.callN (W.nb G5 boot_len (W.callB (W.sp (W.sub (W.callN (W.ng G5 (.ref 165) (W.callW (lk_mvlead _) (W.sp (W.nl F5 1 (W.sp (W.cstr fun to => W.sp0 ⟨G5, mvlead_W (k := k) (o := .lex) (m := m) G5 (r'.mono (by omega)) (hc.ext F5.keep) hso.len (by omega) hm2 fun h6 v6 e6 hv6 => W.cint fun _ => ?_⟩)))))))))))
  rw [hle] at hv6
  obtain ⟨tl6, vk6, vc6, rfl, Tl6, hk6, hcc6⟩ := hv6
  obtain ⟨ka6, vs6, rfl, Tk6, Ik6⟩ := id hk6
  have lv6 : vs6.length = m := by rw [intsAre_length Ik6, lle]
  refine W.tup0 Tl6 (W.sp0 (W.lenT Tk6 (by omega) fun t7 => ?_))
  rw [lv6]
  refine W.mulTup (IsTup.ext T5 e6) hm hm2 fun a8 h8 e8 T8 => ?_
  have e48 : Ext h4 h8 := Keep.trans (Keep.trans e5 e6) e8
  refine W.tuple (W.sp (W.cint fun t9 => W.sp (W.cint fun t10 => W.sp0 (W.newTup fun t11 h11 e11 T11 _ => ?_))))
  have ints0 : ∀ n : Nat, IntsAre (List.replicate n (.int 0 t0)) (List.replicate n 0) := fun n => by
    induction n with
    | zero => exact .nil
    | succ n ih => exact .cons 0 t0 ih
  refine ⟨List.replicate m 0, 1, ⟨a8, _, rfl, IsTup.ext T8 e11, ints0 m⟩, ⟨t11, t9, t10, rfl, T11⟩, D4.ext (Keep.trans e48 e11), fun h12 D12 s12 t12 => ?_⟩
  have F11 := (F4.ext e48).ext e11
  have nd : h.get? d4 = none := none_of F3.keep hd4
  have F12 := F11.same s12 (fun q => by have := F3.neL hd4; exact this q.symm) nd
  refine W.store F12 2 fun h13 F13 s13 => ?_
  have nL : d4 ≠ L := F3.neL hd4
  have D13 := D12.same F12.ns s13 nL
  have G13 := G.ext F13.keep
  refine W.cons (W.ret (W.cmp (W.callN (W.ng G13 (.ref 184) (W.callW (lk_mvexact _) (W.sp (W.callN (W.ng G13 (.ref 120) (W.callW (lk_mvadd _) (W.sp (W.callN (W.ng G13 (.ref 151) (W.callW (lk_mvmul _) (W.sp (W.nl F13 0 (W.sp (W.nl F13 1 (W.sp0 ⟨G13, mvmul_W (k := k) (m := m) G13 (r'.mono (by omega)) (ha.ext F13.keep) (hc.ext F13.keep) la hso.len hm2 (by omega) fun d14 h14 e14 hd14 D14 => ?_⟩))))))))))))))))))
  have F14 := F13.ext e14
  have G14 := G.ext F14.keep
  have tp := tsz_pmul PA PC
  have t1 : tsz [(List.replicate m (0 : Int), (1 : Rat))] ≤ 100 := by
    rw [tsz_cons, tsz_nil]
    have : sz (1 : Rat) ≤ 2 := by decide +kernel
    show sz (1 : Rat) + 2 + 0 ≤ 100
    omega
  refine W.sp (W.nl F14 2 (W.sp0 ⟨G14, mvadd_W (k := k) (m := m) G14 (r'.mono (by omega)) D14 (D13.ext e14) hkb (by omega) fun d15 h15 e15 hd15 D15 => ?_⟩))
  have F15 := F14.ext e15
  have G15 := G.ext F15.keep
  refine W.sp (W.nl F15 1 (W.sp0 ⟨G15, mvexact_W (k := k) (m := m) G15 (r'.mono (by omega)) D15 (hc.ext F15.keep) hso (by omega) hm2 Inv mu (fun _ => ⟨x1.i0, x1.st, x1.ok⟩) (fun h => absurd h hC) (fun h16 s e16 _ hi hl => ⟨fun _ => W.cnone (W.isN rfl (q h16 (Keep.trans F15.keep e16))), fun hr => absurd hr (f1 le s hle hs0 hi hl)⟩)⟩))
end
end NN
end

section
open PySem PySem.W PyProof.Rows
set_option linter.unusedVariables false
set_option linter.unusedSimpArgs false
namespace NN
set_option maxRecDepth 100000

/-- the law's frame: what stands, the frame's names and the box apart -/
structure LB (z : Z) (hR : Heap) (L b l : Addr) (vs : List (Option Value)) (h : Heap) : Prop where
  G : GL z hR
  F : MF hR nm_law L vs h
  nb : hR.get? b = none
  nl : hR.get? l = none
  B : BoxAt h b l
section
variable {z : Z} {hR h h' : Heap} {L b l : Addr} {vs vs' : List (Option Value)}
theorem LB.apart (x : LB z hR L b l vs h) : ∀ a, (a = b ∨ a = l) → L ≠ a := fun a ha q => by
  obtain ⟨o, es, ep, ho, hd, _⟩ := x.F.ns
  have hB := x.B
  obtain ⟨⟨st, t, ⟨o1, hb, _, n1, hd1⟩, h0, h1⟩, ⟨vs, ns, ⟨n, hl⟩, hi, hn⟩, ne⟩ := hB
  rcases ha with rfl | rfl
  · rw [q, hb] at ho; cases ho; rw [hd1] at hd; cases hd
  · rw [q, hl] at ho; cases ho; cases hd
theorem LB.ext (x : LB z hR L b l vs h) (e : Ext h h') : LB z hR L b l vs h' := ⟨x.G, x.F.ext e, x.nb, x.nl, x.B.ext e⟩
theorem LB.hn (x : LB z hR L b l vs h) : ∀ a, (a = b ∨ a = l) → hR.get? a = none := by
  rintro a (rfl | rfl)
  · exact x.nb
  · exact x.nl
theorem LB.took (x : LB z hR L b l vs h) (k : Keep (fun a => a = b ∨ a = l) h h') (B : BoxAt h' b l) : LB z hR L b l vs h' := ⟨x.G, x.F.keepD k (by rintro (q | q); exact x.apart b (.inl rfl) q; exact x.apart l (.inr rfl) q) x.hn, x.nb, x.nl, B⟩
theorem LB.stored (x : LB z hR L b l vs h) (F : MF hR nm_law L vs' h') (s : Heap.SameBut L h h') : LB z hR L b l vs' h' :=
  ⟨x.G, F, x.nb, x.nl, x.B.at (fun o e => (s.2 _ (fun q => x.apart b (.inl rfl) q.symm)).trans e) (fun o e => (s.2 _ (fun q => x.apart l (.inr rfl) q.symm)).trans e)⟩
theorem LB.reb (x : LB z hR L b l vs h) : ∃ hR', LB z hR' L b l vs h ∧ Ext hR hR' ∧ TK h hR' ∧ ∀ a o, a ≠ L → a ≠ b → a ≠ l → h.get? a = some o → hR'.get? a = some o := by
  obtain ⟨F1, e1⟩ := x.F.rebase
  have nb1 : hR.get? b = none := x.nb
  obtain ⟨hB, f1, f2, f3, f4, f5⟩ := two_hidden e1 x.nb x.nl
  have hg : ∀ a o, a ≠ L → a ≠ b → a ≠ l → h.get? a = some o → hB.get? a = some o := fun a o h1 h2 h3 e => f5 a o h2 h3 (hide_get h1 e)
  refine ⟨hB, ⟨x.G.ext f1, F1.base f2, f3, f4, x.B⟩, f1, ?_, hg⟩
  exact TK.keep (D := fun a => a = L ∨ a = b ∨ a = l) (fun a o hn e => hg a o (fun q => hn (.inl q)) (fun q => hn (.inr (.inl q))) (fun q => hn (.inr (.inr q))) e) fun a ha => by
    rcases ha with rfl | ha
    · exact not_tup_ns x.F.ns
    · exact x.B.notTup a ha
/-- a dict is none of the box's -/
theorem LB.da {d : Addr} {P : Poly} (x : LB z hR L b l vs h) (D : DA z h d P) : d ≠ b ∧ d ≠ l := by
  obtain ⟨xs, ⟨o, es, ep, ho, hc, hd, _⟩, _⟩ := D.p
  have hB := x.B
  obtain ⟨⟨st, t, ⟨o1, hb, hcb, n1, hd1⟩, h0, h1⟩, ⟨vs, ns, ⟨n, hl⟩, hi, hn⟩, ne⟩ := hB
  refine ⟨fun q => ?_, fun q => ?_⟩
  · rw [q, hb] at ho; cases ho; rw [hd1] at hd; cases hd
  · rw [q, hl] at ho; cases ho; cases hd
end

noncomputable def ordAt (v : Nat) : Ord := match v with
  | 0 => .lex
  | 1 => .grlex
  | _ => .grevlex
noncomputable def PairsAt (h : Heap) (vs : List Value) (ps : List (Int × Int)) : Prop := vs.length = ps.length ∧ ∀ (i : Nat) (v : Value) (p : Int × Int), vs[i]? = some v → ps[i]? = some p → ∃ T t u, v = .ref T ∧ IsTup h T #[.int p.1 t, .int p.2 u]
theorem PairsAt.tk {h h' : Heap} {vs ps} (x : PairsAt h vs ps) (t : TK h h') : PairsAt h' vs ps := ⟨x.1, fun i v p a b => let ⟨T, t1, u, e, hT⟩ := x.2 i v p a b; ⟨T, t1, u, e, t _ _ hT⟩⟩
theorem PairsAt.snoc {h : Heap} {vs ps} (x : PairsAt h vs ps) {T : Addr} {p : Int × Int} {t u : Tok} (hT : IsTup h T #[.int p.1 t, .int p.2 u]) : PairsAt h (vs ++ [.ref T]) (ps ++ [p]) := by
  refine ⟨by simp [x.1], fun i v q a b => ?_⟩
  rw [List.getElem?_append] at a b
  rw [← x.1] at b
  split at a
  · rename_i hlt
    rw [if_pos hlt] at b
    exact x.2 i v q a b
  · rename_i hlt
    rw [if_neg hlt] at b
    have h1 := (List.getElem?_eq_some_iff.mp a).1
    have : i - vs.length = 0 := by simp at h1; omega
    rw [this] at a b
    simp at a b
    subst a b
    exact ⟨T, t, u, rfl, hT⟩
theorem RatsAt.snoc {h : Heap} {vs qs} (x : RatsAt h vs qs) {v : Value} {q : Rat} (hT : RatAt h v q) : RatsAt h (vs ++ [v]) (qs ++ [q]) := by
  refine ⟨by simp [x.1], fun i w c a b => ?_⟩
  rw [List.getElem?_append] at a b
  rw [← x.1] at b
  split at a
  · rename_i hlt
    rw [if_pos hlt] at b
    exact x.2 i w c a b
  · rename_i hlt
    rw [if_neg hlt] at b
    have h1 := (List.getElem?_eq_some_iff.mp a).1
    have : i - vs.length = 0 := by simp at h1; omega
    rw [this] at a b
    simp at a b
    subst a b
    exact hT
noncomputable def ratOf (p : Int × Int) : Rat := Rat.divInt p.1 p.2
noncomputable def okPair (p : Int × Int) : Prop := -2 ≤ p.1 ∧ p.1 ≤ 2 ∧ 1 ≤ p.2 ∧ p.2 ≤ 2
theorem okPair.cases {p : Int × Int} (h : okPair p) : (sz (ratOf p) ≤ 2) ∧ (p.1.fmod p.2 = 0 → (ratOf p).num = p.1.fdiv p.2 ∧ ((ratOf p).den : Int) = 1) ∧ (p.1.fmod p.2 ≠ 0 → (ratOf p).num = p.1 ∧ ((ratOf p).den : Int) = p.2) := by
  obtain ⟨a, b⟩ := p
  obtain ⟨h1, h2, h3, h4⟩ := h
  simp only at h1 h2 h3 h4
  have : (a = -2 ∨ a = -1 ∨ a = 0 ∨ a = 1 ∨ a = 2) ∧ (b = 1 ∨ b = 2) := by omega
  obtain ⟨h, h'⟩ := this
  rcases h with rfl | rfl | rfl | rfl | rfl <;> rcases h' with rfl | rfl <;> decide +kernel

section
variable {z : Z} {A : Around} {h : Heap} {env : Env} {k : Nat}
theorem turnsListP {elts : List Expr} {kt : Nat} {p : Pos} (hh : A.handled = none) (I l : Addr) (hne : l ≠ I) (items : Array Value) :
    Turns z A (.Tuple elts kt p) I [I, l] [I] items.size (fun i v _ => items[i]? = some v) (fun i v h => items[i]? = some v ∧ (h.IsListIter I l (i + 1) ∧ h.IsList l items)) (fun i h => h.IsListIter I l i ∧ h.IsList l items) :=
  W.KTurns.ofWalks (Walks.list hh I l hne items) fun i v s Q E st hQ => by
    cases v with
    | ref T => exact wpAny_letOwnedTupleGo_listiter st.1 hQ
    | _ => exact wpAny_pure hQ
theorem W.lstLast {value slice : Expr} {t : Addr} {xs : List Value} {u : Tok} {x : Value} {Q : Value → Heap → Prop} (ht : h.IsList t xs.toArray) (hx : xs[xs.length - 1]? = some x) (hj : xs.length < 2 ^ 62) (q : Q x h)
    (hs : subscripted slice false (.ref t) (.int (-1) u) = operate [.ref t, .int (-1) u] (getItem (.ref t) (.int (-1) u)) := by rfl) :
    W z A (subscriptTail value slice (.ref t) (.int (-1) u)) h Q := fun n => by
  have hlt := (List.getElem?_eq_some_iff.mp hx).1
  refine tail_any (s := at_ z h n) (ops := [.ref t, .int (-1) u]) ht.typeIs slot_list_getitem.lookup (wpAny_getItem_list_neg (s := at_ z h n) ht (by decide) (by simp; omega) (by decide) ?_ (W.ok q)) hs
  have : (((-1 : Int) + (xs.toArray.size : Int)).toNat) = xs.length - 1 := by simp; omega
  rw [this]; simpa using hx
end
end NN
end

section
open PySem PySem.W PyProof.Rows
set_option linter.unusedVariables false
set_option linter.unusedSimpArgs false
namespace NN
set_option maxRecDepth 100000

/-! ## what the plain law has to show -/
structure Ins (N : Nat) (f : Poly) (ss : List Poly) : Prop where
  n23 : N = 2 ∨ N = 3
  pf : PolyOk N 4 4 f
  fn : (f.map (·.1)).Nodup
  ps : ∀ s ∈ ss, PolyOk N 3 2 s
  sn : ∀ s ∈ ss, (s.map (·.1)).Nodup
  ln : 1 ≤ ss.length ∧ ss.length ≤ 3
structure Outs (N : Nat) (f : Poly) (ss : List Poly) (o : Ord) (s : DSt) : Prop where
  sum : SumOk N s.rest s.qs ss
  e1 : peq (totJ s.rest s.qs ss ss.length) f = true
  e2 : ∀ pt : List Rat, pt.length = N → numJ s.rest s.qs ss pt ss.length = pat f pt
  H1 : ∀ e ∈ s.rest, e.2 ≠ 0 ∧ ∀ t ∈ ss, divides e.1 (plead o t) = false
  H2 : ∀ (i : Nat) qp, s.qs[i]? = some qp → ∀ e ∈ qp, ∃ le fe, plead o (ss.getD i []) = some le ∧ plead o f = some fe ∧ lexGt (okey o (kadd e.1 le.1)) (okey o fe.1) = false ∧ ∀ j < i, divides (kadd e.1 le.1) (plead o (ss.getD j [])) = false
noncomputable def LawDiv : Prop := ∀ N f ss o, Ins N f ss → ∃ (Inv : DSt → Prop) (mu : DSt → Nat), Inv ⟨List.replicate ss.length [], [], f⟩ ∧ (∀ s, Inv s → s.left ≠ [] → Inv (dstep o ss s) ∧ mu (dstep o ss s) < mu s) ∧ (∀ s, Inv s → DOk N ss.length s) ∧
  ∀ s, Inv s → s.left = [] → Outs N f ss o s
structure In2 (N : Nat) (A C : Poly) : Prop where
  n23 : N = 2 ∨ N = 3
  pa : PolyOk N 4 4 A
  an : (A.map (·.1)).Nodup
  pc : PolyOk N 3 2 C
  cn : (C.map (·.1)).Nodup
noncomputable def LawEx1 : Prop := ∀ N A C, In2 N A C → ∃ (Inv : DSt → Prop) (mu : DSt → Nat), (C ≠ [] → ExOk N C (pmul A C) Inv mu) ∧ ∀ s, C ≠ [] → Inv s → s.left = [] → s.rest = [] ∧ peq (s.qs.getD 0 []) A = true
noncomputable def LawEx2 : Prop := ∀ N A S C, In2 N A S → In2 N A C → ∃ (Inv : DSt → Prop) (mu : DSt → Nat), (C ≠ [] → ExOk N C (pmul A S) Inv mu) ∧ ∀ s, C ≠ [] → Inv s → s.left = [] → s.rest = [] →
  (∀ e ∈ s.qs.getD 0 [], e.1.length = N) ∧ C.length * tsz (s.qs.getD 0 []) + (s.qs.getD 0 []).length * tsz C ≤ LIM ∧ peq (pmul (s.qs.getD 0 []) C) (pmul A S) = true
noncomputable def LawEx3 : Prop := ∀ N A C, In2 N A C → (∀ e ∈ pmul A C, KB N e.1) ∧ ∃ (Inv : DSt → Prop) (mu : DSt → Nat), (∀ le, plead .lex C = some le → le.1.sum ≠ 0 → ExOk N C (padd (pmul A C) [(List.replicate N 0, 1)]) Inv mu) ∧ ∀ le s, plead .lex C = some le → le.1.sum ≠ 0 → Inv s → s.left = [] → s.rest ≠ []
theorem PolyOk.tsz {n high most : Nat} {P : Poly} (x : PolyOk n high most P) : tsz P ≤ 4 * most := by
  have : ∀ P : Poly, (∀ e ∈ P, sz e.2 ≤ 2) → NN.tsz P ≤ 4 * P.length := by
    intro P
    induction P with
    | nil => intro _; simp [tsz_nil]
    | cons e P ih =>
      intro h
      rw [tsz_cons, List.length_cons]
      have := h e List.mem_cons_self
      have := ih fun f hf => h f (List.mem_cons_of_mem _ hf)
      omega
  have h1 := this P fun e he => (x.nz e he).2
  have := x.few
  omega
theorem PolyOk.sok {n : Nat} {P : Poly} (x : PolyOk n 3 2 P) : SOk n P := ⟨x.len, fun e he => (x.nz e he).1, by have := x.tsz; omega, x.few⟩

theorem da_box {z : Z} {h : Heap} {b l d : Addr} {P : Poly} (B : BoxAt h b l) (D : DA z h d P) : d ≠ b ∧ d ≠ l := by
  obtain ⟨xs, ⟨o, es, ep, ho, hc, hd, _⟩, _⟩ := D.p
  obtain ⟨⟨st, t, ⟨o1, hb, hcb, n1, hd1⟩, h0, h1⟩, ⟨vs, ns, ⟨n, hl⟩, hi, hn⟩, ne⟩ := B
  refine ⟨fun q => ?_, fun q => ?_⟩
  · rw [q, hb] at ho; cases ho; rw [hd1] at hd; cases hd
  · rw [q, hl] at ho; cases ho; cases hd
theorem PolysAt.snoc {z : Z} {h : Heap} {ds : List Addr} {Ps : List Poly} (x : PolysAt z h ds Ps) {d : Addr} {P : Poly} (D : DA z h d P) : PolysAt z h (ds ++ [d]) (Ps ++ [P]) := by
  refine ⟨by simp [x.1], fun i w c a b => ?_⟩
  rw [List.getElem?_append] at a b
  rw [← x.1] at b
  split at a
  · rename_i hlt
    rw [if_pos hlt] at b
    exact x.2 i w c a b
  · rename_i hlt
    rw [if_neg hlt] at b
    have h1 := (List.getElem?_eq_some_iff.mp a).1
    have : i - ds.length = 0 := by simp at h1; omega
    rw [this] at a b
    simp at a b
    subst a b
    exact D

section
variable {z : Z} {A : Around} {h : Heap} {k : Nat}
set_option maxHeartbeats 4000000 in
theorem law_W {sa : Addr} {vs : List Value} {ns : List Int} {Q : Value → Heap → Prop} (G : GL z h) (r : Rm A (k + 14)) (hl : h.IsList sa vs.toArray) (hi : IntsAre vs ns) (hn : vs.length ≤ 100)
    (D1 : LawDiv) (X1 : LawEx1) (X2 : LawEx2) (X3 : LawEx3) (q : ∀ h', Ext h h' → Q (.bool true) h') : W z A (call (.ref 234) [.ref sa]) h Q := by
  refine W.defCF 39 nm_law [true] G r (lk_law _) (cd_law _) (by kernel_rfl!) rfl (by kernel_rfl!) fun L hb₀ h₁ e0 F R cells hL0 => ?_
  have r' := R.r
  have h100 : (1000 : Nat) ≤ sizeLine := by decide
  have cc1 := cells (Str.ofString "box") (L + 1) (by kernel_rfl!)
  have cc2 := cells (Str.ofString "n") (L + 2) (by kernel_rfl!)
  have ad1 : L + 1 ≠ L := Nat.succ_ne_self _
  have ad2 : L + 2 ≠ L := (ad L).1
  have ad12 : L + 1 ≠ L + 2 := (ad L).2.2.1
  obtain ⟨hB, eB1, eB2, nB1, nB2, eB3⟩ := two_hidden e0 cc1.2 cc2.2
  have GB := G.ext eB1
  have FB := F.base eB2
  have slB : hB.IsList sa vs.toArray := isList_at hl fun o e => eB1.get e
  have c1 : ∃ v, h₁.IsCell (L + 1) v := ⟨_, isCell_at cc1.1 fun o e => F.keep.get e⟩
  have c2 : ∃ v, h₁.IsCell (L + 2) v := ⟨_, isCell_at cc2.1 fun o e => F.keep.get e⟩
  have G1 := GB.ext FB.keep
  -- box
  refine W.cons (W.asg (W.callN (W.ng G1 (.ref 198) (W.callW (lk_law_box _) (W.sp (W.nl FB 0 (W.sp (W.cint fun t1 => W.sp (W.cint fun t2 => W.sp0 ⟨G1, law_box_W (k := k) (much := 24) G1 (r'.mono (by omega)) (isList_at slB fun o e => FB.keep.get e) hi hn fun h2 b l e2 hb2 hl2 B2 => ?_⟩)))))))))
  have F2 := FB.ext e2
  obtain ⟨v1, hv1⟩ := c1
  have cell2 : ∀ {c v}, h₁.IsCell c v → h2.IsCell c v := fun hv => hv.keeps e2.ks
  refine W.storeC (cell2 hv1) fun h3 hc3 k3 t3 => ?_
  obtain ⟨v2, hv2⟩ := c2
  have nb : hB.get? b = none := none_of FB.keep hb2
  have nl : hB.get? l = none := none_of FB.keep hl2
  have nbc : b ≠ L + 1 ∧ l ≠ L + 1 := by
    obtain ⟨o, ho, _⟩ := hv1
    exact ⟨fun q => (by rw [← q, hb2] at ho; cases ho), fun q => (by rw [← q, hl2] at ho; cases ho)⟩
  have B3 : BoxAt h3 b l := B2.at (fun o e => k3 _ o nbc.1 e) (fun o e => k3 _ o nbc.2 e)
  have S3 : LB z hB L b l [some (.ref sa), none, none, none, none, none, none, none, none] h3 := ⟨GB, F2.keepD k3 (fun q => ad1 q.symm) (fun a ha => by rw [ha]; exact nB1), nb, nl, B3⟩
  have hc23 : h3.IsCell (L + 2) v2 := isCell_at (cell2 hv2) fun o e => k3 _ o ad12.symm e
  have G3 := GB.ext S3.F.keep
  -- n
  refine W.cons (W.asg (W.bin (W.cint fun t4 => W.callN (W.ng G3 (.ref 191) (W.callW (lk_law_take _) (W.sp (W.cell hc3 (W.sp (W.cint fun t5 => W.sp0 ⟨G3, law_take_W (k := k) (wide := 2) GB S3.F.keep nb nl (r'.mono (by omega)) B3 (by decide) fun h4 v t6 k4 tk4 B4 hv => W.add fun t7 => ?_⟩)))))))))
  have eN : (2 : Int) + (v : Int) = ((v + 2 : Nat) : Int) := by omega
  rw [eN]
  obtain ⟨N, hN⟩ : ∃ N : Nat, N = v + 2 := ⟨_, rfl⟩
  rw [← hN]
  have hN23 : N = 2 ∨ N = 3 := by omega
  have S4 := S3.took k4 B4
  have nc := cell_not_box B3 hc3
  have nc2 := cell_not_box B3 hc23
  have hc4 : h4.IsCell (L + 1) (some (.ref b)) := isCell_at hc3 fun o e => k4 _ o (by rintro (q | q); exact nc.1 q; exact nc.2 q) e
  have hc24 : h4.IsCell (L + 2) v2 := isCell_at hc23 fun o e => k4 _ o (by rintro (q | q); exact nc2.1 q; exact nc2.2 q) e
  refine W.storeC hc24 fun h5 hc25 k5 t5' => ?_
  have hc5 : h5.IsCell (L + 1) (some (.ref b)) := isCell_at hc4 fun o e => k5 _ o ad12 e
  have nc2' := cell_not_box B4 hc24
  have S5 : LB z hB L b l [some (.ref sa), none, none, none, none, none, none, none, none] h5 := ⟨GB, S4.F.keepD k5 (fun q => ad2 q.symm) (fun a ha => by rw [ha]; exact nB2), nb, nl, B4.at (fun o e => k5 _ o (fun q => nc2'.1 q.symm) e) (fun o e => k5 _ o (fun q => nc2'.2 q.symm) e)⟩
  obtain ⟨hR, SR, eR, tR, gR⟩ := S5.reb
  have nc5 := cell_not_box S5.B hc5
  have nc25 := cell_not_box S5.B hc25
  have cb : hR.IsCell (L + 1) (some (.ref b)) := isCell_at hc5 fun o e => gR _ o ad1 nc5.1 nc5.2 e
  have cn : hR.IsCell (L + 2) (some (.int (N : Int) t7)) := isCell_at hc25 fun o e => gR _ o ad2 nc25.1 nc25.2 e
  clear S5 S4 S3 hc3 hc23 hc4 hc24 k3 k4 k5 t3 tk4 t5' gR tR
  have G5 := SR.G.ext SR.F.keep
  -- f
  refine W.cons (W.asg (W.callN (W.ng G5 (.ref 203) (W.callW (lk_law_poly _) (W.sp (W.cell (cb.keeps SR.F.keep.ks) (W.sp (W.cell (cn.keeps SR.F.keep.ks) (W.sp (W.cint fun t8 => W.sp (W.cint fun t9 => W.sp0 ⟨G5, law_poly_W (k := k) (n := N) (most := 4) (high := 4) SR.G SR.F.keep SR.nb SR.nl (r'.mono (by omega)) SR.B (by omega) (by decide) (by decide) fun h6 fd f k6 t6 B6 hfd Df pf => ?_⟩)))))))))))
  have S6 := SR.took k6 B6
  have nfL : fd ≠ L := SR.F.neL hfd
  refine W.store S6.F 3 fun h7 F7 s7 => ?_
  have S7 := S6.stored F7 s7
  have Df7 := Df.same S6.F.ns s7 nfL
  obtain ⟨hR2, S8, e8, t8', g8⟩ := S7.reb
  have DfR : DA z hR2 fd f := Df7.move t8' fun o e => g8 _ o nfL (S7.da Df7).1 (S7.da Df7).2 e
  have cb2 := cb.keeps e8.ks
  have cn2 := cn.keeps e8.ks
  clear S6 S7 k6 t6 g8 t8' SR G5
  have G8 := S8.G.ext S8.F.keep
  -- some
  refine W.cons (W.asgLcomp (cl := [(Str.ofString "n", L + 2), (Str.ofString "box", L + 1)]) (by kernel_rfl!) rfl (by decide +kernel) ?_ (by kernel_rfl!))
  refine W.callN (W.nb G8 boot_range (W.callT (W.sp (W.bin (W.cint fun ta => W.callN (W.ng G8 (.ref 191) (W.callW (lk_law_take _) (W.sp (W.cell (cb2.keeps S8.F.keep.ks) (W.sp (W.cint fun tb => W.sp0 ⟨G8, law_take_W (k := k) (wide := 3) S8.G S8.F.keep S8.nb S8.nl (r'.mono (by omega)) S8.B (by decide) fun h9 v9 t9 k9 tk9 B9 hv9 => W.add fun t10 => W.sp0 ?_⟩)))))))))))
  have eM : (1 : Int) + (v9 : Int) = ((v9 + 1 : Nat) : Int) := by omega
  rw [eM]
  have S9 := S8.took k9 B9
  refine W.range1 fun ra h10 t11 t12 t13 e10 hr10 hra => W.iterRange hr10 (by omega) fun I hs es hI hit => ⟨I, rfl, ?_⟩
  have e9s : Ext h9 hs := Keep.trans e10 es
  have Ss := S9.ext e9s
  have hI9 : h9.get? I = none := none_of e10 hI
  have hIL : I ≠ L := S9.F.neL hI9
  have hIR : hR2.get? I = none := none_of S9.F.keep hI9
  have hIx : ∀ a, (a = b ∨ a = l) → a ≠ I := fun a ha q => by obtain ⟨o, ho⟩ := S9.B.some a ha; rw [q, hI9] at ho; cases ho
  refine compRunL (nmc := [Str.ofString "turn"]) (turnsRange r'.h I (v9 + 1)) (rangeIter0 hit) (by omega) (fun h Q st q n => wpAny_pyIter_rangeiter (s := at_ z h n) st (W.ok q)) (fun i h' st b hb => by rw [List.mem_singleton.mp hb]; exact not_tup_riter st) (fun b hb => by rw [List.mem_singleton.mp hb]; exact ⟨_, hit⟩) Ss.F (fun hm => hIL (List.mem_singleton.mp hm).symm) (fun b hb => by rw [List.mem_singleton.mp hb]; exact hIR) rfl (by decide +kernel)
    (fun a => a = b ∨ a = l) (fun a ha => ⟨Ss.B.some a ha, S8.hn a ha, (Ss.apart a ha).symm, by simpa using hIx a ha⟩) (fun i vs' => ∃ v, vs' = [some v])
    (fun D C i xs h' => ∃ ds Ps, xs = ds.map Value.ref ∧ ds.length = i ∧ PolysAt z h' ds Ps ∧ (∀ P ∈ Ps, PolyOk N 3 2 P ∧ (P.map (·.1)).Nodup) ∧ (∀ d ∈ ds, d ≠ D ∧ d ≠ C ∧ d ≠ L ∧ d ≠ I) ∧ BoxAt h' b l) (fun D C h' _ _ _ e => ⟨[], [], rfl, rfl, ⟨rfl, fun i d P a _ => by simp at a⟩, by simp, by simp, Ss.B.ext e⟩) (fun D C i xs h' h'' hD hC _ jj kk t => ?_) (fun C i v h' ws Q hi hP FC hw q => ?_) (fun D C i xs h2 vs' hi hV hD hC hDl FC FO kh tk jj st => ?_) (fun D C xs h' hD hC hDC hl' hm' FO kh tk jj => ?_)
  · obtain ⟨ds, Ps, a1, a2, a3, a4, a5, a6⟩ := jj
    have nx : ∀ a, (a = b ∨ a = l) → ¬ (a ∈ [I] ∨ a = D ∨ a = C ∨ a = L) := fun a ha => by
      rintro (q | q | q | q)
      · exact hIx a ha (by simpa using q)
      · obtain ⟨o, ho⟩ := Ss.B.some a ha; rw [q, hD] at ho; cases ho
      · obtain ⟨o, ho⟩ := Ss.B.some a ha; rw [q, hC] at ho; cases ho
      · exact Ss.apart a ha q.symm
    exact ⟨ds, Ps, a1, a2, a3.move t fun d hd o e => kk d o (by
      obtain ⟨n1, n2, n3, n4⟩ := a5 d hd
      rintro (q | q | q | q)
      · exact n4 (List.mem_singleton.mp q)
      · exact n1 q
      · exact n2 q
      · exact n3 q) e, a4, a5, a6.at (fun o e => kk _ o (nx b (.inl rfl)) e) (fun o e => kk _ o (nx l (.inr rfl)) e)⟩
  · exact asgOne FC hw (fun h2 F2 k2 t2 => q h2 _ ⟨v, rfl⟩ rfl F2 k2 t2) (by kernel_rfl!)
  · obtain ⟨ds, Ps, a1, a2, a3, a4, a5, a6⟩ := jj
    have G2 := S8.G.ext FO.keep
    refine W.tests0 ?_
    rw [if_pos rfl]
    refine W.callN (W.ng G2 (.ref 203) (W.callW (lk_law_poly _) (W.sp (W.cell (cb2.keeps FO.keep.ks) (W.sp (W.cell (cn2.keeps FO.keep.ks) (W.sp (W.cint fun tc => W.sp (W.cint fun td => W.sp0 ⟨G2, law_poly_W (k := k) (n := N) (most := 2) (high := 3) S8.G FO.keep S8.nb S8.nl (r'.mono (by omega)) a6 (by omega) (by decide) (by decide) fun h4 d P k4 tk4 B4 hd D4 ok4 => ⟨k4, tk4, ds ++ [d], Ps ++ [P], by simp [a1], by simp [a2], ?_, ?_, ?_, B4⟩⟩)))))))))
    · refine PolysAt.snoc (a3.move tk4 fun d' hd' o e => k4 d' o ?_ e) D4
      obtain ⟨j, hj⟩ := List.mem_iff_getElem?.mp hd'
      have hjl : j < Ps.length := by rw [← a3.1]; exact (List.getElem?_eq_some_iff.mp hj).1
      have := da_box a6 (a3.2 j d' _ hj (List.getElem?_eq_getElem hjl))
      rintro (q | q)
      · exact this.1 q
      · exact this.2 q
    · intro P' hP'
      rcases List.mem_append.mp hP' with hP' | hP'
      · exact a4 P' hP'
      · rw [List.mem_singleton.mp hP']; exact ⟨ok4, D4.nodup⟩
    · intro d' hd'
      rcases List.mem_append.mp hd' with hd' | hd'
      · exact a5 d' hd'
      · rw [List.mem_singleton.mp hd']
        refine ⟨?_, FC.neL hd, FO.neL hd, ?_⟩
        · rintro rfl
          obtain ⟨ys, o, ho, _⟩ := hDl
          rw [hd] at ho; cases ho
        · rintro rfl
          have e : h2.get? d = some _ := st
          rw [e] at hd; cases hd
  obtain ⟨sds, ss, rfl, hsl, hss, hso, hsn, B11⟩ := jj
  have hCL : L ≠ C := fun q => Ss.F.neL hC q.symm
  have hDL : D ≠ L := Ss.F.neL hD
  have hCx : ∀ a, (a = b ∨ a = l) → a ≠ C := fun a ha q => by obtain ⟨o, ho⟩ := Ss.B.some a ha; rw [q, hC] at ho; cases ho
  have hDx : ∀ a, (a = b ∨ a = l) → D ≠ a := fun a ha q => by obtain ⟨o, ho⟩ := Ss.B.some a ha; rw [← q, hD] at ho; cases ho
  have S11 : LB z hR2 L b l _ h' := ⟨S8.G, FO, S8.nb, S8.nl, B11⟩
  obtain ⟨mC, hmC⟩ := hm'
  refine W.store FO 4 fun h12 F12 s12 => ⟨⟨mC, hmC.at fun o e => (s12.2 _ (Ne.symm hCL)).trans e⟩, fun h13 s13 => ?_⟩
  have S12 := S11.stored F12 s12
  have hCR : hR2.get? C = none := none_of Ss.F.keep hC
  have S13 : LB z hR2 L b l _ h13 := ⟨S8.G, F12.comp s13 hCR hCL, S8.nb, S8.nl, S12.B.at (fun o e => (s13.2 _ (hCx b (.inl rfl))).trans e) (fun o e => (s13.2 _ (hCx l (.inr rfl))).trans e)⟩
  have k1113 : Keep (fun a => a = L ∨ a = C) h' h13 := fun a o ha e => (s13.2 a (fun q => ha (.inr q))).trans ((s12.2 a (fun q => ha (.inl q))).trans e)
  have t1113 : TK h' h13 := (TK.same FO.ns s12).trans (TK.same (hmC.at fun o e => (s12.2 _ (Ne.symm hCL)).trans e) s13)
  have hsl13 : h13.IsList D ((sds.map Value.ref).toArray) := isList_at hl' fun o e => k1113 D o (by rintro (q | q); exact hDL q; exact hDC q) e
  have hss13 : PolysAt z h13 sds ss := hss.move t1113 fun d hd o e => k1113 d o (by rintro (q | q); exact (hsn d hd).2.2.1 q; exact (hsn d hd).2.1 q) e
  obtain ⟨hR3, S14, e14, t14, g14⟩ := S13.reb
  have DfR3 := DfR.ext e14
  have cb3 := cb2.keeps e14.ks
  have hslR : hR3.IsList D ((sds.map Value.ref).toArray) := isList_at hsl13 fun o e => g14 D o hDL (hDx b (.inl rfl)) (hDx l (.inr rfl)) e
  have hssR : PolysAt z hR3 sds ss := ⟨hss13.1, fun i d P a b' => (hss13.2 i d P a b').move t14 fun o e => g14 d o (hsn d (List.mem_of_getElem? a)).2.2.1 (da_box S13.B (hss13.2 i d P a b')).1 (da_box S13.B (hss13.2 i d P a b')).2 e⟩
  have hlen : ss.length = v9 + 1 := hssR.1.symm.trans hsl
  clear S13 S12 S11 k1113 t1113 t14 g14 kh tk hit Ss S9 k9 tk9
  have G14 := S14.G.ext S14.F.keep
  -- order
  refine W.cons (W.asg (W.sub (W.list (W.sp (W.cstr fun ta => W.sp (W.cstr fun tb => W.sp (W.cstr fun tc => W.sp0 (W.newLst fun lo h15 e15 hlo hlo0 => ?_))))))))
  have S15 := S14.ext e15
  have G15 := S15.G.ext S15.F.keep
  have nlo : ∀ a, (a = b ∨ a = l) → lo ≠ a := fun a ha q => by obtain ⟨o, ho⟩ := S14.B.some a ha; rw [← q, hlo0] at ho; cases ho
  refine W.callN (W.ng G15 (.ref 191) (W.callW (lk_law_take _) (W.sp (W.cell (cb3.keeps S15.F.keep.ks) (W.sp (W.cint fun td => W.sp0 ⟨G15, law_take_W (k := k) (wide := 3) S15.G S15.F.keep S15.nb S15.nl (r'.mono (by omega)) S15.B (by decide) fun h16 v16 t16 k16 tk16 B16 hv16 => ?_⟩))))))
  have S16 := S15.took k16 B16
  have hlo16 := isList_at hlo fun o e => k16 lo o (by rintro (q | q); exact nlo b (.inl rfl) q; exact nlo l (.inr rfl) q) e
  obtain ⟨tn, hord⟩ : ∃ tn, [Value.str (Str.ofString "lex") ta, Value.str (Str.ofString "grlex") tb, Value.str (Str.ofString "grevlex") tc][v16]? = some (.str (ordAt v16).name tn) := by
    have : v16 = 0 ∨ v16 = 1 ∨ v16 = 2 := by omega
    rcases this with rfl | rfl | rfl
    · exact ⟨ta, rfl⟩
    · exact ⟨tb, rfl⟩
    · exact ⟨tc, rfl⟩
  obtain ⟨o, ho⟩ : ∃ o, o = ordAt v16 := ⟨_, rfl⟩
  rw [← ho] at hord
  refine W.lstV hlo16 hord (by show 3 < 2 ^ 62; decide) (W.store S16.F 5 fun h17 F17 s17 => ?_)
  have S17 := S16.stored F17 s17
  clear S15 S16 k16 tk16 S14 G14 G15 hlo16 hord hlo
  -- the point drawn
  refine W.cons (W.asgLcomp (cl := [(Str.ofString "box", L + 1)]) (by kernel_rfl!) rfl (by decide +kernel) ?_ (by kernel_rfl!))
  have G17 := S17.G.ext S17.F.keep
  have cn3 := cn2.keeps e14.ks
  refine W.callN (W.nb G17 boot_range (W.callT (W.sp (W.cell (cn3.keeps S17.F.keep.ks) (W.sp0 (W.range1 fun ra h18 t11 t12 t13 e18 hr18 hra => W.iterRange (n := N) hr18 (by omega) fun I hs es hI hit => ⟨I, rfl, ?_⟩))))))
  have e17s : Ext h17 hs := Keep.trans e18 es
  have Ss := S17.ext e17s
  have hI17 : h17.get? I = none := none_of e18 hI
  have hIL : I ≠ L := S17.F.neL hI17
  have hIR : hR3.get? I = none := none_of S17.F.keep hI17
  have hIx : ∀ a, (a = b ∨ a = l) → a ≠ I := fun a ha q => by obtain ⟨o, ho⟩ := S17.B.some a ha; rw [q, hI17] at ho; cases ho
  refine compRunL (nmc := [Str.ofString "letter"]) (turnsRange r'.h I N) (rangeIter0 hit) (by omega) (fun h Q st q n => wpAny_pyIter_rangeiter (s := at_ z h n) st (W.ok q)) (fun i h' st b hb => by rw [List.mem_singleton.mp hb]; exact not_tup_riter st) (fun b hb => by rw [List.mem_singleton.mp hb]; exact ⟨_, hit⟩) Ss.F (fun hm => hIL (List.mem_singleton.mp hm).symm) (fun b hb => by rw [List.mem_singleton.mp hb]; exact hIR) rfl (by decide +kernel)
    (fun a => a = b ∨ a = l) (fun a ha => ⟨Ss.B.some a ha, S17.hn a ha, (Ss.apart a ha).symm, by simpa using hIx a ha⟩) (fun i vs' => ∃ v, vs' = [some v])
    (fun D C i xs h' => ∃ ps, PairsAt h' xs ps ∧ ps.length = i ∧ (∀ p ∈ ps, okPair p) ∧ BoxAt h' b l) (fun D C h' _ _ _ e => ⟨[], ⟨rfl, fun i d P a _ => by simp at a⟩, rfl, by simp, Ss.B.ext e⟩) (fun D C i xs h' h'' hD hC _ jj kk t => ?_) (fun C i v h' ws Q hi hP FC hw q => ?_) (fun D C i xs h2 vs' hi hV hD hC hDl FC FO kh tk jj st => ?_) (fun D2 C2 xs2 h19 hD2 hC2 hDC2 hl19 hm19 FO kh tk jj => ?_)
  · obtain ⟨ps, a1, a2, a3, a4⟩ := jj
    have nx : ∀ a, (a = b ∨ a = l) → ¬ (a ∈ [I] ∨ a = D ∨ a = C ∨ a = L) := fun a ha => by
      rintro (q | q | q | q)
      · exact hIx a ha (by simpa using q)
      · obtain ⟨o, ho⟩ := Ss.B.some a ha; rw [q, hD] at ho; cases ho
      · obtain ⟨o, ho⟩ := Ss.B.some a ha; rw [q, hC] at ho; cases ho
      · exact Ss.apart a ha q.symm
    exact ⟨ps, a1.tk t, a2, a3, a4.at (fun o e => kk _ o (nx b (.inl rfl)) e) (fun o e => kk _ o (nx l (.inr rfl)) e)⟩
  · exact asgOne FC hw (fun h2 F2 k2 t2 => q h2 _ ⟨v, rfl⟩ rfl F2 k2 t2) (by kernel_rfl!)
  · obtain ⟨ps, a1, a2, a3, a4⟩ := jj
    have G2 := S17.G.ext FO.keep
    refine W.tests0 ?_
    rw [if_pos rfl]
    refine W.tuple (W.sp (W.bin (W.callN (W.ng G2 (.ref 191) (W.callW (lk_law_take _) (W.sp (W.cell (cb3.keeps FO.keep.ks) (W.sp (W.cint fun tc => W.sp0 ⟨G2, law_take_W (k := k) (wide := 5) S17.G FO.keep S17.nb S17.nl (r'.mono (by omega)) a4 (by decide) fun h4 u4 t4 k4 tk4 B4 hu4 => W.cint fun _ => W.subI fun t5 => ?_⟩)))))))))
    have FO4 := FO.keepD k4 (by rintro (q | q); exact Ss.apart b (.inl rfl) q; exact Ss.apart l (.inr rfl) q) S17.hn
    have G4 := S17.G.ext FO4.keep
    refine W.sp (W.bin (W.cint fun _ => W.callN (W.ng G4 (.ref 191) (W.callW (lk_law_take _) (W.sp (W.cell (cb3.keeps FO4.keep.ks) (W.sp (W.cint fun tc => W.sp0 ⟨G4, law_take_W (k := k) (wide := 2) S17.G FO4.keep S17.nb S17.nl (r'.mono (by omega)) B4 (by decide) fun h6 u6 t6 k6 tk6 B6 hu6 => W.add fun t7 => W.sp0 (W.newTup fun T h8 e8 T8 _ => ?_)⟩))))))))
    refine ⟨k4.trans (k6.trans (Ext.to e8)), (tk4.trans tk6).trans (TK.ext e8), ps ++ [((u4 : Int) - 2, 1 + (u6 : Int))], (a1.tk ((tk4.trans tk6).trans (TK.ext e8))).snoc T8, by simp [a2], fun p hp => ?_, B6.ext e8⟩
    rcases List.mem_append.mp hp with hp | hp
    · exact a3 p hp
    · rw [List.mem_singleton.mp hp]
      refine ⟨?_, ?_, ?_, ?_⟩ <;> simp only <;> omega
  obtain ⟨ps, hps, hpl, hpo, B19⟩ := jj
  have hCL : L ≠ C2 := fun q => Ss.F.neL hC2 q.symm
  have hDL2 : D2 ≠ L := Ss.F.neL hD2
  have hCx : ∀ a, (a = b ∨ a = l) → a ≠ C2 := fun a ha q => by obtain ⟨o, ho⟩ := Ss.B.some a ha; rw [q, hC2] at ho; cases ho
  have hDx2 : ∀ a, (a = b ∨ a = l) → D2 ≠ a := fun a ha q => by obtain ⟨o, ho⟩ := Ss.B.some a ha; rw [← q, hD2] at ho; cases ho
  have S19 : LB z hR3 L b l _ h19 := ⟨S17.G, FO, S17.nb, S17.nl, B19⟩
  obtain ⟨mC, hmC⟩ := hm19
  refine W.store FO 6 fun h20 F20 s20 => ⟨⟨mC, hmC.at fun o e => (s20.2 _ (Ne.symm hCL)).trans e⟩, fun h21 s21 => ?_⟩
  have S20 := S19.stored F20 s20
  have hCR : hR3.get? C2 = none := none_of Ss.F.keep hC2
  have S21 : LB z hR3 L b l _ h21 := ⟨S17.G, F20.comp s21 hCR hCL, S17.nb, S17.nl, S20.B.at (fun o e => (s21.2 _ (hCx b (.inl rfl))).trans e) (fun o e => (s21.2 _ (hCx l (.inr rfl))).trans e)⟩
  have k1921 : Keep (fun a => a = L ∨ a = C2) h19 h21 := fun a o ha e => (s21.2 a (fun q => ha (.inr q))).trans ((s20.2 a (fun q => ha (.inl q))).trans e)
  have t1921 : TK h19 h21 := (TK.same FO.ns s20).trans (TK.same (hmC.at fun o e => (s20.2 _ (Ne.symm hCL)).trans e) s21)
  have hl21 : h21.IsList D2 xs2.toArray := isList_at hl19 fun o e => k1921 D2 o (by rintro (q | q); exact hDL2 q; exact hDC2 q) e
  have hps21 := hps.tk t1921
  obtain ⟨hR4, S22, e22, t22, g22⟩ := S21.reb
  have hlR4 : hR4.IsList D2 xs2.toArray := isList_at hl21 fun o e => g22 D2 o hDL2 (hDx2 b (.inl rfl)) (hDx2 l (.inr rfl)) e
  have hpsR := hps21.tk t22
  have DfR4 := DfR3.ext e22
  have hslR4 : hR4.IsList D ((sds.map Value.ref).toArray) := isList_at hslR fun o e => e22.get e
  have hssR4 := hssR.ext e22
  clear S21 S20 S19 k1921 t1921 t22 g22 kh tk hit Ss S17 hl21 hps21 hl19 hps
  have G22 := S22.G.ext S22.F.keep
  -- the point in its least terms
  have F22 := S22.F
  have lx2 : xs2.length = N := by rw [hpsR.1, hpl]
  refine W.cons (W.asgLcomp (cl := []) (by kernel_rfl!) rfl (by decide +kernel) (W.nl F22 6 (W.iterList (isList_at hlR4 fun o e => F22.keep.get e) fun I hs es hI hit => ⟨I, rfl, ?_⟩)) (by kernel_rfl!))
  have Fs := F22.ext es
  have hDI : D2 ≠ I := fun q => by obtain ⟨o, ho, _⟩ := hlR4; have := F22.keep.get ho; rw [q, hI] at this; cases this
  have hIL : I ≠ L := F22.neL hI
  have hIR : hR4.get? I = none := none_of F22.keep hI
  refine compRunP (nmc := [Str.ofString "top", Str.ofString "bottom"]) (turnsListP r'.h I D2 hDI xs2.toArray) ⟨hit, isList_at hlR4 fun o e => es.get (F22.keep.get e)⟩ (by simp; omega) (fun h Q st q n => wpAny_pyIter_listiter (s := at_ z h n) st.1 (W.ok q)) (fun i h' st b hb => by rw [List.mem_singleton.mp hb]; exact not_tup_liter st.1) (fun b hb => ?_) Fs (fun hm => hIL (List.mem_singleton.mp hm).symm) (fun b hb => by rw [List.mem_singleton.mp hb]; exact hIR) rfl (by decide +kernel)
    (fun i vs' => ∃ p t u, ps[i]? = some p ∧ vs' = [some (.int p.1 t), some (.int p.2 u)]) (fun i xs h' => RatsAt h' xs ((ps.take i).map ratOf)) (fun h' _ => ⟨by simp, fun i v q a b => by simp at a⟩) (fun i xs h' h'' j t => j.tk t) (fun C i v h' ws Q hi hP FC hw q => ?_) (fun C i xs h2 vs' hi hV FC FO tk j => ?_) (fun D3 C3 xs3 h23 hD3 hC3 hDC3 hl23 hm23 FO kh tk j => ?_)
  · simp only [List.mem_cons, List.not_mem_nil, or_false] at hb
    rcases hb with rfl | rfl
    · obtain ⟨o, ho, _⟩ := hit; exact ⟨o, ho⟩
    · obtain ⟨o, ho, _⟩ := hlR4; exact ⟨o, es.get (F22.keep.get ho)⟩
  · have hP' : xs2[i]? = some v := by simpa using hP
    have hip : i < ps.length := by rw [← hpsR.1]; exact (List.getElem?_eq_some_iff.mp hP').1
    have ep : ps[i]? = some ps[i] := List.getElem?_eq_getElem hip
    obtain ⟨T, t, u, rfl, hT⟩ := hpsR.2 i v _ hP' ep
    exact asgPair r' (IsTup.ext hT FC.keep) FC hw (fun h2 F2 k2 t2 => q h2 _ ⟨_, t, u, ep, rfl⟩ rfl F2 k2 t2) (by kernel_rfl!) (by kernel_rfl!)
  · obtain ⟨p, t, u, ep, rfl⟩ := hV
    have hok := hpo p (List.mem_of_getElem? ep)
    obtain ⟨p1, p2⟩ := p
    have hp2 : p2 ≠ 0 := by have := hok.2.2.1; simp only at this; omega
    have hcs := hok.cases
    have G2 := S22.G.ext FO.keep
    have fin : ∀ h3 T, Ext h2 h3 → RatAt h3 (.ref T) (ratOf (p1, p2)) → Ext h2 h3 ∧ RatsAt h3 (xs ++ [.ref T]) ((ps.take (i + 1)).map ratOf) := fun h3 T e hT => by
      refine ⟨e, ?_⟩
      rw [List.take_add_one, ep, List.map_append]
      exact (j.ext e).snoc hT
    refine W.tests0 ?_
    rw [if_pos rfl]
    refine W.ifx (W.tcmp (W.bin (W.nl FC 0 (W.nl FC 1 (W.fmod hp2 fun t3 => W.cint fun _ => W.eqI (W.tb ?_))))))
    by_cases hz : p1.fmod p2 = 0
    · rw [if_pos (by simpa using hz)]
      obtain ⟨n1, n2⟩ := hcs.2.1 hz
      refine W.tuple (W.sp (W.bin (W.nl FC 0 (W.nl FC 1 (W.fdiv G2 R hp2 fun t4 => W.sp (W.cint fun t5 => W.sp0 (W.newTup fun T h3 e3 T3 _ => fin h3 T e3 ⟨T, t4, t5, rfl, ?_⟩)))))))
      rw [n1, n2]; exact T3
    · rw [if_neg (by simpa using hz)]
      obtain ⟨n1, n2⟩ := hcs.2.2 hz
      refine W.tuple (W.sp (W.nl FC 0 (W.sp (W.nl FC 1 (W.sp0 (W.newTup fun T h3 e3 T3 _ => fin h3 T e3 ⟨T, t, u, rfl, ?_⟩))))))
      rw [n1, n2]; exact T3
  obtain ⟨pt, hpt⟩ : ∃ pt, pt = ps.map ratOf := ⟨_, rfl⟩
  rw [show xs2.toArray.size = ps.length by rw [List.size_toArray]; exact hpsR.1, List.take_length, ← hpt] at j
  have hptl : pt.length = N := by rw [hpt]; simp [hpl]
  have hpt2 : ∀ q ∈ pt, sz q ≤ 2 := fun q hq => by
    rw [hpt] at hq
    obtain ⟨p, hp, rfl⟩ := List.mem_map.mp hq
    exact (hpo p hp).cases.1
  have hCL : L ≠ C3 := fun q => Fs.neL hC3 q.symm
  have hDL3 : D3 ≠ L := Fs.neL hD3
  have hCR : hR4.get? C3 = none := none_of Fs.keep hC3
  obtain ⟨mC, hmC⟩ := hm23
  refine W.store FO 6 fun h24 F24 s24 => ⟨⟨mC, hmC.at fun o e => (s24.2 _ (Ne.symm hCL)).trans e⟩, fun h25 s25 => ?_⟩
  have F25 := F24.comp s25 hCR hCL
  have hl25 : h25.IsList D3 xs3.toArray := isList_at hl23 fun o e => (s25.2 _ hDC3).trans ((s24.2 _ hDL3).trans e)
  have t25 : TK h23 h25 := (TK.same FO.ns s24).trans (TK.same (hmC.at fun o e => (s24.2 _ (Ne.symm hCL)).trans e) s25)
  have hpt25 := j.tk t25
  obtain ⟨F26, e26⟩ : MF (h25.hide L) nm_law L _ h25 ∧ Ext hR4 (h25.hide L) := F25.rebase
  have hlpR : (h25.hide L).IsList D3 xs3.toArray := isList_at hl25 fun o e => hide_get hDL3 e
  have hptR : RatsAt (h25.hide L) xs3 pt := hpt25.tk (TK.keep (D := fun a => a = L) (fun a o hne q => hide_get hne q) fun b hb => by rw [hb]; exact not_tup_ns F25.ns)
  have Gm := S22.G.ext e26
  have Dfm := DfR4.ext e26
  have hslm : (h25.hide L).IsList D ((sds.map Value.ref).toArray) := isList_at hslR4 fun o e => e26.get e
  have hssm := hssR4.ext e26
  generalize h25.hide L = hM at *
  clear kh tk hit Fs hl25 hpt25 hl23 hlR4 hpsR DfR4 hslR4 hssR4 S22 G22 F22 es F25 F24 s24 s25 hmC FO
  have G26 := Gm.ext F26.keep
  -- division
  have hin : Ins N f ss := ⟨hN23, pf, Df.nodup, fun s hs => (hso s hs).1, fun s hs => (hso s hs).2, by omega⟩
  obtain ⟨Inv, mu, i0, ist, iok, ifin⟩ := D1 N f ss o hin
  refine W.cons (W.asgT (W.callN (W.ng G26 (.ref 177) (W.callW (lk_mvdivide _) (W.sp (W.nl F26 3 (W.sp (W.nl F26 4 (W.sp (W.nl F26 5 (W.sp0 ⟨G26, mvdivide_W (k := k) (o := o) (m := N) G26 (r'.mono (by omega)) (Dfm.ext F26.keep) (isList_at hslm fun o e => F26.keep.get e) (hssm.ext F26.keep) (fun S hS => (hso S hS).1.sok) (by omega) (by omega) (by omega) Inv mu i0 ist iok fun h27 tq qa rd qds s e27 hinv hleft Tq hql hqs hrd hfr => ?_⟩)))))))))))
  have out := ifin s hinv hleft
  have nL : ∀ a, a = qa ∨ a = rd ∨ a ∈ qds → a ≠ L := fun a ha => F26.neL (hfr a ha)
  have F27 := F26.ext e27
  refine W.asgP r' Tq fun h28 e28 => W.asgN (W.store (F27.ext e28) 7 fun h29 F29 s29 => W.asgN (W.store F29 8 fun h30 F30 s30 => ?_))
  have k30 : Keep (fun a => a = L) h27 h30 := (Ext.to e28).trans ((Keep.same s29).trans (Keep.same s30))
  have t30 : TK h27 h30 := (TK.ext e28).trans ((TK.same (F27.ext e28).ns s29).trans (TK.same F29.ns s30))
  have hql30 : h30.IsList qa ((qds.map Value.ref).toArray) := isList_at hql fun o e => k30 _ o (nL qa (.inl rfl)) e
  have hqs30 : PolysAt z h30 qds s.qs := hqs.move t30 fun d hd o e => k30 _ o (nL d (.inr (.inr hd))) e
  have hrd30 : DA z h30 rd s.rest := hrd.move t30 fun o e => k30 _ o (nL rd (.inr (.inl rfl))) e
  obtain ⟨F31, e31⟩ : MF (h30.hide L) nm_law L _ h30 ∧ Ext hM (h30.hide L) := F30.rebase
  have tH : TK h30 (h30.hide L) := TK.keep (D := fun a => a = L) (fun a o hne q => hide_get hne q) fun b hb => by rw [hb]; exact not_tup_ns F30.ns
  have hqlH : (h30.hide L).IsList qa ((qds.map Value.ref).toArray) := isList_at hql30 fun o e => hide_get (nL qa (.inl rfl)) e
  have hqsH : PolysAt z (h30.hide L) qds s.qs := hqs30.move tH fun d hd o e => hide_get (nL d (.inr (.inr hd))) e
  have hrdH : DA z (h30.hide L) rd s.rest := hrd30.move tH fun o e => hide_get (nL rd (.inr (.inl rfl))) e
  have GH := Gm.ext e31
  have DfH := Dfm.ext e31
  have hslH : (h30.hide L).IsList D ((sds.map Value.ref).toArray) := isList_at hslm fun o e => e31.get e
  have hssH := hssm.ext e31
  have hlpH : (h30.hide L).IsList D3 xs3.toArray := isList_at hlpR fun o e => e31.get e
  have hptH := hptR.ext e31
  have eall : Ext h (h30.hide L) := Keep.trans eB1 (Keep.trans eR (Keep.trans e8 (Keep.trans e14 (Keep.trans e22 (Keep.trans e26 e31)))))
  generalize h30.hide L = hH at *
  clear k30 t30 tH hql30 hqs30 hrd30 hql hqs hrd F29 F30 s29 s30 e28 Tq F27
  have tf : tsz f ≤ 16 := by have := pf.tsz; omega
  have kbf : ∀ e ∈ f, KB N e.1 := fun e he => by
    have hl := pf.len e he
    have hb := pf.bd e he
    obtain ⟨ks, c⟩ := e
    simp only at hl hb ⊢
    match ks, hl, hb with
    | [], hl, _ => simp at hl; omega
    | [x], hl, _ => simp at hl; omega
    | [x, y], hl, hb =>
      have hx := hb x (by simp)
      have hy := hb y (by simp)
      simp at hl
      exact ⟨hl.symm, ⟨by omega, by omega⟩, by omega, by omega⟩
    | [x, y, w], hl, hb =>
      have hx := hb x (by simp)
      have hy := hb y (by simp)
      have hw := hb w (by simp)
      simp at hl
      exact ⟨hl.symm, ⟨by omega, by omega⟩, ⟨by omega, by omega⟩, by omega, by omega⟩
    | _ :: _ :: _ :: _ :: _, hl, _ => simp at hl; omega
  have G32 := GH.ext F31.keep
  -- the sums
  refine W.cons (W.iff (W.tnot (W.tplain (W.callN (W.ng G32 (.ref 210) (W.callW (lk_law_sum_right _) (W.sp (W.nl F31 3 (W.sp (W.nl F31 4 (W.sp (W.nl F31 7 (W.sp (W.nl F31 8 (W.sp (W.nl F31 6 (W.sp0 ⟨G32, ?_⟩)))))))))))))))))
  refine law_sum_right_W (k := k) (m := N) G32 (r'.mono (by omega)) (DfH.ext F31.keep) (isList_at hslH fun o e => F31.keep.get e) (hssH.ext F31.keep) (isList_at hqlH fun o e => F31.keep.get e) (hqsH.ext F31.keep) (hrdH.ext F31.keep) (isList_at hlpH fun o e => F31.keep.get e) (hptH.ext F31.keep) hptl hpt2 out.sum (by omega) kbf (by have := psz_le f; omega) out.e1 (out.e2 pt hptl) fun h33 e33 => W.tb ?_
  rw [Bool.not_true, if_neg (by decide)]
  have F33 := F31.ext e33
  have G33 := GH.ext F33.keep
  -- the leads
  refine W.nil (W.cons (W.iff (W.tnot (W.tplain (W.callN (W.ng G33 (.ref 215) (W.callW (lk_law_leads_right _) (W.sp (W.nl F33 3 (W.sp (W.nl F33 4 (W.sp (W.nl F33 7 (W.sp (W.nl F33 8 (W.sp (W.nl F33 5 (W.sp0 ⟨G33, ?_⟩))))))))))))))))))
  refine law_leads_right_W (k := k) (m := N) G33 (r'.mono (by omega)) (DfH.ext F33.keep) (isList_at hslH fun o e => F33.keep.get e) (hssH.ext F33.keep) (isList_at hqlH fun o e => F33.keep.get e) (hqsH.ext F33.keep) (hrdH.ext F33.keep) (by omega) (by omega) (by omega) out.sum.lq pf.len (fun s hs => (hso s hs).1.len) (fun q hq e he => (out.sum.kq q hq e he).len) (fun e he => (out.sum.kr e he).len) out.H1 out.H2 fun h34 e34 => W.tb ?_
  rw [Bool.not_true, if_neg (by decide)]
  have F34 := F33.ext e34
  have G34 := GH.ext F34.keep
  -- exactness
  have h0s : 0 < ss.length := by omega
  have h0d : 0 < sds.length := by rw [hsl]; omega
  have hls : ss.length - 1 < ss.length := by omega
  have hld : sds.length - 1 < sds.length := by omega
  have eqd : sds.length = ss.length := hssH.1
  have D0 := hssH.2 0 _ _ (List.getElem?_eq_getElem h0d) (List.getElem?_eq_getElem h0s)
  have DZ := hssH.2 (sds.length - 1) _ ss[ss.length - 1] (List.getElem?_eq_getElem hld) (by rw [eqd]; exact List.getElem?_eq_getElem hls)
  have ok0 := hso _ (List.getElem_mem h0s)
  have okZ := hso _ (List.getElem_mem hls)
  have i20 : In2 N f ss[0] := ⟨hN23, pf, Df.nodup, ok0.1, ok0.2⟩
  have i2Z : In2 N f ss[ss.length - 1] := ⟨hN23, pf, Df.nodup, okZ.1, okZ.2⟩
  obtain ⟨Inv1, mu1, x11, x12⟩ := X1 N f _ i2Z
  obtain ⟨Inv2, mu2, x21, x22⟩ := X2 N f _ _ i20 i2Z
  obtain ⟨x30, Inv3, mu3, x31, x32⟩ := X3 N f _ i20
  have hL27 : LIM = 33554432 := rfl
  have prodsz : ∀ S, PolyOk N 3 2 S → S.length * tsz f + f.length * tsz S ≤ 64 := fun S hS => by
    have a1 := hS.few
    have a2 := hS.tsz
    have a3 := pf.few
    have b1 : S.length * tsz f ≤ 2 * 16 := Nat.mul_le_mul a1 tf
    have b2 : f.length * tsz S ≤ 4 * 8 := Nat.mul_le_mul a3 a2
    omega
  have p0 := prodsz _ ok0.1
  have pZ := prodsz _ okZ.1
  have lsds : (sds.map Value.ref).length < 2 ^ 62 := by rw [List.length_map, hsl]; omega
  refine W.nil (W.cons (W.ret (W.vand (W.callN (W.ng G34 (.ref 222) (W.callW (lk_law_exact_right _) (W.sp (W.nl F34 3 (W.sp ?_)))))))))
  refine W.callN (W.ng G34 (.ref 151) (W.callW (lk_mvmul _) (W.sp (W.nl F34 3 (W.sp (W.sub (W.nl F34 4 (W.cint fun _ => W.lstV (j := 0) (isList_at hslH fun o e => F34.keep.get e) (x := .ref sds[0]) (by rw [List.getElem?_map, List.getElem?_eq_getElem h0d]; rfl) lsds (W.sp0 ⟨G34, mvmul_W (k := k) (m := N) G34 (r'.mono (by omega)) (DfH.ext F34.keep) (D0.ext F34.keep) pf.len ok0.1.len (by omega) (by omega) fun d35 h35 e35 hd35 D35 => ?_⟩)))))))))
  have F35 := F34.ext e35
  have G35 := GH.ext F35.keep
  refine W.sp (W.sub (W.nl F35 4 (W.un (W.cint fun _ => W.neg fun t36 => W.lstLast (isList_at hslH fun o e => F35.keep.get e) (x := .ref sds[sds.length - 1]) (by rw [List.length_map, List.getElem?_map, List.getElem?_eq_getElem hld]; rfl) lsds (W.sp0 ⟨G35, ?_⟩)))))
  refine law_exact_right_W (k := k) (m := N) G35 (r'.mono (by omega)) (DfH.ext F35.keep) D35 (DZ.ext F35.keep) okZ.1.sok (by omega) (by omega) pf.len (by omega) Inv1 mu1 x11 x12 Inv2 mu2 x21 x22 fun h37 e37 => W.tb ?_
  rw [if_pos rfl]
  have F37 := F35.ext e37
  have G37 := GH.ext F37.keep
  refine W.vone (W.callN (W.ng G37 (.ref 229) (W.callW (lk_law_exact_least _) (W.sp (W.nl F37 3 (W.sp (W.sub (W.nl F37 4 (W.cint fun _ => W.lstV (j := 0) (isList_at hslH fun o e => F37.keep.get e) (x := .ref sds[0]) (by rw [List.getElem?_map, List.getElem?_eq_getElem h0d]; rfl) lsds (W.sp0 ⟨G37, ?_⟩))))))))))
  exact law_exact_least_W (k := k) (m := N) G37 (r'.mono (by omega)) (DfH.ext F37.keep) (D0.ext F37.keep) ok0.1.sok (by omega) (by omega) pf.len (by omega) x30 Inv3 mu3 x31 x32 fun h38 e38 => q h38 (Keep.trans eall (Keep.trans F37.keep e38))
end
end NN
end

section
open PySem PySem.W PyProof.Rows
set_option linter.unusedVariables false
set_option linter.unusedSimpArgs false
namespace NN
set_option maxRecDepth 10000

/-! ## exponents of two or three letters, their orders and weights -/
noncomputable def LN (N : Nat) : List Int → Prop
  | [_, _] => N = 2
  | [_, _, _] => N = 3
  | _ => False
theorem LN.one {N : Nat} {p : List Int → Prop} {a : List Int} (ha : LN N a) (h2 : N = 2 → ∀ x y, p [x, y]) (h3 : N = 3 → ∀ x y v, p [x, y, v]) : p a := by
  match a, ha with
  | [x, y], ha => exact h2 ha x y
  | [x, y, v], ha => exact h3 ha x y v
theorem LN.two {N : Nat} {p : List Int → List Int → Prop} {a b : List Int} (ha : LN N a) (hb : LN N b) (h2 : N = 2 → ∀ x y x' y', p [x, y] [x', y']) (h3 : N = 3 → ∀ x y v x' y' v', p [x, y, v] [x', y', v']) : p a b := by
  refine LN.one (p := fun a => p a b) ha (fun h x y => ?_) (fun h x y v => ?_)
  · exact LN.one (p := fun b => p [x, y] b) hb (fun _ => h2 h x y) (fun h' => absurd (h.symm.trans h') (by decide))
  · exact LN.one (p := fun b => p [x, y, v] b) hb (fun h' => absurd (h.symm.trans h') (by decide)) (fun _ => h3 h x y v)
theorem LN.of {N : Nat} {k : List Int} (hN : N = 2 ∨ N = 3) (h : k.length = N) : LN N k := by
  match k, h with
  | [], h => subst h; rcases hN with h | h <;> cases h
  | [_], h => subst h; rcases hN with h | h <;> cases h
  | [_, _], h => exact h.symm
  | [_, _, _], h => exact h.symm
  | _ :: _ :: _ :: _ :: _, h => subst h; rcases hN with h | h <;> cases h
theorem LN.len {N : Nat} {k : List Int} (h : LN N k) : k.length = N := LN.one (p := fun k => k.length = N) h (fun h _ _ => h.symm) (fun h _ _ _ => h.symm)

theorem lexGt_cons (x y : Int) (xs ys : List Int) : lexGt (x :: xs) (y :: ys) = true ↔ x > y ∨ (x = y ∧ lexGt xs ys = true) := by
  simp only [lexGt]
  by_cases h : x = y
  · simp [h]
  · simp [h]
theorem add_can {x y v : Int} (h : x + v = y + v) : x = y := by omega
theorem lexGt_nn : lexGt [] [] = true ↔ False := by simp [lexGt]
theorem lexGt_irrefl : ∀ a : List Int, ¬ lexGt a a = true
  | [] => by simp [lexGt]
  | x :: a => by rw [lexGt_cons]; rintro (h | h); exact Int.lt_irrefl _ h; exact lexGt_irrefl a h.2
theorem lexGt_trans : ∀ a b c : List Int, lexGt a b = true → lexGt b c = true → lexGt a c = true
  | [], _, _, h, _ => by simp [lexGt] at h
  | _ :: _, [], _, _, h => by simp [lexGt] at h
  | _ :: _, _ :: _, [], _, _ => by simp [lexGt]
  | x :: a, y :: b, v :: c, h1, h2 => by
    rw [lexGt_cons] at h1 h2 ⊢
    rcases h1 with h1 | ⟨rfl, h1⟩
    · rcases h2 with h2 | ⟨rfl, h2⟩
      · exact .inl (Int.lt_trans h2 h1)
      · exact .inl h1
    · rcases h2 with h2 | ⟨rfl, h2⟩
      · exact .inl h2
      · exact .inr ⟨rfl, lexGt_trans a b c h1 h2⟩
theorem lexGt_total : ∀ a b : List Int, lexGt a b = true ∨ a = b ∨ lexGt b a = true
  | [], [] => .inr (.inl rfl)
  | [], _ :: _ => .inr (.inr rfl)
  | _ :: _, [] => .inl rfl
  | x :: a, y :: b => by
    rw [lexGt_cons, lexGt_cons]
    rcases Int.lt_trichotomy x y with h | rfl | h
    · exact .inr (.inr (.inl h))
    · rcases lexGt_total a b with h | rfl | h
      · exact .inl (.inr ⟨rfl, h⟩)
      · exact .inr (.inl rfl)
      · exact .inr (.inr (.inr ⟨rfl, h⟩))
    · exact .inl (.inl h)
theorem lexGt_add : ∀ a b c : List Int, a.length = b.length → a.length = c.length → (lexGt (kadd a c) (kadd b c) = true ↔ lexGt a b = true)
  | [], b, c, h, _ => by
    cases b with
    | nil => exact Iff.rfl
    | cons y b => cases h
  | x :: a, [], c, h, _ => by cases h
  | x :: a, y :: b, [], _, h => by cases h
  | x :: a, y :: b, v :: c, h1, h2 => by
    have ih := lexGt_add a b c (Nat.succ.inj h1) (Nat.succ.inj h2)
    show lexGt ((x + v) :: kadd a c) ((y + v) :: kadd b c) = true ↔ _
    rw [lexGt_cons, lexGt_cons, ih]
    exact or_congr (Int.add_lt_add_iff_right v) (and_congr_left fun _ => ⟨add_can, fun h => by rw [h]⟩)

noncomputable def gt (o : Ord) (a b : List Int) : Prop := lexGt (okey o a) (okey o b) = true
theorem kadd2 (x y x' y' : Int) : kadd [x, y] [x', y'] = [x + x', y + y'] := rfl
theorem kadd3 (x y v x' y' v' : Int) : kadd [x, y, v] [x', y', v'] = [x + x', y + y', v + v'] := rfl
theorem ksub2 (x y x' y' : Int) : ksub [x, y] [x', y'] = [x - x', y - y'] := rfl
theorem ksub3 (x y v x' y' v' : Int) : ksub [x, y, v] [x', y', v'] = [x - x', y - y', v - v'] := rfl

section
variable {N : Nat} {a b c : List Int} {o : Ord}
theorem okey_inj (h : okey o a = okey o b) : a = b := by
  cases o with
  | lex => exact h
  | grlex => exact (List.cons.inj h).2
  | grevlex =>
    have h2 := congrArg (List.map fun x : Int => -x) (List.cons.inj h).2
    rw [List.map_map, List.map_map] at h2
    have : ((fun x : Int => -x) ∘ fun x => -x) = id := by funext x; exact Int.neg_neg x
    rw [this, List.map_id, List.map_id] at h2
    exact List.reverse_inj.mp h2
theorem okey_add (ha : LN N a) (hb : LN N b) : okey o (kadd a b) = kadd (okey o a) (okey o b) := by
  refine LN.two (p := fun a b => okey o (kadd a b) = kadd (okey o a) (okey o b)) ha hb (fun _ x y x' y' => ?_) (fun _ x y v x' y' v' => ?_)
  · have e : x + x' + (y + y' + 0) = x + (y + 0) + (x' + (y' + 0)) := by omega
    cases o with
    | lex => rfl
    | grlex => exact congrArg (· :: _) e
    | grevlex =>
      show (x + x' + (y + y' + 0)) :: [-(y + y'), -(x + x')] = (x + (y + 0) + (x' + (y' + 0))) :: [-y + -y', -x + -x']
      rw [e, Int.neg_add, Int.neg_add]
  · have e : x + x' + (y + y' + (v + v' + 0)) = x + (y + (v + 0)) + (x' + (y' + (v' + 0))) := by omega
    cases o with
    | lex => rfl
    | grlex => exact congrArg (· :: _) e
    | grevlex =>
      show (x + x' + (y + y' + (v + v' + 0))) :: [-(v + v'), -(y + y'), -(x + x')] = (x + (y + (v + 0)) + (x' + (y' + (v' + 0)))) :: [-v + -v', -y + -y', -x + -x']
      rw [e, Int.neg_add, Int.neg_add, Int.neg_add]
theorem okey_len (ha : LN N a) (hb : LN N b) : (okey o a).length = (okey o b).length := by
  have h := ha.len.trans hb.len.symm
  cases o with
  | lex => exact h
  | grlex => exact congrArg (· + 1) h
  | grevlex => simp [okey, h]
theorem gt_irrefl (ha : LN N a) : ¬ gt o a a := lexGt_irrefl _
theorem gt_trans (ha : LN N a) (hb : LN N b) (hc : LN N c) (h1 : gt o a b) (h2 : gt o b c) : gt o a c := lexGt_trans _ _ _ h1 h2
theorem gt_total (ha : LN N a) (hb : LN N b) : gt o a b ∨ a = b ∨ gt o b a := by
  rcases lexGt_total (okey o a) (okey o b) with h | h | h
  · exact .inl h
  · exact .inr (.inl (okey_inj h))
  · exact .inr (.inr h)
theorem LN_add (ha : LN N a) (hb : LN N b) : LN N (kadd a b) := LN.two (p := fun a b => LN N (kadd a b)) ha hb (fun h _ _ _ _ => h) (fun h _ _ _ _ _ _ => h)
theorem LN_sub (ha : LN N a) (hb : LN N b) : LN N (ksub a b) := LN.two (p := fun a b => LN N (ksub a b)) ha hb (fun h _ _ _ _ => h) (fun h _ _ _ _ _ _ => h)
theorem gt_add (ha : LN N a) (hb : LN N b) (hc : LN N c) : gt o (kadd a c) (kadd b c) ↔ gt o a b := by
  unfold gt
  rw [okey_add ha hc, okey_add hb hc]
  exact lexGt_add _ _ _ (okey_len ha hb) (okey_len ha hc)
theorem kadd_comm (a b : List Int) : kadd a b = kadd b a := by
  unfold kadd
  rw [List.zipWith_comm]
  congr 1; funext x y; exact Int.add_comm _ _
theorem kadd_sub (ha : LN N a) (hb : LN N b) : kadd b (ksub a b) = a :=
  LN.two (p := fun a b => kadd b (ksub a b) = a) ha hb (fun _ x y x' y' => by rw [ksub2, kadd2, Int.add_comm, Int.sub_add_cancel, Int.add_comm, Int.sub_add_cancel])
    (fun _ x y v x' y' v' => by rw [ksub3, kadd3, Int.add_comm, Int.sub_add_cancel, Int.add_comm, Int.sub_add_cancel, Int.add_comm, Int.sub_add_cancel])
theorem kadd_cancel : ∀ a b c : List Int, a.length = b.length → a.length = c.length → kadd a c = kadd b c → a = b
  | [], b, c, h, _, _ => (List.eq_nil_of_length_eq_zero h.symm).symm
  | x :: a, [], c, h, _, _ => by cases h
  | x :: a, y :: b, [], _, h, _ => by cases h
  | x :: a, y :: b, v :: c, h1, h2, h => by
    have h := List.cons.inj (show (x + v) :: kadd a c = (y + v) :: kadd b c from h)
    rw [add_can h.1, kadd_cancel a b c (Nat.succ.inj h1) (Nat.succ.inj h2) h.2]
theorem kadd_inj (ha : LN N a) (hb : LN N b) (hc : LN N c) (h : kadd a c = kadd b c) : a = b := kadd_cancel a b c (ha.len.trans hb.len.symm) (ha.len.trans hc.len.symm) h

/-- no exponent below nought -/
noncomputable def nonneg (k : List Int) : Prop := ∀ x ∈ k, 0 ≤ x
theorem nonneg2 {x y : Int} : nonneg [x, y] ↔ 0 ≤ x ∧ 0 ≤ y := by simp [nonneg]
theorem nonneg3 {x y v : Int} : nonneg [x, y, v] ↔ 0 ≤ x ∧ 0 ≤ y ∧ 0 ≤ v := by simp [nonneg]
theorem nonneg_add (ha : LN N a) (hb : LN N b) (h1 : nonneg a) (h2 : nonneg b) : nonneg (kadd a b) := by
  refine LN.two (p := fun a b => nonneg a → nonneg b → nonneg (kadd a b)) ha hb (fun _ x y x' y' h1 h2 => ?_) (fun _ x y v x' y' v' h1 h2 => ?_) h1 h2
  · rw [nonneg2] at h1 h2; rw [kadd2, nonneg2]
    exact ⟨Int.add_nonneg h1.1 h2.1, Int.add_nonneg h1.2 h2.2⟩
  · rw [nonneg3] at h1 h2; rw [kadd3, nonneg3]
    exact ⟨Int.add_nonneg h1.1 h2.1, Int.add_nonneg h1.2.1 h2.2.1, Int.add_nonneg h1.2.2 h2.2.2⟩
theorem pdiv_iff (ha : LN N a) (hb : LN N b) : pdiv a b = true ↔ nonneg (ksub b a) :=
  LN.two (p := fun a b => pdiv a b = true ↔ nonneg (ksub b a)) ha hb (fun _ x y x' y' => by rw [ksub2, nonneg2]; simp [pdiv])
    (fun _ x y v x' y' v' => by rw [ksub3, nonneg3]; simp [pdiv])

/-- a weight that falls from a lead to its tail -/
noncomputable def W2 : Ord → Int × Int
  | .lex => (3, 1)
  | .grlex => (3, 2)
  | .grevlex => (3, 2)
noncomputable def W3 : Ord → Int × Int × Int
  | .lex => (9, 3, 1)
  | .grlex => (9, 7, 6)
  | .grevlex => (8, 7, 5)
noncomputable def Phi (o : Ord) : List Int → Int
  | [x, y] => (W2 o).1 * x + (W2 o).2 * y
  | [x, y, v] => (W3 o).1 * x + (W3 o).2.1 * y + (W3 o).2.2 * v
  | _ => 0
theorem Phi2 (x y : Int) : Phi o [x, y] = (W2 o).1 * x + (W2 o).2 * y := rfl
theorem Phi3 (x y v : Int) : Phi o [x, y, v] = (W3 o).1 * x + (W3 o).2.1 * y + (W3 o).2.2 * v := rfl
theorem W2_pos (o : Ord) : 0 ≤ (W2 o).1 ∧ 0 ≤ (W2 o).2 := by cases o <;> decide
theorem W3_pos (o : Ord) : 0 ≤ (W3 o).1 ∧ 0 ≤ (W3 o).2.1 ∧ 0 ≤ (W3 o).2.2 := by cases o <;> decide
theorem Phi_add (ha : LN N a) (hb : LN N b) : Phi o (kadd a b) = Phi o a + Phi o b := by
  refine LN.two (p := fun a b => Phi o (kadd a b) = Phi o a + Phi o b) ha hb (fun _ x y x' y' => ?_) (fun _ x y v x' y' v' => ?_)
  · rw [kadd2, Phi2, Phi2, Phi2, Int.mul_add, Int.mul_add]; ac_rfl
  · rw [kadd3, Phi3, Phi3, Phi3, Int.mul_add, Int.mul_add, Int.mul_add]; ac_rfl
theorem Phi_nonneg (ha : LN N a) (h : nonneg a) : 0 ≤ Phi o a := by
  refine LN.one (p := fun a => nonneg a → 0 ≤ Phi o a) ha (fun _ x y h => ?_) (fun _ x y v h => ?_) h
  · rw [nonneg2] at h
    exact Int.add_nonneg (Int.mul_nonneg (W2_pos o).1 h.1) (Int.mul_nonneg (W2_pos o).2 h.2)
  · rw [nonneg3] at h
    exact Int.add_nonneg (Int.add_nonneg (Int.mul_nonneg (W3_pos o).1 h.1) (Int.mul_nonneg (W3_pos o).2.1 h.2.1)) (Int.mul_nonneg (W3_pos o).2.2 h.2.2)
noncomputable def below (n : Int) (k : List Int) : Prop := ∀ x ∈ k, 0 ≤ x ∧ x < n
theorem below2 {n x y : Int} : below n [x, y] ↔ (0 ≤ x ∧ x < n) ∧ (0 ≤ y ∧ y < n) := by simp [below]
theorem below3 {n x y v : Int} : below n [x, y, v] ↔ (0 ≤ x ∧ x < n) ∧ (0 ≤ y ∧ y < n) ∧ (0 ≤ v ∧ v < n) := by simp [below]
theorem below.nonneg {n : Int} {k : List Int} (h : below n k) : nonneg k := fun x hx => (h x hx).1
theorem gt_Phi2 : ∀ (o : Ord) (x y x' y' : Fin 3), lexGt (okey o [(x.val : Int), (y.val : Int)]) (okey o [(x'.val : Int), (y'.val : Int)]) = true → Phi o [(x'.val : Int), (y'.val : Int)] + 1 ≤ Phi o [(x.val : Int), (y.val : Int)] := by
  intro o; cases o <;> decide +kernel
theorem gt_Phi3 : ∀ (o : Ord) (x y v x' y' v' : Fin 3), lexGt (okey o [(x.val : Int), (y.val : Int), (v.val : Int)]) (okey o [(x'.val : Int), (y'.val : Int), (v'.val : Int)]) = true → Phi o [(x'.val : Int), (y'.val : Int), (v'.val : Int)] + 1 ≤ Phi o [(x.val : Int), (y.val : Int), (v.val : Int)] := by
  intro o; cases o <;> decide +kernel
theorem fin_of {n : Nat} {x : Int} (h : 0 ≤ x ∧ x < (n : Int)) : ∃ i : Fin n, x = (i.val : Int) := ⟨⟨x.toNat, by omega⟩, by simp; omega⟩
theorem gt_Phi (ha : LN N a) (hb : LN N b) (h1 : below 3 a) (h2 : below 3 b) (h : gt o a b) : Phi o b + 1 ≤ Phi o a := by
  refine LN.two (p := fun a b => below 3 a → below 3 b → gt o a b → Phi o b + 1 ≤ Phi o a) ha hb (fun _ x y x' y' h1 h2 => ?_) (fun _ x y v x' y' v' h1 h2 => ?_) h1 h2 h
  · rw [below2] at h1 h2
    obtain ⟨x, rfl⟩ := fin_of (n := 3) h1.1
    obtain ⟨y, rfl⟩ := fin_of (n := 3) h1.2
    obtain ⟨x', rfl⟩ := fin_of (n := 3) h2.1
    obtain ⟨y', rfl⟩ := fin_of (n := 3) h2.2
    exact gt_Phi2 o x y x' y'
  · rw [below3] at h1 h2
    obtain ⟨x, rfl⟩ := fin_of (n := 3) h1.1
    obtain ⟨y, rfl⟩ := fin_of (n := 3) h1.2.1
    obtain ⟨v, rfl⟩ := fin_of (n := 3) h1.2.2
    obtain ⟨x', rfl⟩ := fin_of (n := 3) h2.1
    obtain ⟨y', rfl⟩ := fin_of (n := 3) h2.2.1
    obtain ⟨v', rfl⟩ := fin_of (n := 3) h2.2.2
    exact gt_Phi3 o x y v x' y' v'
noncomputable def Bd (N : Nat) (o : Ord) : Int := if N = 2 then 23 else match o with
  | .lex => 65
  | .grlex => 66
  | .grevlex => 60
theorem Phi_bdn {n : Nat} (ha : LN N a) (h : below n a) (b2 : N = 2 → ∀ x y : Fin n, Phi o [(x.val : Int), (y.val : Int)] ≤ Bd 2 o) (b3 : N = 3 → ∀ x y v : Fin n, Phi o [(x.val : Int), (y.val : Int), (v.val : Int)] ≤ Bd 3 o) : Phi o a ≤ Bd N o := by
  refine LN.one (p := fun a => below n a → Phi o a ≤ Bd N o) ha (fun hN x y h => ?_) (fun hN x y v h => ?_) h
  · rw [below2] at h
    obtain ⟨x, rfl⟩ := fin_of h.1
    obtain ⟨y, rfl⟩ := fin_of h.2
    have := b2 hN x y
    subst hN; exact this
  · rw [below3] at h
    obtain ⟨x, rfl⟩ := fin_of h.1
    obtain ⟨y, rfl⟩ := fin_of h.2.1
    obtain ⟨v, rfl⟩ := fin_of h.2.2
    have := b3 hN x y v
    subst hN; exact this
theorem bd42 : ∀ (o : Ord) (x y : Fin 4), Phi o [(x.val : Int), (y.val : Int)] ≤ Bd 2 o := by intro o; cases o <;> decide +kernel
theorem bd43 : ∀ (o : Ord) (x y v : Fin 4), Phi o [(x.val : Int), (y.val : Int), (v.val : Int)] ≤ Bd 3 o := by intro o; cases o <;> decide +kernel
theorem bd62 : ∀ (x y : Fin 6), Phi .lex [(x.val : Int), (y.val : Int)] ≤ Bd 2 .lex := by decide +kernel
theorem bd63 : ∀ (x y v : Fin 6), Phi .lex [(x.val : Int), (y.val : Int), (v.val : Int)] ≤ Bd 3 .lex := by decide +kernel
theorem Phi_bd4 (ha : LN N a) (h : below 4 a) : Phi o a ≤ Bd N o := Phi_bdn (n := 4) ha h (fun _ => bd42 o) (fun _ => bd43 o)
theorem Phi_bd6 (ha : LN N a) (h : below 6 a) : Phi .lex a ≤ Bd N .lex := Phi_bdn (n := 6) ha h (fun _ => bd62) (fun _ => bd63)
theorem KB_of (ha : LN N a) (h : nonneg a) (hp : Phi o a ≤ Bd N o) : KB N a := by
  refine LN.one (p := fun a => nonneg a → Phi o a ≤ Bd N o → KB N a) ha (fun hN x y h hp => ?_) (fun hN x y v h hp => ?_) h hp
  · rw [nonneg2] at h
    subst hN
    have hp : (W2 o).1 * x + (W2 o).2 * y ≤ 23 := hp
    have : 3 * x + y ≤ 23 := by
      cases o
      · exact Int.le_trans (by show 3 * x + y ≤ 3 * x + 1 * y; omega) hp
      all_goals exact Int.le_trans (by show 3 * x + y ≤ 3 * x + 2 * y; omega) hp
    clear hp
    unfold KB; omega
  · rw [nonneg3] at h
    subst hN
    have hp : (W3 o).1 * x + (W3 o).2.1 * y + (W3 o).2.2 * v ≤ Bd 3 o := hp
    have : x < 8 ∧ y < 22 ∧ v < 66 := by
      cases o
      · have hp : 9 * x + 3 * y + 1 * v ≤ 65 := hp
        omega
      · have hp : 9 * x + 7 * y + 6 * v ≤ 66 := hp
        omega
      · have hp : 8 * x + 7 * y + 5 * v ≤ 60 := hp
        omega
    exact ⟨rfl, ⟨h.1, this.1⟩, ⟨h.2.1, this.2.1⟩, h.2.2, this.2.2⟩
theorem Bd_le (N : Nat) (o : Ord) : Bd N o ≤ 66 := by
  unfold Bd
  split
  · decide
  · cases o <;> decide
theorem below_add (ha : LN N a) (hb : LN N b) (h1 : below 4 a) (h2 : below 3 b) : below 6 (kadd a b) := by
  have one : ∀ {x y : Int}, 0 ≤ x ∧ x < 4 → 0 ≤ y ∧ y < 3 → 0 ≤ x + y ∧ x + y < 6 := by omega
  refine LN.two (p := fun a b => below 4 a → below 3 b → below 6 (kadd a b)) ha hb (fun _ x y x' y' h1 h2 => ?_) (fun _ x y v x' y' v' h1 h2 => ?_) h1 h2
  · rw [below2] at h1 h2; rw [kadd2, below2]
    exact ⟨one h1.1 h2.1, one h1.2 h2.2⟩
  · rw [below3] at h1 h2; rw [kadd3, below3]
    exact ⟨one h1.1 h2.1, one h1.2.1 h2.2.1, one h1.2.2 h2.2.2⟩
theorem sum_add (ha : LN N a) (hb : LN N b) : (kadd a b).sum = a.sum + b.sum :=
  LN.two (p := fun a b => (kadd a b).sum = a.sum + b.sum) ha hb (fun _ x y x' y' => by rw [kadd2]; simp; omega) (fun _ x y v x' y' v' => by rw [kadd3]; simp; omega)
theorem sum_nonneg (h : nonneg a) : 0 ≤ a.sum := by
  induction a with
  | nil => simp
  | cons x a ih =>
    rw [List.sum_cons]
    exact Int.add_nonneg (h x List.mem_cons_self) (ih fun y hy => h y (List.mem_cons_of_mem _ hy))
end
end NN
end

section
open PySem PySem.W PyProof.Rows
set_option linter.unusedVariables false
set_option linter.unusedSimpArgs false
namespace NN
set_option maxRecDepth 10000

/-! ## a polynomial as a functional -/
noncomputable def ev : Poly → (List Int → Rat) → Rat
  | [], _ => 0
  | e :: P, f => e.2 * f e.1 + ev P f
structure NF (P : Poly) : Prop where
  nd : (P.map (·.1)).Nodup
  nz : ∀ e ∈ P, e.2 ≠ 0
theorem NF.nil : NF [] := ⟨by simp, by simp⟩
theorem ev_nil (f : List Int → Rat) : ev [] f = 0 := rfl
theorem ev_cons (e : List Int × Rat) (P : Poly) (f : List Int → Rat) : ev (e :: P) f = e.2 * f e.1 + ev P f := rfl
theorem ev_append (P R : Poly) (f : List Int → Rat) : ev (P ++ R) f = ev P f + ev R f := by
  induction P with
  | nil => simp [ev_nil, Rat.zero_add, Rat.add_zero]
  | cons e P ih => rw [List.cons_append, ev_cons, ev_cons, ih, Rat.add_assoc]
theorem ev_congr {P : Poly} {f g : List Int → Rat} (h : ∀ e ∈ P, f e.1 = g e.1) : ev P f = ev P g := by
  induction P with
  | nil => rfl
  | cons e P ih => rw [ev_cons, ev_cons, h e List.mem_cons_self, ih fun x hx => h x (List.mem_cons_of_mem _ hx)]
theorem ev_zero {P : Poly} {f : List Int → Rat} (h : ∀ e ∈ P, f e.1 = 0) : ev P f = 0 := by
  induction P with
  | nil => rfl
  | cons e P ih => rw [ev_cons, h e List.mem_cons_self, ih fun x hx => h x (List.mem_cons_of_mem _ hx)]; grind
theorem ev_smul (P : Poly) (c : Rat) (f : List Int → Rat) : ev P (fun k => c * f k) = c * ev P f := by
  induction P with
  | nil => simp [ev_nil, Rat.add_zero]
  | cons e P ih => rw [ev_cons, ev_cons, ih]; grind
theorem ev_smulr (P : Poly) (c : Rat) (f : List Int → Rat) : ev P (fun k => f k * c) = ev P f * c := by
  induction P with
  | nil => simp [ev_nil, Rat.add_zero]
  | cons e P ih => rw [ev_cons, ev_cons, ih]; grind
theorem ev_plus (P : Poly) (f g : List Int → Rat) : ev P (fun k => f k + g k) = ev P f + ev P g := by
  induction P with
  | nil => simp [ev_nil, Rat.add_zero]
  | cons e P ih => rw [ev_cons, ev_cons, ev_cons, ih]; grind
theorem pdel_notin {P : Poly} {k : List Int} (h : k ∉ P.map (·.1)) : pdel P k = P := pdel_none (look_none_iff.mpr h)
theorem pdel_cons (e : List Int × Rat) (P : Poly) (k : List Int) : pdel (e :: P) k = if e.1 = k then pdel P k else e :: pdel P k := by
  unfold pdel
  rw [List.filter_cons]
  by_cases h : e.1 = k
  · simp [h]
  · simp [h]
theorem ev_del {P : Poly} (hn : (P.map (·.1)).Nodup) {k : List Int} {c : Rat} (h : plook P k = some c) (f : List Int → Rat) : ev (pdel P k) f + c * f k = ev P f := by
  induction P with
  | nil => simp [plook] at h
  | cons e P ih =>
    rw [List.map_cons, List.nodup_cons] at hn
    rw [plook_cons] at h
    rw [pdel_cons]
    split at h
    · rename_i he
      cases h
      rw [if_pos he, pdel_notin (he ▸ hn.1), ev_cons, he]; grind
    · rename_i he
      rw [if_neg he, ev_cons, ev_cons]
      have := ih hn.2 h
      grind
theorem ev_put {P : Poly} (hn : (P.map (·.1)).Nodup) {k : List Int} {c q : Rat} (h : plook P k = some c) (f : List Int → Rat) : ev (P.map (pput k q)) f + c * f k = ev P f + q * f k := by
  induction P with
  | nil => simp [plook] at h
  | cons e P ih =>
    rw [List.map_cons, List.nodup_cons] at hn
    rw [plook_cons] at h
    rw [List.map_cons, ev_cons, ev_cons]
    split at h
    · rename_i he
      cases h
      rw [map_pput_none (he ▸ hn.1)]
      simp only [pput, he, if_true]
      grind
    · rename_i he
      have := ih hn.2 h
      simp only [pput, he, if_false]
      grind
theorem ev_paddT {P : Poly} (hn : (P.map (·.1)).Nodup) (k : List Int) (c : Rat) (f : List Int → Rat) : ev (paddT P k c) f = ev P f + c * f k := by
  unfold paddT
  cases h : plook P k with
  | none =>
    dsimp only
    split
    · rename_i h0; rw [h0]; grind
    · simp only [pset, h, Option.isSome_none, Bool.false_eq_true, if_false]
      rw [ev_append, ev_cons, ev_nil]; grind
  | some c0 =>
    dsimp only
    split
    · rename_i h0
      have := ev_del hn h f
      have e : c = -c0 := by grind
      rw [e]; grind
    · simp only [pset, h, Option.isSome_some, if_true]
      have := ev_put (q := c0 + c) hn h f
      grind
theorem ev_padd {P : Poly} (hn : (P.map (·.1)).Nodup) (R : Poly) (f : List Int → Rat) : ev (padd P R) f = ev P f + ev R f := by
  unfold padd
  induction R generalizing P with
  | nil => simp [ev_nil, Rat.add_zero]
  | cons e R ih => rw [List.foldl_cons, ih (nodup_paddT hn e.1 e.2), ev_paddT hn, ev_cons]; grind
theorem ev_map (P : Poly) (g : List Int → List Int) (c : Rat) (f : List Int → Rat) : ev (P.map fun e => (g e.1, e.2 * c)) f = c * ev P (fun k => f (g k)) := by
  induction P with
  | nil => simp [ev_nil, Rat.add_zero]
  | cons e P ih => rw [List.map_cons, ev_cons, ev_cons, ih]; grind
theorem ev_pneg {P : Poly} (hn : (P.map (·.1)).Nodup) (f : List Int → Rat) : ev (pneg P) f = - ev P f := by
  rw [pneg_map hn]
  clear hn
  induction P with
  | nil => simp [ev_nil, Rat.add_zero]
  | cons e P ih => rw [List.map_cons, ev_cons, ev_cons, ih]; grind
theorem ev_psub {P R : Poly} (hn : (P.map (·.1)).Nodup) (hr : (R.map (·.1)).Nodup) (f : List Int → Rat) : ev (psub P R) f = ev P f - ev R f := by
  unfold psub
  rw [ev_padd hn, ev_pneg hr]; grind
theorem ev_prow {acc : Poly} (hn : (acc.map (·.1)).Nodup) (a : Poly) (kb : List Int) (cb : Rat) (f : List Int → Rat) : ev (prow acc a kb cb) f = ev acc f + cb * ev a (fun l => f (kadd l kb)) := by
  unfold prow
  induction a generalizing acc with
  | nil => simp [ev_nil, Rat.add_zero]
  | cons e a ih => rw [List.foldl_cons, ih (nodup_paddT hn _ _), ev_paddT hn, ev_cons]; grind
theorem ev_pmulF (a : Poly) (f : List Int → Rat) : ∀ (b acc : Poly), (acc.map (·.1)).Nodup → ev (b.foldl (fun acc e => prow acc a e.1 e.2) acc) f = ev acc f + ev b (fun kb => ev a (fun ka => f (kadd ka kb)))
  | [], acc, _ => by simp [ev_nil, Rat.add_zero]
  | e :: b, acc, hn => by rw [List.foldl_cons, ev_pmulF a f b _ (nodup_prow hn a e.1 e.2), ev_prow hn, ev_cons]; grind
theorem ev_pmul (a b : Poly) (f : List Int → Rat) : ev (pmul a b) f = ev b (fun kb => ev a (fun ka => f (kadd ka kb))) := by
  unfold pmul
  rw [ev_pmulF a f b [] (by simp), ev_nil]; grind

/-! ## normal forms -/
theorem mem_set_val {P : Poly} {k : List Int} {q : Rat} {e : List Int × Rat} (h : e ∈ pset P k q) : e.2 = q ∨ e ∈ P := by
  rcases mem_pset h with h | h
  · exact .inl (by rw [h])
  · exact .inr h
theorem NF.paddT {P : Poly} (h : NF P) (k : List Int) (c : Rat) : NF (paddT P k c) := by
  refine ⟨nodup_paddT h.nd k c, fun e he => ?_⟩
  unfold NN.paddT at he
  split at he
  · split at he
    · exact h.nz e (List.mem_filter.mp he).1
    · rename_i h0
      rcases mem_set_val he with q | q
      · rw [q]; exact h0
      · exact h.nz e q
  · split at he
    · exact h.nz e he
    · rename_i h0
      rcases mem_set_val he with q | q
      · rw [q]; exact h0
      · exact h.nz e q
theorem NF.padd {P : Poly} (h : NF P) (R : Poly) : NF (padd P R) := by
  unfold NN.padd
  induction R generalizing P with
  | nil => exact h
  | cons e R ih => exact ih (h.paddT e.1 e.2)
theorem NF.prow {P : Poly} (h : NF P) (a : Poly) (kb : List Int) (cb : Rat) : NF (prow P a kb cb) := by
  unfold NN.prow
  induction a generalizing P with
  | nil => exact h
  | cons e R ih => exact ih (h.paddT _ _)
theorem NF.pmul (a b : Poly) : NF (pmul a b) := by
  have : ∀ (b acc : Poly), NF acc → NF (b.foldl (fun acc e => NN.prow acc a e.1 e.2) acc) := by
    intro b
    induction b with
    | nil => intro acc h; exact h
    | cons e b ih => intro acc h; exact ih _ (h.prow a e.1 e.2)
  exact this b [] NF.nil
theorem NF.pdel {P : Poly} (h : NF P) (k : List Int) : NF (pdel P k) := ⟨nodup_del h.nd k, fun e he => h.nz e (List.mem_filter.mp he).1⟩

noncomputable def ind (k : List Int) : List Int → Rat := fun l => if l = k then 1 else 0
theorem ev_ind {P : Poly} (hn : (P.map (·.1)).Nodup) (k : List Int) : ev P (ind k) = (plook P k).getD 0 := by
  induction P with
  | nil => rfl
  | cons e P ih =>
    rw [List.map_cons, List.nodup_cons] at hn
    rw [ev_cons, plook_cons, ih hn.2]
    by_cases h : e.1 = k
    · have : plook P k = none := look_none_iff.mpr (h ▸ hn.1)
      rw [this, if_pos h]
      simp only [ind, if_pos h, Option.getD_none, Option.getD_some]; grind
    · simp only [ind, if_neg h]; grind
theorem NF.look {P : Poly} (h : NF P) {k : List Int} {c : Rat} (hl : plook P k = some c) : c ≠ 0 := by
  obtain ⟨e, he, hk⟩ : ∃ e ∈ P, e.2 = c := by
    have := h.nd
    clear h
    induction P with
    | nil => simp [plook] at hl
    | cons e P ih =>
      rw [List.map_cons, List.nodup_cons] at this
      rw [plook_cons] at hl
      split at hl
      · cases hl; exact ⟨e, List.mem_cons_self, rfl⟩
      · obtain ⟨f, hf, hk⟩ := ih hl this.2; exact ⟨f, List.mem_cons_of_mem _ hf, hk⟩
  rw [← hk]; exact h.nz e he
theorem look_ext {P R : Poly} (hP : NF P) (hR : NF R) (h : ∀ f, ev P f = ev R f) (k : List Int) : plook P k = plook R k := by
  have e := h (ind k)
  rw [ev_ind hP.nd, ev_ind hR.nd] at e
  cases hp : plook P k with
  | none =>
    cases hr : plook R k with
    | none => rfl
    | some c => rw [hp, hr] at e; exact absurd e.symm (hR.look hr)
  | some c =>
    cases hr : plook R k with
    | none => rw [hp, hr] at e; exact absurd e (hP.look hp)
    | some d => rw [hp, hr] at e; simpa using e
theorem len_sub {α : Type} [DecidableEq α] : ∀ {l1 l2 : List α}, l1.Nodup → (∀ a ∈ l1, a ∈ l2) → l1.length ≤ l2.length
  | [], _, _, _ => by simp
  | a :: l1, l2, hn, hs => by
    rw [List.nodup_cons] at hn
    have ha := hs a List.mem_cons_self
    have := len_sub (l1 := l1) (l2 := l2.erase a) hn.2 fun b hb => (List.mem_erase_of_ne (fun q : b = a => hn.1 (by rw [← q]; exact hb))).mpr (hs b (List.mem_cons_of_mem _ hb))
    rw [List.length_erase_of_mem ha] at this
    have : 0 < l2.length := List.length_pos_of_mem ha
    rw [List.length_cons]; omega
theorem peqFrom_of {R : Poly} : ∀ {P : Poly}, (∀ e ∈ P, plook R e.1 = some e.2) → peqFrom R P = true
  | [], _ => rfl
  | (k, q) :: P, h => by
    have h1 := h _ List.mem_cons_self
    simp only at h1
    simp only [peqFrom, h1, decide_true, Bool.true_and]
    exact peqFrom_of fun e he => h e (List.mem_cons_of_mem _ he)
theorem look_some_mem {P : Poly} {k : List Int} (h : k ∈ P.map (·.1)) : ∃ c, plook P k = some c := by
  cases hp : plook P k with
  | none => exact absurd h (look_none_iff.mp hp)
  | some c => exact ⟨c, rfl⟩
theorem mem_of_look {P : Poly} {k : List Int} {c : Rat} (h : plook P k = some c) : k ∈ P.map (·.1) := by
  refine Classical.byContradiction fun hn => ?_
  rw [look_none_iff.mpr hn] at h; cases h
theorem peq_ext {P R : Poly} (hP : NF P) (hR : NF R) (h : ∀ f, ev P f = ev R f) : peq P R = true := by
  have hl := look_ext hP hR h
  unfold peq
  rw [Bool.and_eq_true]
  refine ⟨?_, peqFrom_of fun e he => by rw [← hl]; exact look_of_mem hP.nd he⟩
  have a1 := len_sub hP.nd (l2 := R.map (·.1)) fun k hk => by
    obtain ⟨c, hc⟩ := look_some_mem hk
    rw [hl] at hc; exact mem_of_look hc
  have a2 := len_sub hR.nd (l2 := P.map (·.1)) fun k hk => by
    obtain ⟨c, hc⟩ := look_some_mem hk
    rw [← hl] at hc; exact mem_of_look hc
  rw [List.length_map, List.length_map] at a1 a2
  simp; omega
theorem nil_of_ev {P : Poly} (hP : NF P) (h : ∀ f, ev P f = 0) : P = [] := by
  cases P with
  | nil => rfl
  | cons e P =>
    have h1 := h (ind e.1)
    rw [ev_ind hP.nd, plook_cons, if_pos rfl] at h1
    exact absurd h1 (hP.nz e List.mem_cons_self)

/-! ## keys -/
theorem mem_prow {acc a : Poly} {kb : List Int} {cb : Rat} {e : List Int × Rat} (h : e ∈ prow acc a kb cb) : e.1 ∈ acc.map (·.1) ∨ ∃ x ∈ a, e.1 = kadd x.1 kb := by
  unfold prow at h
  induction a generalizing acc with
  | nil => exact .inl (List.mem_map_of_mem h)
  | cons f a ih =>
    rcases ih h with h | ⟨x, hx, hk⟩
    · obtain ⟨g, hg, hge⟩ := List.mem_map.mp h
      rcases mem_paddT hg with q | q
      · exact .inr ⟨f, List.mem_cons_self, by rw [← hge, q]⟩
      · left; rw [← hge]; exact q
    · exact .inr ⟨x, List.mem_cons_of_mem _ hx, hk⟩
theorem mem_pmul {a b : Poly} {e : List Int × Rat} (h : e ∈ pmul a b) : ∃ x ∈ a, ∃ y ∈ b, e.1 = kadd x.1 y.1 := by
  have : ∀ (b acc : Poly), e ∈ b.foldl (fun acc e => prow acc a e.1 e.2) acc → e.1 ∈ acc.map (·.1) ∨ ∃ x ∈ a, ∃ y ∈ b, e.1 = kadd x.1 y.1 := by
    intro b
    induction b with
    | nil => intro acc h; exact .inl (List.mem_map_of_mem h)
    | cons f b ih =>
      intro acc h
      rcases ih _ h with h | ⟨x, hx, y, hy, hk⟩
      · obtain ⟨g, hg, hge⟩ := List.mem_map.mp h
        rcases mem_prow hg with q | ⟨x, hx, q⟩
        · left; rw [← hge]; exact q
        · exact .inr ⟨x, hx, f, List.mem_cons_self, by rw [← hge, q]⟩
      · exact .inr ⟨x, hx, y, List.mem_cons_of_mem _ hy, hk⟩
  rcases this b [] h with h | h
  · simp at h
  · exact h
theorem len_prow (acc a : Poly) (kb : List Int) (cb : Rat) : (prow acc a kb cb).length ≤ acc.length + a.length := by
  unfold prow
  induction a generalizing acc with
  | nil => simp
  | cons e a ih =>
    rw [List.foldl_cons, List.length_cons]
    have h1 := ih (paddT acc (kadd e.1 kb) (e.2 * cb))
    have h2 : (paddT acc (kadd e.1 kb) (e.2 * cb)).length ≤ acc.length + 1 := by
      unfold paddT
      split
      · split
        · unfold pdel; exact Nat.le_trans (List.length_filter_le _ _) (Nat.le_succ _)
        · exact len_pset _ _ _
      · split
        · omega
        · exact len_pset _ _ _
    omega
theorem len_pmul (a b : Poly) : (pmul a b).length ≤ b.length * a.length := by
  have : ∀ (b acc : Poly), (b.foldl (fun acc e => prow acc a e.1 e.2) acc).length ≤ acc.length + b.length * a.length := by
    intro b
    induction b with
    | nil => intro acc; simp
    | cons e b ih =>
      intro acc
      rw [List.foldl_cons, List.length_cons, Nat.succ_mul]
      have h1 := ih (prow acc a e.1 e.2)
      have h2 := len_prow acc a e.1 e.2
      omega
  have := this b []
  simpa [pmul] using this

/-! ## the value at a point -/
theorem pmono_smul (qs : List Rat) (ks : List Int) (c : Rat) : pmono qs ks c = c * pmono qs ks 1 := by
  unfold pmono
  have : ∀ (l : List (Rat × Int)) (c d : Rat), l.foldl (fun c p => c * p.1 ^ p.2.toNat) (c * d) = c * l.foldl (fun c p => c * p.1 ^ p.2.toNat) d := by
    intro l
    induction l with
    | nil => intro c d; rfl
    | cons p l ih => intro c d; rw [List.foldl_cons, List.foldl_cons, Rat.mul_assoc, ih]
  have h := this (qs.zip ks) c 1
  rw [Rat.mul_one] at h; exact h
theorem pat_ev (P : Poly) (qs : List Rat) : pat P qs = ev P (fun k => pmono qs k 1) := by
  have : ∀ (P : Poly) (acc : Rat), P.foldl (fun acc e => acc + pmono qs e.1 e.2) acc = acc + ev P (fun k => pmono qs k 1) := by
    intro P
    induction P with
    | nil => intro acc; simp [ev_nil, Rat.add_zero]
    | cons e P ih => intro acc; rw [List.foldl_cons, ih, ev_cons, pmono_smul]; grind
  have h := this P 0
  unfold pat; rw [h]; grind
theorem rat_pow_add (q : Rat) {x y : Int} (hx : 0 ≤ x) (hy : 0 ≤ y) : q ^ (x + y).toNat = q ^ x.toNat * q ^ y.toNat := by
  have pa : ∀ m n : Nat, q ^ (m + n) = q ^ m * q ^ n := by
    intro m n
    induction n with
    | zero => rw [Nat.add_zero, Rat.pow_zero, Rat.mul_one]
    | succ n ih => rw [← Nat.add_assoc, Rat.pow_succ, Rat.pow_succ, ih, Rat.mul_assoc]
  rw [Int.toNat_add hx hy, pa]
theorem pmono_mul {N : Nat} {qs : List Rat} {a b : List Int} (ha : LN N a) (hb : LN N b) (hq : qs.length = N) (h1 : nonneg a) (h2 : nonneg b) : pmono qs (kadd a b) 1 = pmono qs a 1 * pmono qs b 1 := by
  match a, ha, b, hb with
  | [x, y], ha, [x', y'], hb =>
    rw [nonneg2] at h1 h2
    match qs, (hq.trans (show N = 2 from ha)) with
    | [p, q], _ =>
      rw [kadd2]
      simp only [pmono, List.zip_cons_cons, List.zip_nil_right, List.foldl_cons, List.foldl_nil, rat_pow_add _ h1.1 h2.1, rat_pow_add _ h1.2 h2.2]
      grind
  | [x, y, v], ha, [x', y', v'], hb =>
    rw [nonneg3] at h1 h2
    match qs, (hq.trans (show N = 3 from ha)) with
    | [p, q, r], _ =>
      rw [kadd3]
      simp only [pmono, List.zip_cons_cons, List.zip_nil_right, List.foldl_cons, List.foldl_nil, rat_pow_add _ h1.1 h2.1, rat_pow_add _ h1.2.1 h2.2.1, rat_pow_add _ h1.2.2 h2.2.2]
      grind
  | [_, _], ha, [_, _, _], hb => simp only [LN] at ha hb; omega
  | [_, _, _], ha, [_, _], hb => simp only [LN] at ha hb; omega
theorem pat_pmul {N : Nat} {qs : List Rat} {A B : Poly} (hq : qs.length = N) (hA : ∀ e ∈ A, LN N e.1 ∧ nonneg e.1) (hB : ∀ e ∈ B, LN N e.1 ∧ nonneg e.1) : pat (pmul A B) qs = pat A qs * pat B qs := by
  rw [pat_ev, pat_ev, pat_ev, ev_pmul]
  rw [← ev_smul]
  refine ev_congr fun e he => ?_
  rw [← ev_smulr]
  exact ev_congr fun f hf => pmono_mul (hA f hf).1 (hB e he).1 hq (hA f hf).2 (hB e he).2
end NN
end

section
open PySem PySem.W PyProof.Rows
set_option linter.unusedVariables false
set_option linter.unusedSimpArgs false
namespace NN
set_option maxRecDepth 10000

/-! ## the lead is the greatest -/
section
variable {N : Nat} {o : Ord}
theorem not_gt_trans {a b c : List Int} (ha : LN N a) (hb : LN N b) (hc : LN N c) (h1 : gt o a b) (h2 : ¬ gt o a c) : ¬ gt o b c := fun h => h2 (gt_trans ha hb hc h1 h)
theorem gt_of_not {a b : List Int} (ha : LN N a) (hb : LN N b) (h1 : ¬ gt o b a) (h2 : b ≠ a) : gt o a b := by
  rcases gt_total (o := o) ha hb with h | h | h
  · exact h
  · exact absurd h.symm h2
  · exact absurd h h1
theorem plead_max {P : Poly} {e : List Int × Rat} (hl : ∀ e ∈ P, LN N e.1) (h : plead o P = some e) : ∀ f ∈ P, ¬ gt o f.1 e.1 := by
  have : ∀ (P : Poly) (b : Option (List Int × Rat)), (∀ e ∈ P, LN N e.1) → (∀ x, b = some x → LN N x.1) → LN N e.1 → P.foldl (better o) b = some e → (∀ f ∈ P, ¬ gt o f.1 e.1) ∧ ∀ x, b = some x → ¬ gt o x.1 e.1 := by
    intro P
    induction P with
    | nil =>
      intro b _ _ he h
      refine ⟨fun f hf => (by cases hf), fun x hx => ?_⟩
      have h' : b = some e := h
      rw [hx] at h'; cases h'
      exact gt_irrefl he
    | cons f P ih =>
      intro b hP hb he h
      have hf := hP f List.mem_cons_self
      have hP' := fun x hx => hP x (List.mem_cons_of_mem _ hx)
      rw [List.foldl_cons] at h
      cases b with
      | none =>
        obtain ⟨h1, h2⟩ := ih (some f) hP' (fun x hx => by cases hx; exact hf) he h
        refine ⟨fun g hg => ?_, fun x hx => by cases hx⟩
        rcases List.mem_cons.mp hg with q | q
        · rw [q]; exact h2 f rfl
        · exact h1 g q
      | some e0 =>
        have h0 := hb e0 rfl
        simp only [better] at h
        by_cases hg : lexGt (okey o f.1) (okey o e0.1) = true
        · rw [if_pos hg] at h
          obtain ⟨h1, h2⟩ := ih (some f) hP' (fun x hx => by cases hx; exact hf) he h
          have hfe := h2 f rfl
          refine ⟨fun g hg => ?_, fun x hx => by cases hx; exact fun q => hfe (gt_trans hf h0 he hg q)⟩
          rcases List.mem_cons.mp hg with q | q
          · rw [q]; exact hfe
          · exact h1 g q
        · rw [if_neg hg] at h
          obtain ⟨h1, h2⟩ := ih (some e0) hP' hb he h
          have h0e := h2 e0 rfl
          refine ⟨fun g hg' => ?_, h2⟩
          rcases List.mem_cons.mp hg' with q | q
          · rw [q]
            intro hfe
            rcases gt_total (o := o) hf h0 with t | t | t
            · exact hg t
            · exact h0e (t ▸ hfe)
            · exact h0e (gt_trans h0 hf he t hfe)
          · exact h1 g q
  exact (this P none hl (fun x hx => by cases hx) (hl e (plead_mem h)) h).1

/-- the weight of a polynomial -/
noncomputable def wt (o : Ord) (k : List Int) : Nat := (Phi o k).toNat + 1
noncomputable def mu (o : Ord) (P : Poly) : Nat := (P.map fun e => wt o e.1).sum
theorem mu_nil : mu o [] = 0 := rfl
theorem mu_cons (e : List Int × Rat) (P : Poly) : mu o (e :: P) = wt o e.1 + mu o P := by simp [mu]
theorem mu_append (P R : Poly) : mu o (P ++ R) = mu o P + mu o R := by simp [mu]
theorem mu_pput (P : Poly) (k : List Int) (q : Rat) : mu o (P.map (pput k q)) = mu o P := by
  induction P with
  | nil => rfl
  | cons e P ih =>
    rw [List.map_cons, mu_cons, mu_cons, ih]
    unfold pput
    split <;> rfl
theorem mu_pset (P : Poly) (k : List Int) (q : Rat) : mu o (pset P k q) ≤ mu o P + wt o k := by
  unfold pset
  split
  · rw [mu_pput]; omega
  · rw [mu_append, mu_cons, mu_nil]; show mu o P + (wt o k + 0) ≤ _; omega
theorem mu_del_le (P : Poly) (k : List Int) : mu o (pdel P k) ≤ mu o P := by
  induction P with
  | nil => exact Nat.le_refl _
  | cons e P ih =>
    rw [pdel_cons]
    split
    · rw [mu_cons]; omega
    · rw [mu_cons, mu_cons]; omega
theorem mu_paddT (P : Poly) (k : List Int) (c : Rat) : mu o (paddT P k c) ≤ mu o P + wt o k := by
  unfold paddT
  split
  · split
    · have := mu_del_le (o := o) P k; omega
    · exact mu_pset _ _ _
  · split
    · omega
    · exact mu_pset _ _ _
theorem mu_del {P : Poly} (hn : (P.map (·.1)).Nodup) {k : List Int} {c : Rat} (h : plook P k = some c) : mu o (pdel P k) + wt o k = mu o P := by
  induction P with
  | nil => simp [plook] at h
  | cons e P ih =>
    rw [List.map_cons, List.nodup_cons] at hn
    rw [plook_cons] at h
    rw [pdel_cons]
    split at h
    · rename_i he
      rw [if_pos he, pdel_notin (he ▸ hn.1), mu_cons, he]; omega
    · rename_i he
      rw [if_neg he, mu_cons, mu_cons]
      have := ih hn.2 h
      omega
theorem tsz_delE {P : Poly} (hn : (P.map (·.1)).Nodup) {k : List Int} {c : Rat} (h : plook P k = some c) : tsz (pdel P k) + (sz c + 2) = tsz P := by
  induction P with
  | nil => simp [plook] at h
  | cons e P ih =>
    rw [List.map_cons, List.nodup_cons] at hn
    rw [plook_cons] at h
    rw [pdel_cons]
    split at h
    · rename_i he
      cases h
      rw [if_pos he, pdel_notin (he ▸ hn.1), tsz_cons]; omega
    · rename_i he
      rw [if_neg he, tsz_cons, tsz_cons]
      have := ih hn.2 h
      omega
theorem paddT_del {P : Poly} {k : List Int} {c : Rat} (h : plook P k = some c) : paddT P k (-c) = pdel P k := by
  unfold paddT
  rw [h]
  dsimp only
  rw [if_pos (by grind)]
theorem look_iff {P : Poly} (hP : NF P) {k : List Int} {c : Rat} (hc : c ≠ 0) : plook P k = some c ↔ ev P (ind k) = c := by
  rw [ev_ind hP.nd]
  constructor
  · intro h; rw [h]; rfl
  · intro h
    cases hp : plook P k with
    | none => rw [hp] at h; exact absurd h.symm hc
    | some d => rw [hp] at h; rw [show d = c from h]

/-! ## a divisor, and one reduction -/
structure SS (N : Nat) (S : Poly) : Prop where
  nf : NF S
  kl : ∀ e ∈ S, LN N e.1 ∧ below 3 e.1
  two : S.length ≤ 2
  ts : tsz S ≤ 8

noncomputable def shd (S : Poly) (k : List Int) (c : Rat) : Poly := S.map fun e => (kadd e.1 k, -(e.2 * c))
theorem psub_shift {S P : Poly} (hS : SS N S) {k : List Int} {c : Rat} (hk : LN N k) (hc : c ≠ 0) : psub P (pshift S k c) = padd P (shd S k c) ∧ ((pshift S k c).map (·.1)).Nodup ∧ ∀ φ, ev (pshift S k c) φ = c * ev S (fun l => φ (kadd l k)) := by
  have n1 : (S.map fun e => kadd e.1 k).Nodup := by
    have h := hS.nf.nd
    have : ∀ P : Poly, (∀ e ∈ P, LN N e.1) → (P.map (·.1)).Nodup → (P.map fun e => kadd e.1 k).Nodup := by
      intro P
      induction P with
      | nil => intro _ _; simp
      | cons e P ih =>
        intro hl hn
        rw [List.map_cons, List.nodup_cons] at hn ⊢
        refine ⟨fun hm => ?_, ih (fun x hx => hl x (List.mem_cons_of_mem _ hx)) hn.2⟩
        obtain ⟨g, hg, he⟩ := List.mem_map.mp hm
        have := kadd_inj (hl g (List.mem_cons_of_mem _ hg)) (hl e List.mem_cons_self) hk he
        exact hn.1 (this ▸ List.mem_map_of_mem hg)
    exact this S (fun e he => (hS.kl e he).1) h
  have e1 : pshift S k c = S.map fun e => (kadd e.1 k, e.2 * c) := by
    unfold pshift
    rw [if_neg hc]
    exact pfold_map (f := fun ks q => (List.zipWith (· + ·) ks k, q * c)) n1
  have n2 : ((pshift S k c).map (·.1)).Nodup := by rw [e1, List.map_map]; exact n1
  refine ⟨?_, n2, fun φ => by rw [e1]; exact ev_map S (fun l => kadd l k) c φ⟩
  unfold psub
  rw [pneg_map n2, e1, List.map_map]; rfl

theorem red {P S : Poly} {k lk : List Int} {c lc : Rat} (hP : NF P) (hkl : ∀ e ∈ P, LN N e.1 ∧ nonneg e.1 ∧ Phi o e.1 ≤ Bd N o) (hc : plook P k = some c) (hS : SS N S) (hl : plead o S = some (lk, lc)) (hd : pdiv lk k = true) :
    LN N (ksub k lk) ∧ nonneg (ksub k lk) ∧ kadd lk (ksub k lk) = k ∧ c / lc ≠ 0 ∧ NF (psub P (pshift S (ksub k lk) (c / lc))) ∧
    (∀ e ∈ psub P (pshift S (ksub k lk) (c / lc)), e.1 ≠ k ∧ (e.1 ∈ P.map (·.1) ∨ LN N e.1 ∧ nonneg e.1 ∧ Phi o e.1 + 1 ≤ Phi o k ∧ gt o k e.1)) ∧
    (∀ φ, ev (psub P (pshift S (ksub k lk) (c / lc))) φ = ev P φ - c / lc * ev S (fun l => φ (kadd l (ksub k lk)))) ∧
    tsz (psub P (pshift S (ksub k lk) (c / lc))) + 8 * mu o (psub P (pshift S (ksub k lk) (c / lc))) ≤ tsz P + 8 * mu o P ∧ mu o (psub P (pshift S (ksub k lk) (c / lc))) + 1 ≤ mu o P := by
  have hcn := hP.look hc
  obtain ⟨e0, he0, hk0⟩ := List.mem_map.mp (mem_of_look hc)
  have hk : LN N k ∧ nonneg k ∧ Phi o k ≤ Bd N o := hk0 ▸ hkl e0 he0
  have hlm := plead_mem hl
  have hlk := hS.kl _ hlm
  have hlcn : lc ≠ 0 := hS.nf.nz _ hlm
  have hsh : LN N (ksub k lk) := LN_sub hk.1 hlk.1
  have hns : nonneg (ksub k lk) := (pdiv_iff hlk.1 hk.1).mp hd
  have hadd : kadd lk (ksub k lk) = k := kadd_sub hk.1 hlk.1
  have hfac : c / lc ≠ 0 := by
    intro h
    have : c / lc * lc = c := Rat.div_mul_cancel hlcn
    rw [h] at this
    exact hcn (by rw [← this]; exact Rat.zero_mul _)
  have hfl : lc * (c / lc) = c := by rw [Rat.mul_comm]; exact Rat.div_mul_cancel hlcn
  obtain ⟨s1, s2, s3⟩ := psub_shift (P := P) hS hsh hfac
  have hev : ∀ φ, ev (psub P (pshift S (ksub k lk) (c / lc))) φ = ev P φ - c / lc * ev S (fun l => φ (kadd l (ksub k lk))) := fun φ => by rw [ev_psub hP.nd s2, s3]
  have hNF : NF (psub P (pshift S (ksub k lk) (c / lc))) := by rw [s1]; exact hP.padd _
  have hnk : k ∉ (psub P (pshift S (ksub k lk) (c / lc))).map (·.1) := by
    intro hm
    obtain ⟨d, hdl⟩ := look_some_mem hm
    have hdn := hNF.look hdl
    rw [look_iff hNF hdn, hev, (look_iff hP hcn).mp hc] at hdl
    have : ev S (fun l => ind k (kadd l (ksub k lk))) = lc := by
      rw [← (look_iff hS.nf hlcn).mp (look_of_mem hS.nf.nd hlm)]
      refine ev_congr fun e he => ?_
      unfold ind
      by_cases h : e.1 = lk
      · rw [if_pos h, if_pos (by rw [h]; exact hadd)]
      · rw [if_neg h, if_neg fun q => h (kadd_inj (hS.kl e he).1 hlk.1 hsh (q.trans hadd.symm))]
    rw [this] at hdl
    exact hdn (by rw [← hdl]; grind)
  have tail : ∀ t ∈ S, t.1 ≠ lk → LN N (kadd t.1 (ksub k lk)) ∧ nonneg (kadd t.1 (ksub k lk)) ∧ Phi o (kadd t.1 (ksub k lk)) + 1 ≤ Phi o k ∧ gt o k (kadd t.1 (ksub k lk)) := by
    intro t ht hne
    have h1 := hS.kl t ht
    have h2 : gt o lk t.1 := gt_of_not hlk.1 h1.1 (plead_max (fun e he => (hS.kl e he).1) hl t ht) hne
    have h3 := gt_Phi hlk.1 h1.1 hlk.2 h1.2 h2
    refine ⟨LN_add h1.1 hsh, nonneg_add h1.1 hsh h1.2.nonneg hns, ?_, ?_⟩
    · have e1 := Phi_add (o := o) h1.1 hsh
      have e2 := Phi_add (o := o) hlk.1 hsh
      rw [hadd] at e2; omega
    · have := (gt_add hlk.1 h1.1 hsh (o := o)).mpr h2
      rw [hadd] at this; exact this
  have hkeys : ∀ e ∈ psub P (pshift S (ksub k lk) (c / lc)), e.1 ≠ k ∧ (e.1 ∈ P.map (·.1) ∨ LN N e.1 ∧ nonneg e.1 ∧ Phi o e.1 + 1 ≤ Phi o k ∧ gt o k e.1) := by
    intro e he
    have hne : e.1 ≠ k := fun q => by
      have hm : e.1 ∈ (psub P (pshift S (ksub k lk) (c / lc))).map (·.1) := List.mem_map_of_mem he
      rw [q] at hm; exact hnk hm
    refine ⟨hne, ?_⟩
    rw [s1] at he
    rcases mem_padd he with h | h
    · exact .inl h
    · right
      unfold shd at h
      rw [List.map_map] at h
      obtain ⟨t, ht, hte⟩ := List.mem_map.mp h
      have hte' : kadd t.1 (ksub k lk) = e.1 := hte
      rw [← hte']
      refine tail t ht fun q => hne ?_
      rw [← hte', q]; exact hadd
  have hsz : tsz (psub P (pshift S (ksub k lk) (c / lc))) ≤ tsz P + 4 ∧ mu o (psub P (pshift S (ksub k lk) (c / lc))) + 1 ≤ mu o P := by
    rw [s1]
    have hts := hS.ts
    have hwk : 1 ≤ wt o k := Nat.succ_le_succ (Nat.zero_le _)
    have d1 := tsz_delE hP.nd hc
    have m1 := mu_del (o := o) hP.nd hc
    have sfac := sz_div c lc
    have two : ∀ t ∈ S, t.1 ≠ lk → sz (-(t.2 * (c / lc))) ≤ sz t.2 + sz c + sz lc ∧ wt o (kadd t.1 (ksub k lk)) + 1 ≤ wt o k := by
      intro t ht hne
      have h := tail t ht hne
      have hp := Phi_nonneg (o := o) h.1 h.2.1
      have h1 := sz_mul t.2 (c / lc)
      rw [sz_neg]
      refine ⟨by omega, ?_⟩
      unfold wt
      have := h.2.2.1
      omega
    match S, hS.two, hlm, hS, hl, two, hts with
    | [], _, hlm, _, _, _, _ => cases hlm
    | [a], _, hlm, _, _, _, _ =>
      rw [List.mem_singleton] at hlm
      subst hlm
      have : padd P (shd [(lk, lc)] (ksub k lk) (c / lc)) = pdel P k := by
        show paddT P (kadd lk (ksub k lk)) (-(lc * (c / lc))) = _
        rw [hadd, hfl, paddT_del hc]
      rw [this]; omega
    | [a, b], _, hlm, hS, hl, two, hts =>
      rw [tsz_cons, tsz_cons, tsz_nil] at hts
      have hn := hS.nf.nd
      rw [List.map_cons, List.nodup_cons] at hn
      rcases List.mem_cons.mp hlm with q | q
      · subst q
        have hb : b.1 ≠ lk := fun q => hn.1 (by simp [q])
        have tb := two b (by simp) hb
        have : padd P (shd [(lk, lc), b] (ksub k lk) (c / lc)) = paddT (pdel P k) (kadd b.1 (ksub k lk)) (-(b.2 * (c / lc))) := by
          show paddT (paddT P (kadd lk (ksub k lk)) (-(lc * (c / lc)))) _ _ = _
          rw [hadd, hfl, paddT_del hc]
        rw [this]
        have t1 := tsz_paddT (hP.pdel k).nd (kadd b.1 (ksub k lk)) (-(b.2 * (c / lc)))
        have t2 := mu_paddT (o := o) (pdel P k) (kadd b.1 (ksub k lk)) (-(b.2 * (c / lc)))
        dsimp only at hts
        omega
      · rw [List.mem_singleton] at q
        subst q
        have hb : a.1 ≠ lk := fun q => hn.1 (by simp [q])
        have ta := two a (by simp) hb
        have hP1 := hP.paddT (kadd a.1 (ksub k lk)) (-(a.2 * (c / lc)))
        have hl1 : plook (paddT P (kadd a.1 (ksub k lk)) (-(a.2 * (c / lc)))) k = some c := by
          rw [look_iff hP1 hcn, ev_paddT hP.nd, (look_iff hP hcn).mp hc]
          have : ind k (kadd a.1 (ksub k lk)) = 0 := if_neg fun q => hb (kadd_inj (hS.kl a (by simp)).1 hlk.1 hsh (q.trans hadd.symm))
          rw [this]; grind
        have : padd P (shd [a, (lk, lc)] (ksub k lk) (c / lc)) = pdel (paddT P (kadd a.1 (ksub k lk)) (-(a.2 * (c / lc)))) k := by
          show paddT (paddT P _ _) (kadd lk (ksub k lk)) (-(lc * (c / lc))) = _
          rw [hadd, hfl, paddT_del hl1]
        rw [this]
        have t1 := tsz_paddT hP.nd (kadd a.1 (ksub k lk)) (-(a.2 * (c / lc)))
        have t2 := mu_paddT (o := o) P (kadd a.1 (ksub k lk)) (-(a.2 * (c / lc)))
        have t3 := tsz_delE hP1.nd hl1
        have t4 := mu_del (o := o) hP1.nd hl1
        dsimp only at hts
        omega
  exact ⟨hsh, hns, hadd, hfac, hNF, hkeys, hev, by omega, hsz.2⟩
end
end NN
end

section
open PySem PySem.W PyProof.Rows
set_option linter.unusedVariables false
set_option linter.unusedSimpArgs false
namespace NN
set_option maxRecDepth 10000

/-! ## what every turn of the division keeps -/
noncomputable def sumq : List Poly → List Poly → (List Int → Rat) → Rat
  | q :: qs, s :: ss, f => ev (pmul q s) f + sumq qs ss f
  | _, _, _ => 0
theorem sumq_set (f : List Int → Rat) : ∀ (qs ss : List Poly) (i : Nat) (q q' S : Poly), qs[i]? = some q → ss[i]? = some S → sumq (qs.set i q') ss f = sumq qs ss f + (ev (pmul q' S) f - ev (pmul q S) f)
  | [], _, _, _, _, _, h, _ => by simp at h
  | _ :: _, [], _, _, _, _, _, h => by simp at h
  | p :: qs, s :: ss, 0, q, q', S, h1, h2 => by
    simp only [List.getElem?_cons_zero, Option.some.injEq] at h1 h2
    subst h1 h2
    simp only [List.set_cons_zero, sumq]; grind
  | p :: qs, s :: ss, i + 1, q, q', S, h1, h2 => by
    simp only [List.getElem?_cons_succ] at h1 h2
    simp only [List.set_cons_succ, sumq]
    rw [sumq_set f qs ss i q q' S h1 h2]; grind
theorem sumq_nil (f : List Int → Rat) : ∀ (n : Nat) (ss : List Poly), sumq (List.replicate n []) ss f = 0
  | 0, ss => by simp [sumq]
  | n + 1, [] => by simp [sumq, List.replicate]
  | n + 1, s :: ss => by
    rw [List.replicate_succ, sumq, sumq_nil f n ss, ev_pmul, ev_zero fun e _ => rfl]; grind
theorem sum_set : ∀ (l : List Nat) (i a b : Nat), l[i]? = some a → (l.set i b).sum + a = l.sum + b
  | [], _, _, _, h => by simp at h
  | x :: l, 0, a, b, h => by
    simp only [List.getElem?_cons_zero, Option.some.injEq] at h
    subst h
    simp only [List.set_cons_zero, List.sum_cons]; omega
  | x :: l, i + 1, a, b, h => by
    simp only [List.getElem?_cons_succ] at h
    have := sum_set l i a b h
    simp only [List.set_cons_succ, List.sum_cons]; omega

section
variable {N : Nat} {o : Ord}
structure PInv (N : Nat) (o : Ord) (ss : List Poly) (f0 : Poly) (s : DSt) : Prop where
  lq : s.qs.length = ss.length
  nl : NF s.left
  nr : NF s.rest
  nq : ∀ (i : Nat) q, s.qs[i]? = some q → NF q
  kl : ∀ e ∈ s.left, LN N e.1 ∧ nonneg e.1 ∧ Phi o e.1 ≤ Bd N o
  kr : ∀ e ∈ s.rest, LN N e.1 ∧ nonneg e.1 ∧ Phi o e.1 ≤ Bd N o
  hr : ∀ e ∈ s.rest, ∀ t ∈ ss, divides e.1 (plead o t) = false
  hq : ∀ (i : Nat) q, s.qs[i]? = some q → ∀ e ∈ q, LN N e.1 ∧ nonneg e.1 ∧ ∃ le fe, plead o (ss.getD i []) = some le ∧ plead o f0 = some fe ∧ Phi o (kadd e.1 le.1) ≤ Bd N o ∧ ¬ gt o (kadd e.1 le.1) fe.1 ∧ ∀ j < i, divides (kadd e.1 le.1) (plead o (ss.getD j [])) = false
  idy : ∀ f, ev f0 f = ev s.left f + ev s.rest f + sumq s.qs ss f
  sep : ∀ r ∈ s.rest, ∀ e ∈ s.left, gt o r.1 e.1
  top : ∀ e ∈ s.left, ∃ fe, plead o f0 = some fe ∧ ¬ gt o e.1 fe.1
  sl : tsz s.rest + tsz s.left + 8 * mu o s.left ≤ tsz f0 + 8 * mu o f0
  sq : (s.qs.map tsz).sum + (tsz f0 + 8 * mu o f0 + 8) * mu o s.left ≤ (tsz f0 + 8 * mu o f0 + 8) * mu o f0

theorem PInv.start {ss : List Poly} {f0 : Poly} (h : NF f0) (hk : ∀ e ∈ f0, LN N e.1 ∧ nonneg e.1 ∧ Phi o e.1 ≤ Bd N o) : PInv N o ss f0 ⟨List.replicate ss.length [], [], f0⟩ where
  lq := by simp
  nl := h
  nr := NF.nil
  nq := fun i q hq => by
    have := List.mem_of_getElem? hq
    rw [List.mem_replicate] at this
    rw [this.2]; exact NF.nil
  kl := hk
  kr := fun e he => by cases he
  hr := fun e he => by cases he
  hq := fun i q hq e he => by
    have := List.mem_of_getElem? hq
    rw [List.mem_replicate] at this
    rw [this.2] at he; cases he
  idy := fun f => by
    dsimp only
    rw [sumq_nil, ev_nil]; grind
  sep := fun e he => by cases he
  top := fun e he => by
    obtain ⟨fe, hf⟩ := plead_isSome (o := o) (P := f0) (by intro q; rw [q] at he; cases he)
    exact ⟨fe, hf, plead_max (fun e he => (hk e he).1) hf e he⟩
  sl := by dsimp only; rw [tsz_nil]; omega
  sq := by
    dsimp only
    have : ((List.replicate ss.length ([] : Poly)).map tsz).sum = 0 := by simp [tsz_nil]
    rw [this]; omega

theorem pset_new {P : Poly} {k : List Int} {c : Rat} (h : k ∉ P.map (·.1)) : pset P k c = P ++ [(k, c)] := by
  simp [pset, look_none_iff.mpr h]
theorem mem_pdel {P : Poly} {k : List Int} {e : List Int × Rat} (h : e ∈ pdel P k) : e ∈ P ∧ e.1 ≠ k := by
  have := List.mem_filter.mp h
  exact ⟨this.1, by simpa using this.2⟩

variable {ss : List Poly} {f0 : Poly} {s : DSt}
theorem PInv.rest_step (x : PInv N o ss f0 s) {k : List Int} {c : Rat} (hl : plead o s.left = some (k, c)) (hd : ∀ t ∈ ss, divides k (plead o t) = false) :
    PInv N o ss f0 ⟨s.qs, pset s.rest k c, pdel s.left k⟩ ∧ mu o (pdel s.left k) < mu o s.left := by
  have hm := plead_mem hl
  have hc : plook s.left k = some c := look_of_mem x.nl.nd hm
  have hk : LN N k ∧ nonneg k ∧ Phi o k ≤ Bd N o := x.kl _ hm
  have hnew : k ∉ s.rest.map (·.1) := fun h => by
    obtain ⟨r, hr, hre⟩ := List.mem_map.mp h
    have := x.sep r hr _ hm
    rw [hre] at this
    exact gt_irrefl hk.1 this
  rw [pset_new hnew]
  have m1 := mu_del (o := o) x.nl.nd hc
  have t1 := tsz_delE x.nl.nd hc
  have w1 : 1 ≤ wt o k := Nat.succ_le_succ (Nat.zero_le _)
  have hmem : ∀ e ∈ s.rest ++ [(k, c)], e ∈ s.rest ∨ e = (k, c) := fun e he => by
    rcases List.mem_append.mp he with h | h
    · exact .inl h
    · exact .inr (List.mem_singleton.mp h)
  refine ⟨⟨x.lq, x.nl.pdel k, ⟨?_, ?_⟩, x.nq, ?_, ?_, ?_, x.hq, ?_, ?_, ?_, ?_, ?_⟩, by omega⟩
  · dsimp only
    rw [List.map_append, List.nodup_append]
    refine ⟨x.nr.nd, by simp, fun a ha b hb q => ?_⟩
    simp only [List.map_cons, List.map_nil, List.mem_singleton] at hb
    rw [q, hb] at ha; exact hnew ha
  · intro e he
    rcases hmem e he with h | h
    · exact x.nr.nz e h
    · rw [h]; exact x.nl.look hc
  · intro e he; exact x.kl e (mem_pdel he).1
  · intro e he
    rcases hmem e he with h | h
    · exact x.kr e h
    · rw [h]; exact hk
  · intro e he
    rcases hmem e he with h | h
    · exact x.hr e h
    · rw [h]; exact hd
  · intro f
    have h1 := x.idy f
    have h2 := ev_del x.nl.nd hc f
    dsimp only
    rw [ev_append, ev_cons, ev_nil]
    dsimp only
    grind
  · intro r hr e he
    obtain ⟨h1, h2⟩ := mem_pdel he
    rcases hmem r hr with h | h
    · exact x.sep r h e h1
    · rw [h]; exact gt_of_not hk.1 (x.kl e h1).1 (plead_max (fun e he => (x.kl e he).1) hl e h1) h2
  · intro e he; exact x.top e (mem_pdel he).1
  · have := x.sl
    dsimp only
    rw [tsz_append, tsz_cons, tsz_nil]
    dsimp only
    omega
  · have := x.sq
    have := Nat.mul_le_mul_left (tsz f0 + 8 * mu o f0 + 8) (show mu o (pdel s.left k) ≤ mu o s.left by omega)
    dsimp only
    omega

theorem PInv.div_step (x : PInv N o ss f0 s) (hS : ∀ t ∈ ss, SS N t) (hf : ∀ e ∈ f0, LN N e.1) {k lk : List Int} {c lc : Rat} {i : Nat} {S : Poly} (hl : plead o s.left = some (k, c)) (hi : ss[i]? = some S) (hL : plead o S = some (lk, lc)) (hd : pdiv lk k = true)
    (hj : ∀ j < i, divides k (plead o (ss.getD j [])) = false) :
    PInv N o ss f0 ⟨s.qs.set i (paddT (s.qs.getD i []) (ksub k lk) (c / lc)), s.rest, psub s.left (pshift S (ksub k lk) (c / lc))⟩ ∧ mu o (psub s.left (pshift S (ksub k lk) (c / lc))) < mu o s.left := by
  have hm := plead_mem hl
  have hc : plook s.left k = some c := look_of_mem x.nl.nd hm
  have hk : LN N k ∧ nonneg k ∧ Phi o k ≤ Bd N o := x.kl _ hm
  have hSS := hS S (List.mem_of_getElem? hi)
  obtain ⟨r1, r2, r3, r4, r5, r6, r7, r8, r9⟩ := red (o := o) x.nl x.kl hc hSS hL hd
  have hilt : i < s.qs.length := by rw [x.lq]; exact (List.getElem?_eq_some_iff.mp hi).1
  obtain ⟨q, hq⟩ : ∃ q, s.qs[i]? = some q := ⟨_, List.getElem?_eq_getElem hilt⟩
  have hqd : s.qs.getD i [] = q := by rw [List.getD_eq_getElem?_getD, hq]; rfl
  have hSd : ss.getD i [] = S := by rw [List.getD_eq_getElem?_getD, hi]; rfl
  rw [hqd]
  have nq := x.nq i q hq
  obtain ⟨fe, hfe, hke⟩ : ∃ fe, plead o f0 = some fe ∧ ¬ gt o k fe.1 := x.top _ hm
  have hfl := hf fe (plead_mem hfe)
  have hset : ∀ (j : Nat) p, (s.qs.set i (paddT q (ksub k lk) (c / lc)))[j]? = some p → j = i ∧ p = paddT q (ksub k lk) (c / lc) ∨ s.qs[j]? = some p := by
    intro j p hp
    rw [List.getElem?_set] at hp
    split at hp
    · rename_i hij
      exact .inl ⟨hij.symm, by cases hp; rfl⟩
    · exact .inr hp
  have hkeys : ∀ e ∈ psub s.left (pshift S (ksub k lk) (c / lc)), (∃ g ∈ s.left, g.1 = e.1) ∨ LN N e.1 ∧ nonneg e.1 ∧ Phi o e.1 + 1 ≤ Phi o k ∧ gt o k e.1 := fun e he => by
    rcases (r6 e he).2 with h | h
    · obtain ⟨g, hg, hge⟩ := List.mem_map.mp h; exact .inl ⟨g, hg, hge⟩
    · exact .inr h
  refine ⟨⟨by simp [x.lq], r5, x.nr, ?_, ?_, x.kr, x.hr, ?_, ?_, ?_, ?_, ?_, ?_⟩, by omega⟩
  · intro j p hp
    rcases hset j p hp with ⟨_, h⟩ | h
    · rw [h]; exact nq.paddT _ _
    · exact x.nq j p h
  · intro e he
    rcases hkeys e he with ⟨g, hg, hge⟩ | ⟨h1, h2, h3, _⟩
    · rw [← hge]; exact x.kl g hg
    · exact ⟨h1, h2, by have := hk.2.2; omega⟩
  · intro j p hp e he
    rcases hset j p hp with ⟨rfl, h⟩ | h
    · rw [h] at he
      rcases mem_paddT he with q' | q'
      · rw [q']
        refine ⟨r1, r2, (lk, lc), fe, by rw [hSd]; exact hL, hfe, ?_⟩
        have e1 : kadd (ksub k lk) lk = k := by rw [kadd_comm]; exact r3
        dsimp only
        rw [e1]
        exact ⟨hk.2.2, hke, hj⟩
      · obtain ⟨g, hg, hge⟩ := List.mem_map.mp q'
        rw [← hge]
        exact x.hq j q hq g hg
    · exact x.hq j p h e he
  · intro f
    have h1 := x.idy f
    dsimp only
    rw [r7, sumq_set f s.qs ss i q _ S hq hi, ev_pmul, ev_pmul]
    have : ev S (fun kb => ev (paddT q (ksub k lk) (c / lc)) fun ka => f (kadd ka kb)) = ev S (fun kb => ev q fun ka => f (kadd ka kb)) + c / lc * ev S (fun l => f (kadd l (ksub k lk))) := by
      rw [← ev_smul, ← ev_plus]
      refine ev_congr fun e he => ?_
      rw [ev_paddT nq.nd, kadd_comm e.1]
    rw [this]
    grind
  · intro r hr e he
    rcases hkeys e he with ⟨g, hg, hge⟩ | ⟨h1, h2, h3, h4⟩
    · rw [← hge]; exact x.sep r hr g hg
    · exact gt_trans (x.kr r hr).1 hk.1 h1 (x.sep r hr _ hm) h4
  · intro e he
    rcases hkeys e he with ⟨g, hg, hge⟩ | ⟨h1, h2, h3, h4⟩
    · rw [← hge]; exact x.top g hg
    · exact ⟨fe, hfe, fun h => hke (gt_trans hk.1 h1 hfl h4 h)⟩
  · have := x.sl
    dsimp only
    omega
  · have h1 := x.sq
    have h2 := Nat.mul_le_mul_left (tsz f0 + 8 * mu o f0 + 8) r9
    rw [Nat.mul_add, Nat.mul_one] at h2
    have h3 := tsz_paddT nq.nd (ksub k lk) (c / lc)
    have h4 := sz_div c lc
    have h5 := x.sl
    have h6 := tsz_delE x.nl.nd hc
    have h7 : sz lc + 2 ≤ tsz S := tsz_look (look_of_mem hSS.nf.nd (plead_mem hL))
    have h8 := hSS.ts
    have h9 := sum_set (s.qs.map tsz) i (tsz q) (tsz (paddT q (ksub k lk) (c / lc))) (by rw [List.getElem?_map, hq]; rfl)
    dsimp only
    rw [List.map_set]
    omega

theorem findIdx_none {ls : List (Option (List Int × Rat))} {k : List Int} (h : pfirst k ls = none) : ∀ t ∈ ls, divides k t = false := by
  unfold pfirst at h
  rw [List.findIdx?_eq_none_iff] at h
  exact h
theorem findIdx_some {ls : List (Option (List Int × Rat))} {k : List Int} {i : Nat} (h : pfirst k ls = some i) : ∃ t, ls[i]? = some t ∧ divides k t = true ∧ ∀ j < i, ∀ t, ls[j]? = some t → divides k t = false := by
  unfold pfirst at h
  rw [List.findIdx?_eq_some_iff_getElem] at h
  obtain ⟨hlt, h1, h2⟩ := h
  refine ⟨_, List.getElem?_eq_getElem hlt, h1, fun j hj t ht => ?_⟩
  have := h2 j hj
  have h3 := List.getElem?_eq_getElem (Nat.lt_trans hj hlt)
  rw [ht] at h3
  cases h3
  simpa using this

theorem divides_some {k : List Int} {t : Option (List Int × Rat)} (h : divides k t = true) : ∃ lk lc, t = some (lk, lc) ∧ pdiv lk k = true := by
  cases t with
  | none => simp [divides] at h
  | some e => exact ⟨e.1, e.2, rfl, h⟩

/-- one turn, either way -/
theorem dstep_cases (hne : s.left ≠ []) : ∃ k c, plead o s.left = some (k, c) ∧ (((∀ t ∈ ss, divides k (plead o t) = false) ∧ dstep o ss s = ⟨s.qs, pset s.rest k c, pdel s.left k⟩) ∨
    ∃ i S lk lc, ss[i]? = some S ∧ plead o S = some (lk, lc) ∧ pdiv lk k = true ∧ (∀ j < i, divides k (plead o (ss.getD j [])) = false) ∧ dstep o ss s = ⟨s.qs.set i (paddT (s.qs.getD i []) (ksub k lk) (c / lc)), s.rest, psub s.left (pshift S (ksub k lk) (c / lc))⟩) := by
  obtain ⟨⟨k, c⟩, hl⟩ := plead_isSome (o := o) hne
  refine ⟨k, c, hl, ?_⟩
  unfold dstep
  rw [hl]
  dsimp only
  cases hp : pfirst k (ss.map (plead o)) with
  | none =>
    left
    exact ⟨fun t ht => findIdx_none hp _ (List.mem_map_of_mem ht), rfl⟩
  | some i =>
    right
    obtain ⟨t, h1, h2, h3⟩ := findIdx_some hp
    rw [List.getElem?_map, Option.map_eq_some_iff] at h1
    obtain ⟨S, hS, rfl⟩ := h1
    obtain ⟨lk, lc, hL, hd⟩ := divides_some h2
    have hSd : ss.getD i [] = S := by rw [List.getD_eq_getElem?_getD, hS]; rfl
    refine ⟨i, S, lk, lc, hS, hL, hd, fun j hj => ?_, ?_⟩
    · have hlt := (List.getElem?_eq_some_iff.mp hS).1
      have hg : ss[j]? = some ss[j] := List.getElem?_eq_getElem (by omega)
      rw [List.getD_eq_getElem?_getD, hg]
      exact h3 j hj _ (by rw [List.getElem?_map, hg]; rfl)
    · dsimp only
      unfold leadOf
      rw [hSd, hL]; rfl
theorem PInv.step (x : PInv N o ss f0 s) (hS : ∀ t ∈ ss, SS N t) (hf : ∀ e ∈ f0, LN N e.1) (hne : s.left ≠ []) : PInv N o ss f0 (dstep o ss s) ∧ mu o (dstep o ss s).left < mu o s.left := by
  obtain ⟨k, c, hl, ⟨h1, h2⟩ | ⟨i, S, lk, lc, h1, h2, h3, h4, h5⟩⟩ := dstep_cases (o := o) (ss := ss) hne
  · rw [h2]; exact x.rest_step hl h1
  · rw [h5]; exact x.div_step hS hf hl h1 h2 h3 h4
end
end NN
end

section
open PySem PySem.W PyProof.Rows
set_option linter.unusedVariables false
set_option linter.unusedSimpArgs false
namespace NN
set_option maxRecDepth 10000

/-! ## the division's law -/
section
variable {N : Nat} {o : Ord} {ss : List Poly} {f0 : Poly} {s : DSt}
theorem wt_le {k : List Int} (h : Phi o k ≤ Bd N o) : wt o k ≤ 67 := by
  have := Bd_le N o
  unfold wt; omega
theorem mu_le {P : Poly} (h : ∀ e ∈ P, Phi o e.1 ≤ Bd N o) : mu o P ≤ 67 * P.length := by
  induction P with
  | nil => exact Nat.zero_le _
  | cons e P ih =>
    rw [mu_cons, List.length_cons]
    have := wt_le (h e List.mem_cons_self)
    have := ih fun f hf => h f (List.mem_cons_of_mem _ hf)
    omega
theorem PolyOk.nf {n high most : Nat} {P : Poly} (x : PolyOk n high most P) (hn : (P.map (·.1)).Nodup) : NF P := ⟨hn, fun e he => (x.nz e he).1⟩
theorem PolyOk.below {n high most : Nat} {P : Poly} (x : PolyOk n high most P) : ∀ e ∈ P, below (high : Int) e.1 := fun e he => x.bd e he
theorem PolyOk.div3 {P : Poly} (h23 : N = 2 ∨ N = 3) (x : PolyOk N 3 2 P) (hn : (P.map (·.1)).Nodup) : SS N P :=
  ⟨x.nf hn, fun e he => ⟨LN.of h23 (x.len e he), x.bd e he⟩, x.few, x.tsz⟩
theorem PolyOk.four {P : Poly} (h23 : N = 2 ∨ N = 3) (x : PolyOk N 4 4 P) : ∀ e ∈ P, LN N e.1 ∧ nonneg e.1 ∧ Phi o e.1 ≤ Bd N o := fun e he =>
  have hl := LN.of h23 (x.len e he)
  have hb : NN.below 4 e.1 := x.bd e he
  ⟨hl, hb.nonneg, Phi_bd4 hl hb⟩
theorem le_sum_of_mem : ∀ {l : List Nat} {a : Nat}, a ∈ l → a ≤ l.sum
  | [], _, h => by cases h
  | x :: l, a, h => by
    rw [List.sum_cons]
    rcases List.mem_cons.mp h with q | q
    · omega
    · have := le_sum_of_mem q; omega
theorem PInv.dok (x : PInv N o ss f0 s) (h1 : tsz f0 + 8 * mu o f0 ≤ 1000000) (h2 : (tsz f0 + 8 * mu o f0 + 8) * mu o f0 ≤ 20000000) : DOk N ss.length s where
  kb := fun e he => KB_of (x.kl e he).1 (x.kl e he).2.1 (x.kl e he).2.2
  nz := x.nl.nz
  tl := by have := x.sl; omega
  tr := by have := x.sl; unfold LIM; omega
  tq := fun P hP => by
    have h3 := x.sq
    have := le_sum_of_mem (List.mem_map_of_mem (f := tsz) hP)
    unfold LIM; omega
  lq := x.lq
theorem PInv.qkeys (x : PInv N o ss f0 s) (hS : ∀ t ∈ ss, SS N t) {i : Nat} {q t : Poly} (hq : s.qs[i]? = some q) (ht : ss[i]? = some t) {e : List Int × Rat} (he : e ∈ q) :
    LN N e.1 ∧ nonneg e.1 ∧ Phi o e.1 ≤ Bd N o ∧ ∀ y ∈ t, Phi o (kadd e.1 y.1) ≤ Bd N o := by
  obtain ⟨a1, a2, le, fe, a3, a4, a5, _⟩ := x.hq i q hq e he
  have htd : ss.getD i [] = t := by rw [List.getD_eq_getElem?_getD, ht]; rfl
  rw [htd] at a3
  have hT := hS t (List.mem_of_getElem? ht)
  have hle := hT.kl le (plead_mem a3)
  have e1 := Phi_add (o := o) a1 hle.1
  have e2 := Phi_nonneg (o := o) hle.1 hle.2.nonneg
  refine ⟨a1, a2, by omega, fun y hy => ?_⟩
  have hY := hT.kl y hy
  have e3 := Phi_add (o := o) a1 hY.1
  have hm := plead_max (fun e he => (hT.kl e he).1) a3 y hy
  rcases gt_total (o := o) hY.1 hle.1 with h | h | h
  · exact absurd h hm
  · rw [h]; exact a5
  · have := gt_Phi hle.1 hY.1 hle.2 hY.2 h
    omega
theorem SS.kb {t : Poly} (h : SS N t) : ∀ e ∈ t, KB N e.1 := fun e he =>
  have h4 : NN.below 4 e.1 := fun x hx => ⟨((h.kl e he).2 x hx).1, by have := ((h.kl e he).2 x hx).2; omega⟩
  KB_of (o := .lex) (h.kl e he).1 h4.nonneg (Phi_bd4 (h.kl e he).1 h4)
theorem ev_tot (f : List Int → Rat) : ∀ (qs ss : List Poly) (acc : Poly), NF acc → NF ((qs.zip ss).foldl (fun t p => padd t (pmul p.1 p.2)) acc) ∧ ev ((qs.zip ss).foldl (fun t p => padd t (pmul p.1 p.2)) acc) f = ev acc f + sumq qs ss f
  | [], ss, acc, h => ⟨h, by simp [sumq]; grind⟩
  | q :: qs, [], acc, h => ⟨h, by simp [sumq]; grind⟩
  | q :: qs, t :: ss, acc, h => by
    rw [List.zip_cons_cons, List.foldl_cons]
    obtain ⟨h1, h2⟩ := ev_tot f qs ss (padd acc (pmul q t)) (h.padd _)
    refine ⟨h1, ?_⟩
    rw [h2, ev_padd h.nd, sumq]
    grind
theorem num_tot (pt : List Rat) : ∀ (qs ss : List Poly) (acc : Rat), (∀ (i : Nat) q t, qs[i]? = some q → ss[i]? = some t → pat (pmul q t) pt = pat q pt * pat t pt) → (qs.zip ss).foldl (fun t p => t + pat p.1 pt * pat p.2 pt) acc = acc + sumq qs ss (fun k => pmono pt k 1)
  | [], ss, acc, h => by simp [sumq]; grind
  | q :: qs, [], acc, h => by simp [sumq]; grind
  | q :: qs, t :: ss, acc, h => by
    rw [List.zip_cons_cons, List.foldl_cons]
    have h2 := num_tot pt qs ss (acc + pat q pt * pat t pt) fun i q t a b => h (i + 1) q t (by simpa using a) (by simpa using b)
    have h3 := h 0 q t (by simp) (by simp)
    rw [pat_ev (pmul q t)] at h3
    rw [h2, sumq]
    grind
theorem PInv.outs (x : PInv N o ss f0 s) (I : Ins N f0 ss) (hsz : tsz f0 + 8 * mu o f0 + (tsz f0 + 8 * mu o f0 + 8) * mu o f0 ≤ 700000) (h0 : s.left = []) : Outs N f0 ss o s := by
  have hS : ∀ t ∈ ss, SS N t := fun t ht => (I.ps t ht).div3 I.n23 (I.sn t ht)
  have get : ∀ q ∈ s.qs, ∃ (i : Nat) (t : Poly), s.qs[i]? = some q ∧ ss[i]? = some t := fun q hq => by
    obtain ⟨i, hi⟩ := List.mem_iff_getElem?.mp hq
    have hlt := (List.getElem?_eq_some_iff.mp hi).1
    rw [x.lq] at hlt
    exact ⟨i, ss[i], hi, List.getElem?_eq_getElem hlt⟩
  have hz : (s.qs.zip ss).take ss.length = s.qs.zip ss := List.take_of_length_le (by rw [List.length_zip, x.lq]; omega)
  have hid : ∀ f, ev f0 f = ev s.rest f + sumq s.qs ss f := fun f => by
    have := x.idy f
    rw [h0, ev_nil] at this
    rw [this]; grind
  refine ⟨⟨?_, ?_, fun t ht => (hS t ht).kb, ?_, ?_, ?_, x.lq, I.ln.2⟩, ?_, ?_, ?_, ?_⟩
  · intro e he; exact KB_of (x.kr e he).1 (x.kr e he).2.1 (x.kr e he).2.2
  · intro q hq e he
    obtain ⟨i, t, a, b⟩ := get q hq
    obtain ⟨h1, h2, h3, _⟩ := x.qkeys hS a b he
    exact KB_of h1 h2 h3
  · intro i q t a b e he
    obtain ⟨u, hu, y, hy, hk⟩ := mem_pmul he
    obtain ⟨h1, h2, _, h4⟩ := x.qkeys hS a b hu
    have hT := (hS t (List.mem_of_getElem? b)).kl y hy
    rw [hk]
    exact KB_of (LN_add h1 hT.1) (nonneg_add h1 hT.1 h2 hT.2.nonneg) (h4 y hy)
  · intro t ht
    have := (hS t ht).ts
    exact ⟨by omega, (hS t ht).two⟩
  · have h1 := x.sl
    have h2 := x.sq
    omega
  · unfold totJ
    rw [hz]
    refine peq_ext (ev_tot (fun _ => 0) s.qs ss s.rest x.nr).1 (I.pf.nf I.fn) fun f => ?_
    rw [(ev_tot f s.qs ss s.rest x.nr).2, hid]
  · intro pt hpt
    unfold numJ
    rw [hz, num_tot pt s.qs ss, pat_ev, pat_ev, hid]
    intro i q t a b
    exact pat_pmul hpt (fun e he => ⟨(x.qkeys hS a b he).1, (x.qkeys hS a b he).2.1⟩) fun e he => ⟨((hS t (List.mem_of_getElem? b)).kl e he).1, ((hS t (List.mem_of_getElem? b)).kl e he).2.nonneg⟩
  · intro e he; exact ⟨x.nr.nz e he, x.hr e he⟩
  · intro i q hq e he
    obtain ⟨_, _, le, fe, a3, a4, _, a6, a7⟩ := x.hq i q hq e he
    refine ⟨le, fe, a3, a4, ?_, a7⟩
    unfold gt at a6
    simpa using a6
end
theorem mul_mono {a b c d n : Nat} (h1 : a ≤ c) (h2 : b ≤ d) (h : c * d ≤ n) : a * b ≤ n := Nat.le_trans (Nat.mul_le_mul h1 h2) h
theorem law_div : LawDiv := by
  intro N f ss o I
  have hS : ∀ t ∈ ss, SS N t := fun t ht => (I.ps t ht).div3 I.n23 (I.sn t ht)
  have hf := I.pf.four (o := o) I.n23
  have h1 : tsz f ≤ 16 := I.pf.tsz
  have h2 : mu o f ≤ 268 := by
    have := mu_le (o := o) fun e he => (hf e he).2.2
    have := I.pf.few
    omega
  have h3 : tsz f + 8 * mu o f ≤ 2160 := by omega
  have h4 : (tsz f + 8 * mu o f + 8) * mu o f ≤ 600000 := mul_mono (c := 2168) (d := 268) (by omega) h2 (by decide)
  exact ⟨PInv N o ss f, fun s => mu o s.left, PInv.start (I.pf.nf I.fn) hf, fun s x hne => x.step hS (fun e he => (hf e he).1) hne, fun s x => x.dok (by omega) (by omega), fun s x h0 => x.outs I (by omega) h0⟩
end NN
end

section
open PySem PySem.W PyProof.Rows
set_option linter.unusedVariables false
set_option linter.unusedSimpArgs false
namespace NN
set_option maxRecDepth 10000

/-! ## the lead of a product -/
section
variable {N : Nat} {o : Ord}
theorem gt_sum {x y a b : List Int} (hx : LN N x) (hy : LN N y) (ha : LN N a) (hb : LN N b) (h1 : ¬ gt o x a) (h2 : ¬ gt o y b) (h3 : x ≠ a ∨ y ≠ b) : gt o (kadd a b) (kadd x y) := by
  have e1 : x ≠ a → gt o (kadd a b) (kadd x b) := fun h => (gt_add ha hx hb).mpr (gt_of_not ha hx h1 h)
  have e2 : y ≠ b → gt o (kadd x b) (kadd x y) := fun h => by
    rw [kadd_comm x b, kadd_comm x y]
    exact (gt_add hb hy hx).mpr (gt_of_not hb hy h2 h)
  by_cases hxa : x = a
  · have hyb : y ≠ b := by
      rcases h3 with h | h
      · exact absurd hxa h
      · exact h
    rw [← hxa]; exact e2 hyb
  · by_cases hyb : y = b
    · rw [hyb]; exact e1 hxa
    · exact gt_trans (LN_add ha hb) (LN_add hx hb) (LN_add hx hy) (e1 hxa) (e2 hyb)
theorem lead_pmul {G C : Poly} (nG : NF G) (nC : NF C) (lG : ∀ e ∈ G, LN N e.1) (lC : ∀ e ∈ C, LN N e.1) {kg kc : List Int} {cg cc : Rat} (hg : plead o G = some (kg, cg)) (hc : plead o C = some (kc, cc)) :
    ev (pmul G C) (ind (kadd kg kc)) = cg * cc ∧ cg * cc ≠ 0 ∧ ∀ x ∈ G, ∀ y ∈ C, ¬ gt o (kadd x.1 y.1) (kadd kg kc) := by
  have mg := plead_mem hg
  have mc := plead_mem hc
  have xg : ∀ f ∈ G, ¬ gt o f.1 kg := plead_max lG hg
  have xc : ∀ f ∈ C, ¬ gt o f.1 kc := plead_max lC hc
  have lg : LN N kg := lG _ mg
  have lc : LN N kc := lC _ mc
  have zg : cg ≠ 0 := nG.nz _ mg
  have zc : cc ≠ 0 := nC.nz _ mc
  have vg := (look_iff nG zg).mp (look_of_mem nG.nd mg)
  have vc := (look_iff nC zc).mp (look_of_mem nC.nd mc)
  dsimp only at vg vc
  refine ⟨?_, ?_, ?_⟩
  · rw [ev_pmul, ← vc, ← ev_smul]
    refine ev_congr fun e he => ?_
    by_cases h : e.1 = kc
    · rw [h]
      have : ev G (fun ka => ind (kadd kg kc) (kadd ka kc)) = ev G (ind kg) := by
        refine ev_congr fun f hf => ?_
        unfold ind
        by_cases h2 : f.1 = kg
        · rw [if_pos h2, if_pos (by rw [h2])]
        · rw [if_neg h2, if_neg fun q => h2 (kadd_inj (lG f hf) lg lc q)]
      rw [this, vg]
      unfold ind
      rw [if_pos rfl]; grind
    · have : ev G (fun ka => ind (kadd kg kc) (kadd ka e.1)) = 0 := by
        refine ev_zero fun f hf => ?_
        unfold ind
        rw [if_neg fun q => ?_]
        have := gt_sum (o := o) (lG f hf) (lC e he) lg lc (xg f hf) (xc e he) (.inr h)
        rw [q] at this
        exact gt_irrefl (LN_add lg lc) this
      rw [this]
      unfold ind
      rw [if_neg h]; grind
  · intro h
    rcases Rat.mul_eq_zero.mp h with h | h
    · exact zg h
    · exact zc h
  · intro x hx y hy h
    by_cases h2 : x.1 = kg ∧ y.1 = kc
    · rw [h2.1, h2.2] at h; exact gt_irrefl (LN_add lg lc) h
    · have := gt_sum (o := o) (lG x hx) (lC y hy) lg lc (xg x hx) (xc y hy) (by
        by_cases h3 : x.1 = kg
        · exact .inr fun h4 => h2 ⟨h3, h4⟩
        · exact .inl h3)
      exact gt_irrefl (LN_add lg lc) (gt_trans (LN_add lg lc) (LN_add (lG x hx) (lC y hy)) (LN_add lg lc) this h)
/-- the difference of two factors -/
theorem ev_diff {A Q : Poly} (C : Poly) (nA : NF A) (nQ : NF Q) (f : List Int → Rat) : ev (pmul (psub A Q) C) f = ev (pmul A C) f - ev (pmul Q C) f := by
  rw [ev_pmul, ev_pmul, ev_pmul]
  have : ∀ C : Poly, ev C (fun kb => ev (psub A Q) fun ka => f (kadd ka kb)) = ev C (fun kb => ev A fun ka => f (kadd ka kb)) - ev C (fun kb => ev Q fun ka => f (kadd ka kb)) := by
    intro C
    induction C with
    | nil => simp [ev_nil]; grind
    | cons e C ih => rw [ev_cons, ev_cons, ev_cons, ih, ev_psub nA.nd nQ.nd]; grind
  exact this C
theorem psub_keys {A Q : Poly} (nA : NF A) (nQ : NF Q) {p : List Int → Prop} (hA : ∀ e ∈ A, p e.1) (hQ : ∀ e ∈ Q, p e.1) : NF (psub A Q) ∧ ∀ e ∈ psub A Q, p e.1 := by
  refine ⟨nA.padd _, fun e he => ?_⟩
  rcases mem_padd he with h | h
  · obtain ⟨g, hg, q⟩ := List.mem_map.mp h; rw [← q]; exact hA g hg
  · rw [keys_pneg nQ.nd] at h
    obtain ⟨g, hg, q⟩ := List.mem_map.mp h; rw [← q]; exact hQ g hg
theorem factor_zero {G C : Poly} (nG : NF G) (nC : NF C) (lG : ∀ e ∈ G, LN N e.1) (lC : ∀ e ∈ C, LN N e.1) (hC : C ≠ []) (h : ∀ f, ev (pmul G C) f = 0) : G = [] := by
  refine Classical.byContradiction fun hG => ?_
  obtain ⟨⟨kg, cg⟩, hg⟩ := plead_isSome (o := .lex) hG
  obtain ⟨⟨kc, cc⟩, hc⟩ := plead_isSome (o := .lex) hC
  obtain ⟨a, b, _⟩ := lead_pmul nG nC lG lC hg hc
  rw [h] at a
  exact b a.symm
end

/-! ## what is divided in the exact checks -/
structure F0 (N : Nat) (f : Poly) : Prop where
  nf : NF f
  kl : ∀ e ∈ f, LN N e.1 ∧ nonneg e.1 ∧ Phi .lex e.1 ≤ Bd N .lex
  few : f.length ≤ 9
  ts : tsz f ≤ 70
section
variable {N : Nat} {A S C f : Poly} {s : DSt}
theorem F0.mul (h : In2 N A S) : F0 N (pmul A S) ∧ (pmul A S).length ≤ 8 ∧ tsz (pmul A S) ≤ 64 := by
  have hA := h.pa.few
  have hS := h.pc.few
  have tA := h.pa.tsz
  have tS := h.pc.tsz
  have h1 : (pmul A S).length ≤ 8 := Nat.le_trans (len_pmul A S) (mul_mono (c := 2) (d := 4) hS hA (by decide))
  have h2 : tsz (pmul A S) ≤ 64 := by
    have e1 := tsz_pmul A S
    have e2 : S.length * tsz A ≤ 32 := mul_mono (c := 2) (d := 16) hS (by omega) (by decide)
    have e3 : A.length * tsz S ≤ 32 := mul_mono (c := 4) (d := 8) hA (by omega) (by decide)
    omega
  refine ⟨⟨NF.pmul A S, fun e he => ?_, by omega, by omega⟩, h1, h2⟩
  obtain ⟨x, hx, y, hy, hk⟩ := mem_pmul he
  have lx := LN.of h.n23 (h.pa.len x hx)
  have ly := LN.of h.n23 (h.pc.len y hy)
  have bx : below 4 x.1 := h.pa.bd x hx
  have by' : below 3 y.1 := h.pc.bd y hy
  rw [hk]
  exact ⟨LN_add lx ly, nonneg_add lx ly bx.nonneg by'.nonneg, Phi_bd6 (LN_add lx ly) (below_add lx ly bx by')⟩
theorem F0.bounds (h : F0 N f) : tsz f + 8 * mu .lex f ≤ 4894 ∧ (tsz f + 8 * mu .lex f + 8) * mu .lex f ≤ 3000000 := by
  have h1 := mu_le (o := .lex) fun e he => (h.kl e he).2.2
  have h2 := h.few
  have h3 := h.ts
  exact ⟨by omega, mul_mono (c := 4902) (d := 603) (by omega) (by omega) (by decide)⟩
theorem F0.ex (h : F0 N f) (hC : SS N C) : ExOk N C f (PInv N .lex [C] f) fun s => mu .lex s.left where
  i0 := PInv.start h.nf h.kl
  st := fun s x hne => x.step (fun t ht => by rw [List.mem_singleton] at ht; rw [ht]; exact hC) (fun e he => (h.kl e he).1) hne
  ok := fun s x => x.dok (by have := h.bounds; omega) (by have := h.bounds; omega)
theorem one_quo (x : PInv N .lex [C] f s) : ∃ q, s.qs = [q] ∧ s.qs.getD 0 [] = q ∧ NF q ∧ (∀ e ∈ q, LN N e.1 ∧ nonneg e.1) ∧ ∀ g, ev f g = ev s.left g + ev s.rest g + ev (pmul q C) g := by
  obtain ⟨q, hq⟩ : ∃ q, s.qs = [q] := List.length_eq_one_iff.mp x.lq
  refine ⟨q, hq, by rw [hq]; rfl, x.nq 0 q (by rw [hq]; rfl), fun e he => ?_, fun g => ?_⟩
  · have := x.hq 0 q (by rw [hq]; rfl) e he
    exact ⟨this.1, this.2.1⟩
  · rw [x.idy, hq]
    simp only [sumq]; grind
theorem law_ex1 : LawEx1 := by
  intro N A C h
  obtain ⟨hF, _, _⟩ := F0.mul h
  have hC := h.pc.div3 h.n23 h.cn
  have nA := h.pa.nf h.an
  have kA : ∀ e ∈ A, LN N e.1 ∧ nonneg e.1 := fun e he => ⟨LN.of h.n23 (h.pa.len e he), (show below 4 e.1 from h.pa.bd e he).nonneg⟩
  have lC : ∀ e ∈ C, LN N e.1 := fun e he => (hC.kl e he).1
  have E := hF.ex hC
  refine ⟨fun s => PInv N .lex [C] (pmul A C) s ∧ s.rest = [], fun s => mu .lex s.left, fun hne => ⟨⟨E.i0, rfl⟩, ?_, fun s x => E.ok s x.1⟩, ?_⟩
  · intro s x hl
    obtain ⟨x, hr⟩ := x
    have st := E.st s x hl
    refine ⟨⟨st.1, ?_⟩, st.2⟩
    obtain ⟨k, c, hk, ⟨h1, h2⟩ | ⟨i, S, lk, lc, h1, h2, h3, h4, h5⟩⟩ := dstep_cases (o := .lex) (ss := [C]) hl
    · exfalso
      obtain ⟨q, hq1, hq2, nq, kq, hid⟩ := one_quo x
      have hg := psub_keys (p := fun k => LN N k ∧ nonneg k) nA nq kA kq
      have hev : ∀ g, ev s.left g = ev (pmul (psub A q) C) g := fun g => by
        have := hid g
        rw [hr, ev_nil] at this
        rw [ev_diff C nA nq]; grind
      have gne : psub A q ≠ [] := fun h0 => hl (nil_of_ev x.nl fun g => by
        rw [hev, h0, ev_pmul, ev_zero fun e he => rfl])
      obtain ⟨⟨kg, cg⟩, hpg⟩ := plead_isSome (o := .lex) gne
      obtain ⟨⟨kc, cc⟩, hpc⟩ := plead_isSome (o := .lex) hne
      obtain ⟨a1, a2, a3⟩ := lead_pmul hg.1 hC.nf (fun e he => (hg.2 e he).1) lC hpg hpc
      have lkg := hg.2 _ (plead_mem hpg)
      have lkc := hC.kl _ (plead_mem hpc)
      dsimp only at lkg lkc
      have mk := plead_mem hk
      have lk : LN N k := (x.kl _ mk).1
      have b1 : kadd kg kc ∈ s.left.map (·.1) := by
        rw [← hev] at a1
        exact mem_of_look ((look_iff x.nl a2).mpr a1)
      obtain ⟨e, he, hke⟩ := List.mem_map.mp b1
      have b2 : ¬ gt .lex (kadd kg kc) k := by
        have := plead_max (fun e he => (x.kl e he).1) hk e he
        rw [hke] at this; exact this
      have b3 : ¬ gt .lex k (kadd kg kc) := by
        have hv := (look_iff x.nl (x.nl.nz _ mk)).mp (look_of_mem x.nl.nd mk)
        have hm : ∃ u ∈ psub A q, ∃ y ∈ C, kadd u.1 y.1 = k := by
          refine Classical.byContradiction fun hn => ?_
          have hz : ev C (fun kb => ev (psub A q) fun ka => ind k (kadd ka kb)) = 0 := ev_zero fun y hy => ev_zero fun u hu => if_neg fun he => hn ⟨u, hu, y, hy, he⟩
          have hv' : ev s.left (ind k) = c := hv
          rw [hev, ev_pmul, hz] at hv'
          exact x.nl.nz _ mk hv'.symm
        obtain ⟨u, hu, y, hy, he⟩ := hm
        rw [← he]; exact a3 u hu y hy
      have hkk : k = kadd kg kc := by
        rcases gt_total (o := .lex) lk (LN_add lkg.1 lkc.1) with t | t | t
        · exact absurd t b3
        · exact t
        · exact absurd t b2
      have hd := h1 C (by simp)
      rw [hpc] at hd
      have : pdiv kc k = true := by
        rw [pdiv_iff lkc.1 lk]
        have e1 : kadd kc (ksub k kc) = k := kadd_sub lk lkc.1
        have e2 : ksub k kc = kg := kadd_inj (LN_sub lk lkc.1) lkg.1 lkc.1 (by rw [kadd_comm, e1, hkk])
        rw [e2]; exact lkg.2
      have hd' : pdiv kc k = false := hd
      rw [this] at hd'
      cases hd'
    · rw [h5]; exact hr
  · intro s hne x hl
    obtain ⟨x, hr⟩ := x
    refine ⟨hr, ?_⟩
    obtain ⟨q, hq1, hq2, nq, kq, hid⟩ := one_quo x
    rw [hq2]
    have hg := psub_keys (p := fun k => LN N k ∧ nonneg k) nA nq kA kq
    have g0 : psub A q = [] := factor_zero hg.1 hC.nf (fun e he => (hg.2 e he).1) lC hne fun g => by
      have := hid g
      rw [hr, hl, ev_nil] at this
      rw [ev_diff C nA nq]; grind
    refine peq_ext nq nA fun g => ?_
    have := ev_psub nA.nd nq.nd g
    rw [g0, ev_nil] at this
    grind
theorem law_ex2 : LawEx2 := by
  intro N A S C h hc
  obtain ⟨hF, _, _⟩ := F0.mul h
  have hC := hc.pc.div3 hc.n23 hc.cn
  refine ⟨PInv N .lex [C] (pmul A S), fun s => mu .lex s.left, fun _ => hF.ex hC, fun s hne x hl hr => ?_⟩
  obtain ⟨q, hq1, hq2, nq, kq, hid⟩ := one_quo x
  rw [hq2]
  refine ⟨fun e he => (kq e he).1.len, ?_, peq_ext (NF.pmul q C) (NF.pmul A S) fun g => ?_⟩
  · have h1 := x.sq
    rw [hq1] at h1
    simp only [List.map_cons, List.map_nil, List.sum_cons, List.sum_nil] at h1
    have h2 := hF.bounds.2
    have h3 := len_tsz q
    have h4 : C.length * tsz q ≤ 2 * tsz q := Nat.mul_le_mul_right _ hC.two
    have h5 : q.length * tsz C ≤ q.length * 8 := Nat.mul_le_mul_left _ hC.ts
    unfold LIM; omega
  · have := hid g
    rw [hr, hl, ev_nil] at this
    grind
theorem LN_zero (h : N = 2 ∨ N = 3) : LN N (List.replicate N 0) := LN.of h (by simp)
theorem Phi_zero (h : N = 2 ∨ N = 3) : Phi .lex (List.replicate N 0) ≤ Bd N .lex := by
  rcases h with rfl | rfl <;> decide
theorem law_ex3 : LawEx3 := by
  intro N A C h
  obtain ⟨hF, h8, h64⟩ := F0.mul h
  have hC := h.pc.div3 h.n23 h.cn
  have nA := h.pa.nf h.an
  have kA : ∀ e ∈ A, LN N e.1 ∧ nonneg e.1 := fun e he => ⟨LN.of h.n23 (h.pa.len e he), (show below 4 e.1 from h.pa.bd e he).nonneg⟩
  have lC : ∀ e ∈ C, LN N e.1 := fun e he => (hC.kl e he).1
  have z0 : nonneg (List.replicate N 0) := fun x hx => by
    rw [List.mem_replicate] at hx; omega
  have zs : (List.replicate N (0 : Int)).sum = 0 := by simp
  have s1 : sz (1 : Rat) ≤ 2 := sz_small 1 (by decide) (by decide)
  have e0 : padd (pmul A C) [(List.replicate N 0, 1)] = paddT (pmul A C) (List.replicate N 0) 1 := rfl
  have hF3 : F0 N (padd (pmul A C) [(List.replicate N 0, 1)]) := by
    rw [e0]
    refine ⟨hF.nf.paddT _ _, fun e he => ?_, ?_, ?_⟩
    · rcases mem_paddT he with q | q
      · rw [q]; exact ⟨LN_zero h.n23, z0, Phi_zero h.n23⟩
      · obtain ⟨g, hg, q⟩ := List.mem_map.mp q
        rw [← q]; exact hF.kl g hg
    · have : (paddT (pmul A C) (List.replicate N 0) 1).length ≤ (pmul A C).length + 1 := by
        unfold paddT
        split
        · split
          · unfold pdel; exact Nat.le_trans (List.length_filter_le _ _) (Nat.le_succ _)
          · exact len_pset _ _ _
        · split
          · omega
          · exact len_pset _ _ _
      omega
    · have := tsz_paddT hF.nf.nd (List.replicate N 0) 1
      omega
  refine ⟨fun e he => KB_of (hF.kl e he).1 (hF.kl e he).2.1 (hF.kl e he).2.2, PInv N .lex [C] _, fun s => mu .lex s.left, fun le hle hs => hF3.ex hC, fun le s hle hs x hl hr => ?_⟩
  obtain ⟨q, hq1, hq2, nq, kq, hid⟩ := one_quo x
  have hg := psub_keys (p := fun k => LN N k ∧ nonneg k) nq nA kq kA
  have hev : ∀ g, ev (pmul (psub q A) C) g = g (List.replicate N 0) := fun g => by
    have := hid g
    rw [hr, hl, ev_nil, ev_padd hF.nf.nd, ev_cons, ev_nil] at this
    rw [ev_diff C nq nA]
    dsimp only at this
    grind
  have gne : psub q A ≠ [] := fun h0 => by
    have := hev fun _ => 1
    rw [h0, ev_pmul, ev_zero fun e he => rfl] at this
    exact absurd this (by decide)
  obtain ⟨⟨kg, cg⟩, hpg⟩ := plead_isSome (o := .lex) gne
  obtain ⟨kc, cc⟩ := le
  obtain ⟨a1, a2, a3⟩ := lead_pmul hg.1 hC.nf (fun e he => (hg.2 e he).1) lC hpg hle
  have lkg := hg.2 _ (plead_mem hpg)
  have lkc := hC.kl _ (plead_mem hle)
  dsimp only at lkg lkc hs
  rw [hev] at a1
  have hz : List.replicate N 0 = kadd kg kc := by
    refine Classical.byContradiction fun hn => a2 ?_
    rw [← a1]; exact if_neg hn
  have := sum_add lkg.1 lkc.1
  rw [← hz, zs] at this
  have p1 := sum_nonneg lkg.2
  have p2 := sum_nonneg lkc.2.nonneg
  omega
end
end NN
end

section
open PySem PySem.W PyProof.Rows
set_option linter.unusedVariables false
set_option linter.unusedSimpArgs false
namespace NN
set_option maxRecDepth 100000

theorem rmCaller : Rm callerA 14 := ⟨by decide, by decide, rfl, ⟨[], rfl⟩⟩
theorem law_here (w : World) : nsIn (KK w) mainGlobals (Str.ofString "law") = some (some (.ref 234)) := by kernel_rfl!
theorem view_plain : importsNone view = true := by decide +kernel
theorem holds_of (D1 : LawDiv) (X1 : LawEx1) (X2 : LawEx2) (X3 : LawEx3) : PySem.Challenge.rw_nn0260_01.Holds := by
  refine hd ?_
  intro w s₀ s₁ mg mb G Y fa o pm cd doc dV kV ho hd' hcd hD hmg hg args vals as hpre hlay hrd hwl hlo
  have KX := kIn_of Y
  refine Ground.open G ?_
  intro T B D TE TW
  have e234 : Value.ref fa = .ref 234 := by
    have h1 := mg_of KX T.g (law_here w)
    have h2 : mg (Str.ofString "law") = some (.ref fa) := hmg
    rw [h1] at h2
    exact (Option.some.inj h2).symm
  have GLz : GL ⟨w, s₁⟩ s₁.heap := ⟨KX, ⟨mg, mb, topRead_of T⟩, T.seer view_plain⟩
  wrow_args hpre hlay hrd hwl hlo
  rw [e234]
  rename_i hcond _
  rename (IntsAre _ _) => hI
  rename (Heap.IsList _ _ _) => hL
  have hlen := intsAre_length hI
  refine (law_W (z := ⟨w, s₁⟩) (k := 0) (Q := fun v h' => v = .bool true ∧ Ext s₁.heap h') GLz rmCaller hL hI (by omega) D1 X1 X2 X3 fun h' e => ⟨rfl, e⟩).use s₁.toks fun v h' n' q => ?_
  obtain ⟨rfl, e⟩ := q
  refine GoodW.toG ⟨.inl ⟨_, _, _, rfl, raisesW_false ?_, .bool true, ?_, unshared_nil⟩, e.ks, rfl, hg⟩
  · wrow_none_raised
  · kc_post
end NN
end

set_option maxHeartbeats 4000000 in
theorem PySem.Challenge.cw_nn0260_01_holds : PySem.Challenge.rw_nn0260_01.Holds := by
  exact NN.holds_of NN.law_div NN.law_ex1 NN.law_ex2 NN.law_ex3
