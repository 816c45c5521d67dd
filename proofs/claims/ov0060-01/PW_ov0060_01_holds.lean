import PyProof.Rows.All
import Wide.All
import OpenK.AllK
import Wide.FinOn
import Lean
import PySem.Challenge.RW_ov0060_01
open PySem PySem.W PySem.Calls PyProof.Rows
set_option Elab.async false
set_option linter.unusedVariables false
set_option maxRecDepth 100000
namespace Mine
/-- the text's rows -/
def stmtAt (i : Nat) : Stmt := (PySem.Challenge.rw_ov0060_01.row.prog.main.body[i]?).getD (.Pass ⟨0, 0, 0, 0⟩)
def noObj : Obj := { cls := .none, data := .plain }
/-- a def of the text, as it stands on the heap -/
def fnE (a : Addr) (i : Nat) (dv pm : Value) (cd : Addr) : Addr × Obj := (a, match stmtAt i with
  | .FunctionDef n args body _ _ _ scope _ _ _ => { cls := .type "function", data := .func (fnOf n n args body scope dv .none .none pm none (.ref cd) .none) }
  | _ => noObj)
def initE : Addr × Obj := (133, match stmtAt 18 with
  | .ClassDef _ _ _ (.FunctionDef n args body _ _ _ scope _ _ _ :: _) _ _ _ _ _ _ _ => { cls := .type "function", data := .func (fnOf n (Str.ofString "Fit.__init__") args body scope .none .none .none (Value.str (Str.ofString "vectorcove.lsfit") 317) none (.ref 132) .none) }
  | _ => noObj)
def heap1 (P : Params) : Frag := [
  (3, { cls := Value.type "dict", data := Data.dict #[{ hash := PyData.keyHash P (Str.ofString "__name__"), key := Value.str (Str.ofString "__name__") 165, val := Value.str (Str.ofString "law_ov0060_01") 499 }, { hash := PyData.keyHash P (Str.ofString "__doc__"), key := Value.str (Str.ofString "__doc__") 166, val := Value.none }, { hash := PyData.keyHash P (Str.ofString "__package__"), key := Value.str (Str.ofString "__package__") 167, val := Value.none }, { hash := PyData.keyHash P (Str.ofString "__loader__"), key := Value.str (Str.ofString "__loader__") 168, val := Value.builtin "__main__.__loader__#opaque" }, { hash := PyData.keyHash P (Str.ofString "__spec__"), key := Value.str (Str.ofString "__spec__") 169, val := Value.none }, { hash := PyData.keyHash P (Str.ofString "__annotations__"), key := Value.str (Str.ofString "__annotations__") 170, val := Value.ref 6 }, { hash := PyData.keyHash P (Str.ofString "__builtins__"), key := Value.str (Str.ofString "__builtins__") 171, val := Value.ref 4 }, { hash := PyData.keyHash P (Str.ofString "__file__"), key := Value.str (Str.ofString "__file__") 173, val := Value.str (Str.ofString "/claim/cut.py") 172 }, { hash := PyData.keyHash P (Str.ofString "__cached__"), key := Value.str (Str.ofString "__cached__") 174, val := Value.none }, { hash := PyData.keyHash P (Str.ofString "CoveError"), key := Value.str (Str.ofString "CoveError") 208, val := Value.ref 24 }, { hash := PyData.keyHash P (Str.ofString "Refusal"), key := Value.str (Str.ofString "Refusal") 233, val := Value.ref 44 }, { hash := PyData.keyHash P (Str.ofString "NAN"), key := Value.str (Str.ofString "NAN") 238, val := Value.ref 47 }, { hash := PyData.keyHash P (Str.ofString "gcd"), key := Value.str (Str.ofString "gcd") 246, val := Value.ref 54 }, { hash := PyData.keyHash P (Str.ofString "make"), key := Value.str (Str.ofString "make") 255, val := Value.ref 61 }, { hash := PyData.keyHash P (Str.ofString "is_na"), key := Value.str (Str.ofString "is_na") 262, val := Value.ref 68 }, { hash := PyData.keyHash P (Str.ofString "is_finite"), key := Value.str (Str.ofString "is_finite") 269, val := Value.ref 75 }, { hash := PyData.keyHash P (Str.ofString "marked"), key := Value.str (Str.ofString "marked") 277, val := Value.ref 82 }, { hash := PyData.keyHash P (Str.ofString "neg"), key := Value.str (Str.ofString "neg") 284, val := Value.ref 89 }, { hash := PyData.keyHash P (Str.ofString "add"), key := Value.str (Str.ofString "add") 292, val := Value.ref 96 }, { hash := PyData.keyHash P (Str.ofString "sub"), key := Value.str (Str.ofString "sub") 300, val := Value.ref 103 }, { hash := PyData.keyHash P (Str.ofString "mul"), key := Value.str (Str.ofString "mul") 308, val := Value.ref 110 }, { hash := PyData.keyHash P (Str.ofString "div"), key := Value.str (Str.ofString "div") 316, val := Value.ref 117 }, { hash := PyData.keyHash P (Str.ofString "ZERO"), key := Value.str (Str.ofString "ZERO") 321, val := Value.ref 118 }, { hash := PyData.keyHash P (Str.ofString "ONE"), key := Value.str (Str.ofString "ONE") 324, val := Value.ref 119 }, { hash := PyData.keyHash P (Str.ofString "Fit"), key := Value.str (Str.ofString "Fit") 366, val := Value.ref 136 }, { hash := PyData.keyHash P (Str.ofString "weighted"), key := Value.str (Str.ofString "weighted") 372, val := Value.ref 145 }, { hash := PyData.keyHash P (Str.ofString "dot"), key := Value.str (Str.ofString "dot") 382, val := Value.ref 152 }, { hash := PyData.keyHash P (Str.ofString "less_multiple"), key := Value.str (Str.ofString "less_multiple") 388, val := Value.ref 157 }, { hash := PyData.keyHash P (Str.ofString "check_finite"), key := Value.str (Str.ofString "check_finite") 397, val := Value.ref 164 }, { hash := PyData.keyHash P (Str.ofString "check_weights"), key := Value.str (Str.ofString "check_weights") 406, val := Value.ref 171 }, { hash := PyData.keyHash P (Str.ofString "orthogonal"), key := Value.str (Str.ofString "orthogonal") 421, val := Value.ref 178 }, { hash := PyData.keyHash P (Str.ofString "back_coefficients"), key := Value.str (Str.ofString "back_coefficients") 431, val := Value.ref 185 }, { hash := PyData.keyHash P (Str.ofString "used_rows"), key := Value.str (Str.ofString "used_rows") 437, val := Value.ref 190 }, { hash := PyData.keyHash P (Str.ofString "fit"), key := Value.str (Str.ofString "fit") 443, val := Value.ref 196 }, { hash := PyData.keyHash P (Str.ofString "rss"), key := Value.str (Str.ofString "rss") 450, val := Value.ref 203 }, { hash := PyData.keyHash P (Str.ofString "step_square"), key := Value.str (Str.ofString "step_square") 458, val := Value.ref 210 }, { hash := PyData.keyHash P (Str.ofString "anova_rows"), key := Value.str (Str.ofString "anova_rows") 470, val := Value.ref 217 }, { hash := PyData.keyHash P (Str.ofString "inverse_shares"), key := Value.str (Str.ofString "inverse_shares") 483, val := Value.ref 224 }, { hash := PyData.keyHash P (Str.ofString "unscaled_covariance"), key := Value.str (Str.ofString "unscaled_covariance") 498, val := Value.ref 231 }, { hash := PyData.keyHash P (Str.ofString "_law_pull"), key := Value.str (Str.ofString "_law_pull") 509, val := Value.ref 238 }, { hash := PyData.keyHash P (Str.ofString "_law_entry"), key := Value.str (Str.ofString "_law_entry") 517, val := Value.ref 245 }, { hash := PyData.keyHash P (Str.ofString "_law_told"), key := Value.str (Str.ofString "_law_told") 524, val := Value.ref 252 }, { hash := PyData.keyHash P (Str.ofString "_law_sums"), key := Value.str (Str.ofString "_law_sums") 530, val := Value.ref 257 }, { hash := PyData.keyHash P (Str.ofString "law"), key := Value.str (Str.ofString "law") 536, val := Value.ref 262 }] 44 }),
  (47, { cls := Value.type "tuple", data := Data.seq #[Value.int 0 236, Value.int 0 237] }),
  (53, { cls := Value.type "code", data := Data.fields #[Value.str (Str.ofString "gcd") 239, Value.str (Str.ofString "gcd") 240, Value.str (Str.ofString "/claim/cut.py") 241, Value.int 10 0, Value.int 2 0, Value.int 0 0, Value.int 0 0, Value.int 3 0, Value.ref 48, Value.bool true, Value.int 181 0, Value.ref 49, Value.none, Value.ref 50, Value.ref 51, Value.ref 52, Value.int 244 0, Value.int 10 0, Value.str (Str.ofString "/claim/cut.py") 245] }),
  fnE 54 5 (Value.none) (Value.str (Str.ofString "vectorcove.rational") 234) 53,
  (60, { cls := Value.type "code", data := Data.fields #[Value.str (Str.ofString "make") 247, Value.str (Str.ofString "make") 248, Value.str (Str.ofString "/claim/cut.py") 249, Value.int 14 0, Value.int 2 0, Value.int 0 0, Value.int 0 0, Value.int 3 0, Value.ref 55, Value.bool true, Value.int 181 0, Value.ref 56, Value.none, Value.ref 57, Value.ref 58, Value.ref 59, Value.int 253 0, Value.int 14 0, Value.str (Str.ofString "/claim/cut.py") 254] }),
  fnE 61 6 (Value.none) (Value.str (Str.ofString "vectorcove.rational") 234) 60,
  (67, { cls := Value.type "code", data := Data.fields #[Value.str (Str.ofString "is_na") 256, Value.str (Str.ofString "is_na") 257, Value.str (Str.ofString "/claim/cut.py") 258, Value.int 24 0, Value.int 1 0, Value.int 0 0, Value.int 0 0, Value.int 3 0, Value.ref 62, Value.bool true, Value.int 181 0, Value.ref 63, Value.none, Value.ref 64, Value.ref 65, Value.ref 66, Value.int 260 0, Value.int 24 0, Value.str (Str.ofString "/claim/cut.py") 261] }),
  fnE 68 7 (Value.none) (Value.str (Str.ofString "vectorcove.rational") 234) 67,
  (74, { cls := Value.type "code", data := Data.fields #[Value.str (Str.ofString "is_finite") 263, Value.str (Str.ofString "is_finite") 264, Value.str (Str.ofString "/claim/cut.py") 265, Value.int 26 0, Value.int 1 0, Value.int 0 0, Value.int 0 0, Value.int 3 0, Value.ref 69, Value.bool true, Value.int 181 0, Value.ref 70, Value.none, Value.ref 71, Value.ref 72, Value.ref 73, Value.int 267 0, Value.int 26 0, Value.str (Str.ofString "/claim/cut.py") 268] }),
  fnE 75 8 (Value.none) (Value.str (Str.ofString "vectorcove.rational") 234) 74,
  (81, { cls := Value.type "code", data := Data.fields #[Value.str (Str.ofString "marked") 270, Value.str (Str.ofString "marked") 271, Value.str (Str.ofString "/claim/cut.py") 272, Value.int 28 0, Value.int 2 0, Value.int 0 0, Value.int 0 0, Value.int 3 0, Value.ref 76, Value.bool true, Value.int 181 0, Value.ref 77, Value.none, Value.ref 78, Value.ref 79, Value.ref 80, Value.int 275 0, Value.int 28 0, Value.str (Str.ofString "/claim/cut.py") 276] }),
  fnE 82 9 (Value.none) (Value.str (Str.ofString "vectorcove.rational") 234) 81,
  (88, { cls := Value.type "code", data := Data.fields #[Value.str (Str.ofString "neg") 278, Value.str (Str.ofString "neg") 279, Value.str (Str.ofString "/claim/cut.py") 280, Value.int 32 0, Value.int 1 0, Value.int 0 0, Value.int 0 0, Value.int 3 0, Value.ref 83, Value.bool true, Value.int 181 0, Value.ref 84, Value.none, Value.ref 85, Value.ref 86, Value.ref 87, Value.int 282 0, Value.int 32 0, Value.str (Str.ofString "/claim/cut.py") 283] }),
  fnE 89 10 (Value.none) (Value.str (Str.ofString "vectorcove.rational") 234) 88,
  (95, { cls := Value.type "code", data := Data.fields #[Value.str (Str.ofString "add") 285, Value.str (Str.ofString "add") 286, Value.str (Str.ofString "/claim/cut.py") 287, Value.int 36 0, Value.int 2 0, Value.int 0 0, Value.int 0 0, Value.int 3 0, Value.ref 90, Value.bool true, Value.int 181 0, Value.ref 91, Value.none, Value.ref 92, Value.ref 93, Value.ref 94, Value.int 290 0, Value.int 36 0, Value.str (Str.ofString "/claim/cut.py") 291] }),
  fnE 96 11 (Value.none) (Value.str (Str.ofString "vectorcove.rational") 234) 95,
  (102, { cls := Value.type "code", data := Data.fields #[Value.str (Str.ofString "sub") 293, Value.str (Str.ofString "sub") 294, Value.str (Str.ofString "/claim/cut.py") 295, Value.int 46 0, Value.int 2 0, Value.int 0 0, Value.int 0 0, Value.int 3 0, Value.ref 97, Value.bool true, Value.int 181 0, Value.ref 98, Value.none, Value.ref 99, Value.ref 100, Value.ref 101, Value.int 298 0, Value.int 46 0, Value.str (Str.ofString "/claim/cut.py") 299] }),
  fnE 103 12 (Value.none) (Value.str (Str.ofString "vectorcove.rational") 234) 102,
  (109, { cls := Value.type "code", data := Data.fields #[Value.str (Str.ofString "mul") 301, Value.str (Str.ofString "mul") 302, Value.str (Str.ofString "/claim/cut.py") 303, Value.int 48 0, Value.int 2 0, Value.int 0 0, Value.int 0 0, Value.int 3 0, Value.ref 104, Value.bool true, Value.int 181 0, Value.ref 105, Value.none, Value.ref 106, Value.ref 107, Value.ref 108, Value.int 306 0, Value.int 48 0, Value.str (Str.ofString "/claim/cut.py") 307] }),
  fnE 110 13 (Value.none) (Value.str (Str.ofString "vectorcove.rational") 234) 109,
  (116, { cls := Value.type "code", data := Data.fields #[Value.str (Str.ofString "div") 309, Value.str (Str.ofString "div") 310, Value.str (Str.ofString "/claim/cut.py") 311, Value.int 52 0, Value.int 2 0, Value.int 0 0, Value.int 0 0, Value.int 3 0, Value.ref 111, Value.bool true, Value.int 181 0, Value.ref 112, Value.none, Value.ref 113, Value.ref 114, Value.ref 115, Value.int 314 0, Value.int 52 0, Value.str (Str.ofString "/claim/cut.py") 315] }),
  fnE 117 14 (Value.none) (Value.str (Str.ofString "vectorcove.rational") 234) 116,
  (118, { cls := Value.type "tuple", data := Data.seq #[Value.int 0 319, Value.int 1 320] }),
  (119, { cls := Value.type "tuple", data := Data.seq #[Value.int 1 322, Value.int 1 323] }),
  (132, { cls := Value.type "code", data := Data.fields #[Value.str (Str.ofString "__init__") 337, Value.str (Str.ofString "Fit.__init__") 338, Value.str (Str.ofString "/claim/cut.py") 339, Value.int 65 0, Value.int 5 0, Value.int 0 0, Value.int 0 0, Value.int 3 0, Value.ref 127, Value.bool true, Value.int 181 0, Value.ref 128, Value.none, Value.ref 129, Value.ref 130, Value.ref 131, Value.int 345 0, Value.int 65 0, Value.str (Str.ofString "/claim/cut.py") 346] }),
  initE,
  (135, { cls := Value.type "dict", data := Data.dict #[{ hash := PyData.keyHash P (Str.ofString "__module__"), key := Value.str (Str.ofString "__module__") 332, val := Value.str (Str.ofString "vectorcove.lsfit") 317 }, { hash := PyData.keyHash P (Str.ofString "__firstlineno__"), key := Value.str (Str.ofString "__firstlineno__") 336, val := Value.int 63 335 }, { hash := PyData.keyHash P (Str.ofString "__init__"), key := Value.str (Str.ofString "__init__") 347, val := Value.ref 133 }, { hash := PyData.keyHash P (Str.ofString "__static_attributes__"), key := Value.str (Str.ofString "__static_attributes__") 359, val := Value.ref 134 }, { hash := PyData.keyHash P (Str.ofString "__dict__"), key := Value.str (Str.ofString "__dict__") 361, val := Value.ref 137 }, { hash := PyData.keyHash P (Str.ofString "__weakref__"), key := Value.str (Str.ofString "__weakref__") 363, val := Value.ref 138 }, { hash := PyData.keyHash P (Str.ofString "__doc__"), key := Value.str (Str.ofString "__doc__") 364, val := Value.none }] 4 }),
  (136, { cls := Value.type "type", data := Data.cls { name := Str.ofString "Fit", bases := [Value.type "object"], mro := [Value.ref 136, Value.type "object"], ns := 135, qualname := Str.ofString "Fit" }, slots := #[none, none, some (Value.str (Str.ofString "Fit") 325), some (Value.str (Str.ofString "Fit") 333), some (Value.builtin "object.__new__"), some (Value.bool true)] }),
  (144, { cls := Value.type "code", data := Data.fields #[Value.str (Str.ofString "weighted") 367, Value.str (Str.ofString "weighted") 368, Value.str (Str.ofString "/claim/cut.py") 369, Value.int 77 0, Value.int 2 0, Value.int 0 0, Value.int 0 0, Value.int 3 0, Value.ref 141, Value.bool true, Value.int 181 0, Value.ref 142, Value.none, Value.none, Value.none, Value.ref 143, Value.int 370 0, Value.int 77 0, Value.str (Str.ofString "/claim/cut.py") 371] }),
  fnE 145 19 (Value.none) (Value.str (Str.ofString "vectorcove.lsfit") 317) 144,
  (151, { cls := Value.type "code", data := Data.fields #[Value.str (Str.ofString "dot") 373, Value.str (Str.ofString "dot") 374, Value.str (Str.ofString "/claim/cut.py") 375, Value.int 81 0, Value.int 2 0, Value.int 0 0, Value.int 0 0, Value.int 3 0, Value.ref 146, Value.bool true, Value.int 181 0, Value.ref 147, Value.none, Value.ref 148, Value.ref 149, Value.ref 150, Value.int 380 0, Value.int 81 0, Value.str (Str.ofString "/claim/cut.py") 381] }),
  fnE 152 20 (Value.none) (Value.str (Str.ofString "vectorcove.lsfit") 317) 151,
  (156, { cls := Value.type "code", data := Data.fields #[Value.str (Str.ofString "less_multiple") 383, Value.str (Str.ofString "less_multiple") 384, Value.str (Str.ofString "/claim/cut.py") 385, Value.int 87 0, Value.int 3 0, Value.int 0 0, Value.int 0 0, Value.int 3 0, Value.ref 153, Value.bool true, Value.int 181 0, Value.ref 154, Value.none, Value.none, Value.none, Value.ref 155, Value.int 386 0, Value.int 87 0, Value.str (Str.ofString "/claim/cut.py") 387] }),
  fnE 157 21 (Value.none) (Value.str (Str.ofString "vectorcove.lsfit") 317) 156,
  (163, { cls := Value.type "code", data := Data.fields #[Value.str (Str.ofString "check_finite") 389, Value.str (Str.ofString "check_finite") 390, Value.str (Str.ofString "/claim/cut.py") 391, Value.int 91 0, Value.int 2 0, Value.int 0 0, Value.int 0 0, Value.int 3 0, Value.ref 158, Value.bool true, Value.int 181 0, Value.ref 159, Value.none, Value.ref 160, Value.ref 161, Value.ref 162, Value.int 395 0, Value.int 91 0, Value.str (Str.ofString "/claim/cut.py") 396] }),
  fnE 164 22 (Value.none) (Value.str (Str.ofString "vectorcove.lsfit") 317) 163,
  (170, { cls := Value.type "code", data := Data.fields #[Value.str (Str.ofString "check_weights") 398, Value.str (Str.ofString "check_weights") 399, Value.str (Str.ofString "/claim/cut.py") 400, Value.int 95 0, Value.int 2 0, Value.int 0 0, Value.int 0 0, Value.int 3 0, Value.ref 165, Value.bool true, Value.int 181 0, Value.ref 166, Value.none, Value.ref 167, Value.ref 168, Value.ref 169, Value.int 404 0, Value.int 95 0, Value.str (Str.ofString "/claim/cut.py") 405] }),
  fnE 171 23 (Value.none) (Value.str (Str.ofString "vectorcove.lsfit") 317) 170,
  (177, { cls := Value.type "code", data := Data.fields #[Value.str (Str.ofString "orthogonal") 407, Value.str (Str.ofString "orthogonal") 408, Value.str (Str.ofString "/claim/cut.py") 409, Value.int 101 0, Value.int 2 0, Value.int 0 0, Value.int 0 0, Value.int 3 0, Value.ref 172, Value.bool true, Value.int 181 0, Value.ref 173, Value.none, Value.ref 174, Value.ref 175, Value.ref 176, Value.int 419 0, Value.int 101 0, Value.str (Str.ofString "/claim/cut.py") 420] }),
  fnE 178 24 (Value.none) (Value.str (Str.ofString "vectorcove.lsfit") 317) 177,
  (184, { cls := Value.type "code", data := Data.fields #[Value.str (Str.ofString "back_coefficients") 422, Value.str (Str.ofString "back_coefficients") 423, Value.str (Str.ofString "/claim/cut.py") 424, Value.int 118 0, Value.int 1 0, Value.int 0 0, Value.int 0 0, Value.int 3 0, Value.ref 179, Value.bool true, Value.int 181 0, Value.ref 180, Value.none, Value.ref 181, Value.ref 182, Value.ref 183, Value.int 429 0, Value.int 118 0, Value.str (Str.ofString "/claim/cut.py") 430] }),
  fnE 185 25 (Value.none) (Value.str (Str.ofString "vectorcove.lsfit") 317) 184,
  (189, { cls := Value.type "code", data := Data.fields #[Value.str (Str.ofString "used_rows") 432, Value.str (Str.ofString "used_rows") 433, Value.str (Str.ofString "/claim/cut.py") 434, Value.int 124 0, Value.int 2 0, Value.int 0 0, Value.int 0 0, Value.int 3 0, Value.ref 186, Value.bool true, Value.int 181 0, Value.ref 187, Value.none, Value.none, Value.none, Value.ref 188, Value.int 435 0, Value.int 124 0, Value.str (Str.ofString "/claim/cut.py") 436] }),
  fnE 190 26 (Value.none) (Value.str (Str.ofString "vectorcove.lsfit") 317) 189,
  (191, { cls := Value.type "tuple", data := Data.seq #[Value.none] }),
  (195, { cls := Value.type "code", data := Data.fields #[Value.str (Str.ofString "fit") 438, Value.str (Str.ofString "fit") 439, Value.str (Str.ofString "/claim/cut.py") 440, Value.int 128 0, Value.int 3 0, Value.int 0 0, Value.int 0 0, Value.int 3 0, Value.ref 192, Value.bool true, Value.int 181 0, Value.ref 193, Value.none, Value.none, Value.none, Value.ref 194, Value.int 441 0, Value.int 128 0, Value.str (Str.ofString "/claim/cut.py") 442] }),
  fnE 196 27 (Value.ref 191) (Value.str (Str.ofString "vectorcove.lsfit") 317) 195,
  (202, { cls := Value.type "code", data := Data.fields #[Value.str (Str.ofString "rss") 444, Value.str (Str.ofString "rss") 445, Value.str (Str.ofString "/claim/cut.py") 446, Value.int 151 0, Value.int 1 0, Value.int 0 0, Value.int 0 0, Value.int 3 0, Value.ref 197, Value.bool true, Value.int 181 0, Value.ref 198, Value.none, Value.ref 199, Value.ref 200, Value.ref 201, Value.int 448 0, Value.int 151 0, Value.str (Str.ofString "/claim/cut.py") 449] }),
  fnE 203 28 (Value.none) (Value.str (Str.ofString "vectorcove.lsfit") 317) 202,
  (209, { cls := Value.type "code", data := Data.fields #[Value.str (Str.ofString "step_square") 451, Value.str (Str.ofString "step_square") 452, Value.str (Str.ofString "/claim/cut.py") 453, Value.int 153 0, Value.int 2 0, Value.int 0 0, Value.int 0 0, Value.int 3 0, Value.ref 204, Value.bool true, Value.int 181 0, Value.ref 205, Value.none, Value.ref 206, Value.ref 207, Value.ref 208, Value.int 456 0, Value.int 153 0, Value.str (Str.ofString "/claim/cut.py") 457] }),
  fnE 210 29 (Value.none) (Value.str (Str.ofString "vectorcove.lsfit") 317) 209,
  (216, { cls := Value.type "code", data := Data.fields #[Value.str (Str.ofString "anova_rows") 459, Value.str (Str.ofString "anova_rows") 460, Value.str (Str.ofString "/claim/cut.py") 461, Value.int 155 0, Value.int 2 0, Value.int 0 0, Value.int 0 0, Value.int 3 0, Value.ref 211, Value.bool true, Value.int 181 0, Value.ref 212, Value.none, Value.ref 213, Value.ref 214, Value.ref 215, Value.int 468 0, Value.int 155 0, Value.str (Str.ofString "/claim/cut.py") 469] }),
  fnE 217 30 (Value.none) (Value.str (Str.ofString "vectorcove.lsfit") 317) 216,
  (223, { cls := Value.type "code", data := Data.fields #[Value.str (Str.ofString "inverse_shares") 471, Value.str (Str.ofString "inverse_shares") 472, Value.str (Str.ofString "/claim/cut.py") 473, Value.int 165 0, Value.int 1 0, Value.int 0 0, Value.int 0 0, Value.int 3 0, Value.ref 218, Value.bool true, Value.int 181 0, Value.ref 219, Value.none, Value.ref 220, Value.ref 221, Value.ref 222, Value.int 481 0, Value.int 165 0, Value.str (Str.ofString "/claim/cut.py") 482] }),
  fnE 224 31 (Value.none) (Value.str (Str.ofString "vectorcove.lsfit") 317) 223,
  (230, { cls := Value.type "code", data := Data.fields #[Value.str (Str.ofString "unscaled_covariance") 484, Value.str (Str.ofString "unscaled_covariance") 485, Value.str (Str.ofString "/claim/cut.py") 486, Value.int 178 0, Value.int 1 0, Value.int 0 0, Value.int 0 0, Value.int 3 0, Value.ref 225, Value.bool true, Value.int 181 0, Value.ref 226, Value.none, Value.ref 227, Value.ref 228, Value.ref 229, Value.int 496 0, Value.int 178 0, Value.str (Str.ofString "/claim/cut.py") 497] }),
  fnE 231 32 (Value.none) (Value.str (Str.ofString "vectorcove.lsfit") 317) 230,
  (237, { cls := Value.type "code", data := Data.fields #[Value.str (Str.ofString "_law_pull") 501, Value.str (Str.ofString "_law_pull") 502, Value.str (Str.ofString "/claim/cut.py") 503, Value.int 192 0, Value.int 3 0, Value.int 0 0, Value.int 0 0, Value.int 3 0, Value.ref 232, Value.bool true, Value.int 181 0, Value.ref 233, Value.none, Value.ref 234, Value.ref 235, Value.ref 236, Value.int 507 0, Value.int 192 0, Value.str (Str.ofString "/claim/cut.py") 508] }),
  fnE 238 34 (Value.none) (Value.str (Str.ofString "law_ov0060_01") 499) 237,
  (244, { cls := Value.type "code", data := Data.fields #[Value.str (Str.ofString "_law_entry") 510, Value.str (Str.ofString "_law_entry") 511, Value.str (Str.ofString "/claim/cut.py") 512, Value.int 196 0, Value.int 2 0, Value.int 0 0, Value.int 0 0, Value.int 3 0, Value.ref 239, Value.bool true, Value.int 181 0, Value.ref 240, Value.none, Value.ref 241, Value.ref 242, Value.ref 243, Value.int 515 0, Value.int 196 0, Value.str (Str.ofString "/claim/cut.py") 516] }),
  fnE 245 35 (Value.none) (Value.str (Str.ofString "law_ov0060_01") 499) 244,
  (251, { cls := Value.type "code", data := Data.fields #[Value.str (Str.ofString "_law_told") 518, Value.str (Str.ofString "_law_told") 519, Value.str (Str.ofString "/claim/cut.py") 520, Value.int 198 0, Value.int 1 0, Value.int 0 0, Value.int 0 0, Value.int 3 0, Value.ref 246, Value.bool true, Value.int 181 0, Value.ref 247, Value.none, Value.ref 248, Value.ref 249, Value.ref 250, Value.int 522 0, Value.int 198 0, Value.str (Str.ofString "/claim/cut.py") 523] }),
  fnE 252 36 (Value.none) (Value.str (Str.ofString "law_ov0060_01") 499) 251,
  (256, { cls := Value.type "code", data := Data.fields #[Value.str (Str.ofString "_law_sums") 525, Value.str (Str.ofString "_law_sums") 526, Value.str (Str.ofString "/claim/cut.py") 527, Value.int 200 0, Value.int 2 0, Value.int 0 0, Value.int 0 0, Value.int 3 0, Value.ref 253, Value.bool true, Value.int 181 0, Value.ref 254, Value.none, Value.none, Value.none, Value.ref 255, Value.int 528 0, Value.int 200 0, Value.str (Str.ofString "/claim/cut.py") 529] }),
  fnE 257 37 (Value.none) (Value.str (Str.ofString "law_ov0060_01") 499) 256,
  (261, { cls := Value.type "code", data := Data.fields #[Value.str (Str.ofString "law") 531, Value.str (Str.ofString "law") 532, Value.str (Str.ofString "/claim/cut.py") 533, Value.int 202 0, Value.int 1 0, Value.int 0 0, Value.int 0 0, Value.int 3 0, Value.ref 258, Value.bool true, Value.int 181 0, Value.ref 259, Value.none, Value.none, Value.none, Value.ref 260, Value.int 534 0, Value.int 202 0, Value.str (Str.ofString "/claim/cut.py") 535] }),
  fnE 262 38 (Value.none) (Value.str (Str.ofString "law_ov0060_01") 499) 261]
abbrev adrs : List Addr := [3, 47, 53, 54, 60, 61, 67, 68, 74, 75, 81, 82, 88, 89, 95, 96, 102, 103, 109, 110, 116, 117, 118, 119, 132, 133, 135, 136, 144, 145, 151, 152, 156, 157, 163, 164, 170, 171, 177, 178, 184, 185, 189, 190, 191, 195, 196, 202, 203, 209, 210, 216, 217, 223, 224, 230, 231, 237, 238, 244, 245, 251, 252, 256, 257, 261, 262]
def kept : List Stmt := [stmtAt 1, stmtAt 2, stmtAt 4, stmtAt 5, stmtAt 6, stmtAt 7, stmtAt 8, stmtAt 9, stmtAt 10, stmtAt 11, stmtAt 12, stmtAt 13, stmtAt 14, stmtAt 16, stmtAt 17, stmtAt 18, stmtAt 19, stmtAt 20, stmtAt 21, stmtAt 22, stmtAt 23, stmtAt 24, stmtAt 25, stmtAt 26, stmtAt 28, stmtAt 29, stmtAt 30, stmtAt 31, stmtAt 32, stmtAt 34, stmtAt 35, stmtAt 36, stmtAt 37, stmtAt 38]
def view1 : Program := { PySem.Challenge.rw_ov0060_01.row.prog with main := { PySem.Challenge.rw_ov0060_01.row.prog.main with body := kept } }
abbrev Im := Addr → Option Obj
inductive D where
  | none
  | bool (b : Bool)
  | int (i : Int)
  | tup (ds : List D)
  | lst (ds : List D)
  | rng (a b c : Int)
  | obj (fs : List (Str × D))
  | raw (v : Value)
abbrev lo (vs : List Value) (n : Nat) : Obj := { cls := .type "list", data := .seq vs.toArray n }
abbrev tu (vs : List Value) (n : Nat) : Obj := { cls := .type "tuple", data := .seq vs.toArray n }
abbrev dco (es : List DictEntry) (n : Nat) : Obj := { cls := .type "dict", data := .dict es.toArray n }
abbrev ino (C dx : Addr) (sl : Array (Option Value)) : Obj := ⟨.ref C, some dx, .plain, sl⟩
abbrev rgo (a b c : Int) (t u v : Tok) : Obj := { cls := .type "range", dict := none, data := .fields #[.int a t, .int b u, .int c v], slots := #[] }
/-- the class of the program's instances -/
abbrev CF : Addr := 136
mutual
inductive Rep (im : Im) : Value → D → Prop
  | none : Rep im Value.none D.none
  | bool (b : Bool) : Rep im (Value.bool b) (D.bool b)
  | int (i : Int) (t : Tok) : Rep im (Value.int i t) (D.int i)
  | raw (v : Value) : Rep im v (D.raw v)
  | tup {a : Addr} {vs : List Value} {n : Nat} {ds : List D} : im a = some (tu vs n) → Reps im vs ds → Rep im (Value.ref a) (D.tup ds)
  | lst {a : Addr} {o : Obj} {vs : List Value} {n : Nat} {ds : List D} : im a = some o → o.cls = .type "list" → o.data = .seq vs.toArray n → Reps im vs ds → Rep im (Value.ref a) (D.lst ds)
  | rng {r : Addr} {a b c : Int} {t u v : Tok} : im r = some (rgo a b c t u v) → Rep im (Value.ref r) (D.rng a b c)
  | obj {x dx : Addr} {sl : Array (Option Value)} {es : List DictEntry} {n : Nat} {fs : List (Str × D)} : im x = some (ino CF dx sl) → im dx = some (dco es n) → Fds im es fs → Rep im (Value.ref x) (D.obj fs)
inductive Reps (im : Im) : List Value → List D → Prop
  | nil : Reps im [] []
  | cons {v : Value} {vs : List Value} {d : D} {ds : List D} : Rep im v d → Reps im vs ds → Reps im (v :: vs) (d :: ds)
inductive Fds (im : Im) : List DictEntry → List (Str × D) → Prop
  | nil : Fds im [] []
  | cons {h : Int} {x : Str} {t : Tok} {v : Value} {es : List DictEntry} {d : D} {fs : List (Str × D)} : Rep im v d → Fds im es fs → Fds im (⟨h, .str x t, v⟩ :: es) ((x, d) :: fs)
end
def Le (im im' : Im) : Prop := ∀ a o, im a = some o → im' a = some o
theorem Le.refl (im : Im) : Le im im := fun _ _ e => e
theorem Le.trans {a b c : Im} (x : Le a b) (y : Le b c) : Le a c := fun p o e => y p o (x p o e)
mutual
theorem Rep.mono {im im' : Im} (h : Le im im') : ∀ {v : Value} {d : D}, Rep im v d → Rep im' v d
  | _, _, .none => .none
  | _, _, .bool b => .bool b
  | _, _, .int i t => .int i t
  | _, _, .raw v => .raw v
  | _, _, .tup e r => .tup (h _ _ e) (Reps.mono h r)
  | _, _, .lst e f g r => .lst (h _ _ e) f g (Reps.mono h r)
  | _, _, .rng e => .rng (h _ _ e)
  | _, _, .obj e f r => .obj (h _ _ e) (h _ _ f) (Fds.mono h r)
theorem Reps.mono {im im' : Im} (h : Le im im') : ∀ {vs : List Value} {ds : List D}, Reps im vs ds → Reps im' vs ds
  | _, _, .nil => .nil
  | _, _, .cons e r => .cons (Rep.mono h e) (Reps.mono h r)
theorem Fds.mono {im im' : Im} (h : Le im im') : ∀ {es : List DictEntry} {fs : List (Str × D)}, Fds im es fs → Fds im' es fs
  | _, _, .nil => .nil
  | _, _, .cons e r => .cons (Rep.mono h e) (Fds.mono h r)
end
theorem Reps.length {im : Im} : ∀ {vs : List Value} {ds : List D}, Reps im vs ds → vs.length = ds.length
  | _, _, .nil => rfl
  | _, _, .cons _ r => by rw [List.length_cons, List.length_cons, r.length]
theorem Reps.get {im : Im} : ∀ {vs : List Value} {ds : List D} {k : Nat} {d : D}, Reps im vs ds → ds[k]? = some d → ∃ v, vs[k]? = some v ∧ Rep im v d
  | _, _, 0, _, .cons e _, hk => by simp at hk; subst hk; exact ⟨_, rfl, e⟩
  | _, _, k + 1, _, .cons _ r, hk => by simp at hk; obtain ⟨v, h1, h2⟩ := r.get hk; exact ⟨v, by simpa using h1, h2⟩
theorem Reps.append {im : Im} : ∀ {vs ws : List Value} {ds es : List D}, Reps im vs ds → Reps im ws es → Reps im (vs ++ ws) (ds ++ es)
  | _, _, _, _, .nil, k => k
  | _, _, _, _, .cons e r, k => .cons e (r.append k)
theorem Reps.one {im : Im} {v : Value} {d : D} (h : Rep im v d) : Reps im [v] [d] := .cons h .nil
theorem Reps.set {im : Im} : ∀ {vs : List Value} {ds : List D} {k : Nat} {v : Value} {d : D}, Reps im vs ds → Rep im v d → Reps im (vs.set k v) (ds.set k d)
  | _, _, _, _, _, .nil, _ => .nil
  | _, _, 0, _, _, .cons _ r, h => .cons h r
  | _, _, k + 1, _, _, .cons e r, h => .cons e (r.set h)
theorem Reps.replicate {im : Im} {v : Value} {d : D} (h : Rep im v d) : ∀ n : Nat, Reps im (List.replicate n v) (List.replicate n d)
  | 0 => .nil
  | n + 1 => .cons h (Reps.replicate h n)
theorem Reps.tail {im : Im} {vs : List Value} {d : D} {ds : List D} (r : Reps im vs (d :: ds)) : ∃ v ws, vs = v :: ws ∧ Rep im v d ∧ Reps im ws ds := by
  cases r with
  | cons a b => exact ⟨_, _, rfl, a, b⟩
theorem Reps.l0 {im : Im} {vs : List Value} (r : Reps im vs []) : vs = [] := by cases r; rfl
theorem Reps.l1 {im : Im} {vs : List Value} {a : D} (r : Reps im vs [a]) : ∃ v, vs = [v] ∧ Rep im v a := by
  obtain ⟨v, ws, rfl, h, q⟩ := r.tail
  obtain rfl := q.l0
  exact ⟨v, rfl, h⟩
theorem Reps.l2 {im : Im} {vs : List Value} {a b : D} (r : Reps im vs [a, b]) : ∃ v w, vs = [v, w] ∧ Rep im v a ∧ Rep im w b := by
  obtain ⟨v, ws, rfl, h, q⟩ := r.tail
  obtain ⟨w, rfl, g⟩ := q.l1
  exact ⟨v, w, rfl, h, g⟩
theorem Reps.l3 {im : Im} {vs : List Value} {a b c : D} (r : Reps im vs [a, b, c]) : ∃ v w x, vs = [v, w, x] ∧ Rep im v a ∧ Rep im w b ∧ Rep im x c := by
  obtain ⟨v, ws, rfl, h, q⟩ := r.tail
  obtain ⟨w, x, rfl, g⟩ := q.l2
  exact ⟨v, w, x, rfl, h, g⟩
theorem Reps.l4 {im : Im} {vs : List Value} {a b c d : D} (r : Reps im vs [a, b, c, d]) : ∃ v w x y, vs = [v, w, x, y] ∧ Rep im v a ∧ Rep im w b ∧ Rep im x c ∧ Rep im y d := by
  obtain ⟨v, ws, rfl, h, q⟩ := r.tail
  obtain ⟨w, x, y, rfl, g⟩ := q.l3
  exact ⟨v, w, x, y, rfl, h, g⟩
theorem Reps.l5 {im : Im} {vs : List Value} {a b c d e : D} (r : Reps im vs [a, b, c, d, e]) : ∃ v w x y z, vs = [v, w, x, y, z] := by
  obtain ⟨v, ws, rfl, h, q⟩ := r.tail
  obtain ⟨w, x, y, z, rfl, g⟩ := q.l4
  exact ⟨v, w, x, y, z, rfl⟩
theorem Rep.handed {im : Im} {v : Value} {d : D} (h : Rep im v d) (hd : ∀ u, d ≠ .raw u) : handedIn v = true := by
  cases h <;> first | rfl | exact absurd rfl (hd _)
/-- owned objects -/
inductive AO where
  | lst (ds : List D)
  | obj (dx : Addr) (fs : List (Str × D))
def AO.addrs (a : Addr) : AO → List Addr
  | .lst _ => [a]
  | .obj dx _ => [a, dx]
abbrev Own := List (Addr × AO)
def Own.addrs (o : Own) : List Addr := o.flatMap fun p => p.2.addrs p.1
def OwnAt (im : Im) (h : Heap) (a : Addr) : AO → Prop
  | .lst ds => ∃ vs n, h.get? a = some (lo vs n) ∧ Reps im vs ds
  | .obj dx fs => ∃ sl es n, h.get? a = some (ino CF dx sl) ∧ h.get? dx = some (dco es n) ∧ Fds im es fs
structure St where
  vars : List (Str × D)
  own : Own := []
structure Fx where
  env : Env
  wr : List Addr := []
def fitNames : List Str := ["pivots", "bases", "norms", "shares", "steps", "coefficients", "fitted", "residuals", "weights", "rank", "df"]
structure Cx where
  prog : Program
  w : World
  K : Frag
  mg : Str → Option Value
  mb : Str → Option Value
  G : Heap
  X : K.In G
  g : G.Ns mainGlobals mg
  b : G.Ns builtinsNs mb
  lim : G.NoLimit
  bi : ∀ x : Str, x ≠ "__name__" → mb x = bootBuiltins x
  pg : ∀ x, plainGet K CF x = true
  hdt : hasDictIn K CF = true
  fno : ∀ x ∈ fitNames, findIn K (.ref CF) x = some none
  stt : findIn K (.ref CF) "__setattr__" = some (some (.builtin "object.__setattr__"))
  plo : plainOver K CF = true
  tko : ∀ x ∈ fitNames, takerIn K CF x = some none
abbrev Cx.M (c : Cx) : Model := model c.prog c.w
def AOk (n : Nat) (A : Around) : Prop := A.handled = none ∧ A.depth + n < recursionLimit ∧ A.units + 20 * n < cLine
/-- the part of the heap that is relied on -/
structure Hg (c : Cx) (im : Im) (h : Heap) : Prop where
  gd : ∀ a o, c.G.get? a = some o → h.get? a = some o
  imK : ∀ a o, c.K.lookup a = some o → im a = some o
  iin : ∀ a o, im a = some o → h.get? a = some o
def Var (fx : Fx) (m : Str → Option Value) (im : Im) (h : Heap) (x : Str) (d : D) : Prop :=
  (fx.env.kindOf x = some .local ∧ ∃ v, m x = some v ∧ Rep im v d) ∨
  ((fx.env.kindOf x = some .cell ∨ fx.env.kindOf x = some .free) ∧ ∃ a v, fx.env.cells.lookup x = some a ∧ h.IsCell a (some v) ∧ Rep im v d)
structure Hd (c : Cx) (fx : Fx) (σ : St) (kp im : Im) (h : Heap) : Prop where
  kind : fx.env.scope.kind = .function
  cap : ∀ y y' a, fx.env.cells.lookup y = some a → fx.env.cells.lookup y' = some a → y = y'
  cel : ∀ y a, fx.env.cells.lookup y = some a → a ∈ fx.wr ∨ ∃ o, kp a = some o
  glob : fx.env.globals = mainGlobals
  blt : fx.env.builtins = builtinsNs
  hg : Hg c im h
  gk : ∀ a o, c.G.get? a = some o → kp a = some o
  kin : ∀ a o, kp a = some o → h.get? a = some o
  ns : ∃ m, h.Ns fx.env.locals m ∧ ∀ x d, σ.vars.lookup x = some d → Var fx m im h x d
  nodup : (fx.env.locals :: (fx.wr ++ σ.own.addrs)).Nodup
  off : ∀ a ∈ fx.env.locals :: (fx.wr ++ σ.own.addrs), kp a = none ∧ im a = none ∧ ∃ o, h.get? a = some o
  own : ∀ p ∈ σ.own, OwnAt im h p.1 p.2
  wrc : ∀ a ∈ fx.wr, ∃ v₀, h.IsCell a v₀
structure Ext (kp im : Im) (h : Heap) (im' : Im) (h' : Heap) : Prop where
  le : Le im im'
  new : ∀ a o, im' a = some o → im a = some o ∨ kp a = none
theorem Ext.refl (kp im : Im) (h : Heap) : Ext kp im h im h := ⟨Le.refl _, fun _ _ e => .inl e⟩
theorem Ext.same {kp im : Im} {h h' : Heap} : Ext kp im h im h' := ⟨Le.refl _, fun _ _ e => .inl e⟩
theorem Ext.trans {kp im im' im'' : Im} {h h' h'' : Heap} (x : Ext kp im h im' h') (y : Ext kp im' h' im'' h'') : Ext kp im h im'' h'' :=
  ⟨x.le.trans y.le, fun a o e => by
    rcases y.new a o e with q | q
    · exact x.new a o q
    · exact .inr q⟩
theorem Ext.at {kp im im' : Im} {h h' g g' : Heap} (x : Ext kp im h im' h') : Ext kp im g im' g' := ⟨x.le, x.new⟩
theorem Ext.weak {kp kp' im im' : Im} {h h' : Heap} (x : Ext kp' im h im' h') (hk : Le kp kp') : Ext kp im h im' h' := by
  refine ⟨x.le, fun a o e => ?_⟩
  rcases x.new a o e with q | q
  · exact .inl q
  · refine .inr ?_
    cases q2 : kp a with
    | none => rfl
    | some o2 => rw [hk _ _ q2] at q; cases q
/-! the judgements -/
def We (c : Cx) (n : Nat) (fx : Fx) (σ : St) (e : Expr) (k : D → Prop) : Prop :=
  ∀ (A : Around) (kp im : Im) (s : Shared) (Q : Value → Shared → Prop) (E : Value → Shared → Prop), AOk n A → Hd c fx σ kp im s.heap →
    (∀ v d im' h' tk', Ext kp im s.heap im' h' → Hd c fx σ kp im' h' → Rep im' v d → k d → Q v { s with heap := h', toks := tk' }) → wpAny c.M A (eval e fx.env) Q E s
def Wes (c : Cx) (n : Nat) (fx : Fx) (σ : St) (pos : Pos) (es : List Expr) (k : List D → Prop) : Prop :=
  ∀ (A : Around) (kp im : Im) (s : Shared) (Q : List Value → Shared → Prop) (E : Value → Shared → Prop), AOk n A → Hd c fx σ kp im s.heap →
    (∀ vs ds im' h' tk', Ext kp im s.heap im' h' → Hd c fx σ kp im' h' → Reps im' vs ds → k ds → Q vs { s with heap := h', toks := tk' }) → wpAny c.M A (spliced (backTo pos (starEach es fx.env))) Q E s
def Wt (c : Cx) (n : Nat) (fx : Fx) (σ : St) (e : Expr) (k : Bool → Prop) : Prop :=
  ∀ (A : Around) (kp im : Im) (s : Shared) (Q : Bool → Shared → Prop) (E : Value → Shared → Prop), AOk n A → Hd c fx σ kp im s.heap →
    (∀ b im' h' tk', Ext kp im s.heap im' h' → Hd c fx σ kp im' h' → k b → Q b { s with heap := h', toks := tk' }) → wpAny c.M A (isTrue e fx.env (eval e fx.env)) Q E s
def Wx (c : Cx) (n : Nat) (fx : Fx) (σ : St) (ss : List Stmt) (kn : St → Prop) (kr : St → D → Prop) : Prop :=
  ∀ (A : Around) (kp im : Im) (s : Shared) (Q : Flow → Shared → Prop) (E : Value → Shared → Prop), AOk n A → Hd c fx σ kp im s.heap →
    (∀ σ' im' h' tk', Ext kp im s.heap im' h' → Hd c fx σ' kp im' h' → kn σ' → Q .next { s with heap := h', toks := tk' }) →
    (∀ v d σ' im' h' tk', Ext kp im s.heap im' h' → Hd c fx σ' kp im' h' → Rep im' v d → kr σ' d → Q (.ret v) { s with heap := h', toks := tk' }) → wpAny c.M A (execs ss fx.env) Q E s
def Ws (c : Cx) (n : Nat) (fx : Fx) (σ : St) (st : Stmt) (kn : St → Prop) (kr : St → D → Prop) : Prop :=
  ∀ (A : Around) (kp im : Im) (s : Shared) (Q : Flow → Shared → Prop) (E : Value → Shared → Prop), AOk n A → Hd c fx σ kp im s.heap →
    (∀ σ' im' h' tk', Ext kp im s.heap im' h' → Hd c fx σ' kp im' h' → kn σ' → Q .next { s with heap := h', toks := tk' }) →
    (∀ v d σ' im' h' tk', Ext kp im s.heap im' h' → Hd c fx σ' kp im' h' → Rep im' v d → kr σ' d → Q (.ret v) { s with heap := h', toks := tk' }) → wpAny c.M A (exec st fx.env) Q E s
/-- a function's contract: it changes nothing that stands -/
def Fc (c : Cx) (n : Nat) (f : Addr) (ds : List D) (k : D → Prop) : Prop :=
  ∀ (A : Around) (im : Im) (s : Shared) (Q : Value → Shared → Prop) (E : Value → Shared → Prop) (vs : List Value), AOk n A → Hg c im s.heap → Reps im vs ds →
    (∀ v d im' h' tk', Ext s.heap.get? im s.heap im' h' → (∀ a o, s.heap.get? a = some o → h'.get? a = some o) → Hg c im' h' → Rep im' v d → k d → Q v { s with heap := h', toks := tk' }) →
    wpAny c.M A (call (.ref f) vs) Q E s
section
variable {c : Cx} {fx : Fx} {σ : St} {kp im im' : Im} {h h' : Heap}
theorem OwnAt.mono {a : Addr} {o : AO} (x : OwnAt im h a o) (hl : Le im im') (hk : ∀ b ∈ o.addrs a, ∀ ob, h.get? b = some ob → h'.get? b = some ob) : OwnAt im' h' a o := by
  cases o with
  | lst ds => obtain ⟨vs, n, e, r⟩ := x; exact ⟨vs, n, hk a (by simp [AO.addrs]) _ e, r.mono hl⟩
  | obj dx fs => obtain ⟨sl, es, n, e, f, r⟩ := x; exact ⟨sl, es, n, hk a (by simp [AO.addrs]) _ e, hk dx (by simp [AO.addrs]) _ f, r.mono hl⟩
theorem OwnAt.has {a : Addr} {o : AO} (x : OwnAt im h a o) : ∀ b ∈ o.addrs a, ∃ ob, h.get? b = some ob := by
  cases o with
  | lst ds => obtain ⟨vs, n, e, r⟩ := x; intro b hb; simp [AO.addrs] at hb; subst hb; exact ⟨_, e⟩
  | obj dx fs =>
    obtain ⟨sl, es, n, e, f, r⟩ := x; intro b hb; simp [AO.addrs] at hb
    rcases hb with rfl | rfl
    · exact ⟨_, e⟩
    · exact ⟨_, f⟩
/-- the heap grows: all that stands is kept -/
theorem Hd.grow (x : Hd c fx σ kp im h) (ex : Ext h.get? im h im' h') (hk : ∀ a o, h.get? a = some o → h'.get? a = some o) (hi : ∀ a o, im' a = some o → h'.get? a = some o) : Hd c fx σ kp im' h' where
  kind := x.kind
  cap := x.cap
  cel := x.cel
  glob := x.glob
  blt := x.blt
  hg := ⟨fun a o e => hk _ _ (x.hg.gd a o e), fun a o e => ex.le _ _ (x.hg.imK a o e), hi⟩
  gk := x.gk
  kin := fun a o e => hk _ _ (x.kin a o e)
  ns := by
    obtain ⟨m, hn, hv⟩ := x.ns
    refine ⟨m, hn.keeps hk, fun y d hd => ?_⟩
    rcases hv y d hd with ⟨k1, v, k2, k3⟩ | ⟨k1, a, v, k2, k3, k4⟩
    · exact .inl ⟨k1, v, k2, k3.mono ex.le⟩
    · exact .inr ⟨k1, a, v, k2, k3.keeps hk, k4.mono ex.le⟩
  nodup := x.nodup
  off := fun a ha => by
    obtain ⟨h1, h2, ob, h4⟩ := x.off a ha
    refine ⟨h1, ?_, ob, hk _ _ h4⟩
    cases q : im' a with
    | none => rfl
    | some o =>
      rcases ex.new a o q with e | e
      · rw [h2] at e; cases e
      · rw [h4] at e; cases e
  own := fun p hp => (x.own p hp).mono ex.le fun b _ ob e => hk b ob e
  wrc := fun a ha => by obtain ⟨v, e⟩ := x.wrc a ha; exact ⟨v, e.keeps hk⟩
theorem Hd.kle (x : Hd c fx σ kp im h) : Le kp h.get? := x.kin
/-- one new object, which stands from now on -/
def Im.put (im : Im) (a : Addr) (o : Obj) : Im := fun b => if b = a then some o else im b
theorem Im.put_self (im : Im) (a : Addr) (o : Obj) : im.put a o a = some o := by simp [Im.put]
theorem Im.put_ne (im : Im) {a b : Addr} (o : Obj) (h : b ≠ a) : im.put a o b = im b := by simp [Im.put, h]
theorem size_none (h : Heap) : h.get? h.objs.size = none := by
  cases q : h.get? h.objs.size with
  | none => rfl
  | some o => exact absurd (Heap.lt_size q) (Nat.lt_irrefl _)
theorem Ext.push (hi : ∀ a o, im a = some o → h.get? a = some o) (o : Obj) : Ext h.get? im h (im.put h.objs.size o) (h.push o) where
  le := fun a ob e => by
    have : a ≠ h.objs.size := Nat.ne_of_lt (Heap.lt_size (hi a ob e))
    simp [Im.put, this, e]
  new := fun a ob e => by
    unfold Im.put at e
    split at e
    · rename_i q; subst q; exact .inr (size_none h)
    · exact .inl e
theorem put_in (hi : ∀ a o, im a = some o → h.get? a = some o) (o : Obj) (hf : o.isFreed = false) : ∀ a ob, im.put h.objs.size o a = some ob → (h.push o).get? a = some ob := by
  intro a ob e
  unfold Im.put at e
  split at e
  · rename_i q; subst q; cases e; exact Heap.get?_push_size _ hf
  · exact Heap.get?_push_of_some _ (hi a ob e)
theorem Hd.push (x : Hd c fx σ kp im h) (o : Obj) (hf : o.isFreed = false) : Hd c fx σ kp (im.put h.objs.size o) (h.push o) :=
  x.grow (Ext.push x.hg.iin o) (fun _ _ e => Heap.get?_push_of_some _ e) (put_in x.hg.iin o hf)
theorem Hd.ext_push (x : Hd c fx σ kp im h) (o : Obj) : Ext kp im h (im.put h.objs.size o) (h.push o) := (Ext.push x.hg.iin o).weak x.kin
theorem Ext.push0 (kp : Im) (o : Obj) : Ext kp im h im (h.push o) := ⟨Le.refl _, fun _ _ e => .inl e⟩
theorem Hd.push0 (x : Hd c fx σ kp im h) (o : Obj) : Hd c fx σ kp im (h.push o) :=
  x.grow (Ext.push0 _ o) (fun _ _ e => Heap.get?_push_of_some _ e) fun a ob e => Heap.get?_push_of_some _ (x.hg.iin a ob e)
/-- all stays, nothing is relied on anew -/
theorem Hd.keeps (x : Hd c fx σ kp im h) (hk : ∀ a o, h.get? a = some o → h'.get? a = some o) : Hd c fx σ kp im h' :=
  x.grow ⟨Le.refl _, fun _ _ e => .inl e⟩ hk fun a ob e => hk _ _ (x.hg.iin a ob e)
end
section
variable {c : Cx} {n : Nat} {fx : Fx} {σ : St}
theorem We.mono {e : Expr} {k k' : D → Prop} (h : We c n fx σ e k) (hk : ∀ d, k d → k' d) : We c n fx σ e k' :=
  fun A kp im s Q E hA x hQ => h A kp im s Q E hA x fun v d im' h' tk' ex x' r kd => hQ v d im' h' tk' ex x' r (hk d kd)
theorem Wt.mono {e : Expr} {k k' : Bool → Prop} (h : Wt c n fx σ e k) (hk : ∀ d, k d → k' d) : Wt c n fx σ e k' :=
  fun A kp im s Q E hA x hQ => h A kp im s Q E hA x fun b im' h' tk' ex x' kd => hQ b im' h' tk' ex x' (hk b kd)
/-! constants -/
theorem We_int {i : Int} {q : Nat} {pos : Pos} {k : D → Prop} (hk : k (.int i)) : We c n fx σ (.Constant (.int i) q pos) k :=
  fun A kp im s Q E hA x hQ => wpAny_Constant_int (hQ _ _ im s.heap _ (Ext.refl _ _ _) x (.int _ _) hk)
theorem We_none {q : Nat} {pos : Pos} {k : D → Prop} (hk : k .none) : We c n fx σ (.Constant .none q pos) k :=
  fun A kp im s Q E hA x hQ => wpAny_Constant_none (hQ _ _ im s.heap s.toks (Ext.refl _ _ _) x .none hk)
theorem We_bool {b : Bool} {q : Nat} {pos : Pos} {k : D → Prop} (hk : k (.bool b)) : We c n fx σ (.Constant (.bool b) q pos) k :=
  fun A kp im s Q E hA x hQ => wpAny_Constant_bool (hQ _ _ im s.heap s.toks (Ext.refl _ _ _) x (.bool b) hk)
/-! names -/
theorem We_var {x : Str} {pos : Pos} {d : D} {k : D → Prop} (hv : σ.vars.lookup x = some d) (hk : k d)
    (hd : (x == ("__debug__" : Str)) = false := by decide) (hc : (x == ("__classdict__" : Str)) = false := by decide) : We c n fx σ (.Name x pos) k := by
  intro A kp im s Q E hA X hQ
  obtain ⟨m, hn, hvars⟩ := X.ns
  rcases hvars x d hv with ⟨k1, v, k2, k3⟩ | ⟨k1, a, v, k2, k3, k4⟩
  · exact wpAny_Name (wpAny_loadName_local X.kind k1 hn k2 (hQ _ _ im s.heap s.toks (Ext.refl _ _ _) X k3 hk)) hd
  · rcases k1 with k1 | k1
    · exact wpAny_Name (wpAny_loadName_cell X.kind k1 k2 k3 (hQ _ _ im s.heap s.toks (Ext.refl _ _ _) X k4 hk)) hd
    · exact wpAny_Name (wpAny_loadName_free X.kind k1 k2 k3 (hQ _ _ im s.heap s.toks (Ext.refl _ _ _) X k4 hk) hc) hd
theorem We_glob {x : Str} {pos : Pos} {v : Value} {d : D} {k : D → Prop} (hx : fx.env.kindOf x = some .globalImplicit) (e : nsIn c.K mainGlobals x = some (some v))
    (hr : ∀ im : Im, (∀ a o, c.K.lookup a = some o → im a = some o) → Rep im v d) (hk : k d) (hd : (x == ("__debug__" : Str)) = false := by decide) : We c n fx σ (.Name x pos) k := by
  intro A kp im s Q E hA X hQ
  refine Name_function_global X.kind hx (loadGlobal_global (mg := c.mg) (v := v) (by rw [X.glob]; exact c.g.keeps X.hg.gd) (mg_of c.X c.g e) ?_) hd
  exact hQ _ _ im s.heap s.toks (Ext.refl _ _ _) X (hr im X.hg.imK) hk
theorem We_globRaw {x : Str} {pos : Pos} {v : Value} {k : D → Prop} (hx : fx.env.kindOf x = some .globalImplicit) (e : nsIn c.K mainGlobals x = some (some v))
    (hk : k (.raw v)) (hd : (x == ("__debug__" : Str)) = false := by decide) : We c n fx σ (.Name x pos) k := We_glob hx e (fun _ _ => .raw v) hk hd
theorem We_blt {x : Str} {pos : Pos} {v : Value} {k : D → Prop} (hx : fx.env.kindOf x = some .globalImplicit) (e : nsIn c.K mainGlobals x = some none)
    (hv : bootBuiltins x = some v) (hn : x ≠ "__name__") (hk : k (.raw v)) (hd : (x == ("__debug__" : Str)) = false := by decide) : We c n fx σ (.Name x pos) k := by
  intro A kp im s Q E hA X hQ
  refine Name_function_global X.kind hx (loadGlobal_builtin (mg := c.mg) (mb := c.mb) (v := v) (by rw [X.glob]; exact c.g.keeps X.hg.gd) (mg_none_of c.X c.g e) (by rw [X.blt]; exact c.b.keeps X.hg.gd) ((c.bi x hn).trans hv) ?_) hd
  exact hQ _ _ im s.heap s.toks (Ext.refl _ _ _) X (.raw v) hk
/-! binary operators on ints -/
def binK (op : Operator) (d1 d2 : D) (k : D → Prop) : Prop :=
  match op, d1, d2 with
  | .Add, .int a, .int b => k (.int (a + b))
  | .Sub, .int a, .int b => k (.int (a - b))
  | .Mult, .int a, .int b => IntMulOk a b ∧ k (.int (a * b))
  | .FloorDiv, .int a, .int b => b ≠ 0 ∧ Builtin.divisionGoesByPylong a b = false ∧ k (.int (a.fdiv b))
  | .Mod, .int a, .int b => b ≠ 0 ∧ k (.int (a.fmod b))
  | _, _, _ => False
theorem binK_int {op : Operator} {d1 d2 : D} {k : D → Prop} (h : binK op d1 d2 k) : (∃ a, d1 = .int a) ∧ ∃ b, d2 = .int b := by
  unfold binK at h
  split at h <;> first | exact ⟨⟨_, rfl⟩, _, rfl⟩ | exact h.elim
theorem We_bin {l r : Expr} {op : Operator} {pos : Pos} {k : D → Prop} (h : We c n fx σ l fun d1 => We c n fx σ r fun d2 => binK op d1 d2 k) : We c n fx σ (.BinOp l op r pos) k := by
  intro A kp im s Q E hA X hQ
  refine wpAny_BinOp (h A kp im s _ E hA X fun v1 d1 im1 h1 tk1 ex1 X1 r1 k1 => ?_)
  refine k1 A kp im1 _ _ E hA X1 fun v2 d2 im2 h2 tk2 ex2 X2 r2 k2 => ?_
  have r1 := r1.mono ex2.le
  have ex := ex1.trans ex2
  obtain ⟨⟨a, rfl⟩, b, rfl⟩ := binK_int k2
  cases r1; cases r2
  unfold binK at k2
  cases op <;> dsimp only at k2 <;> try exact k2.elim
  · exact PySem.P.add_int (hQ _ _ im2 h2 _ ex X2 (.int _ _) k2)
  · exact PySem.P.sub_int (hQ _ _ im2 h2 _ ex X2 (.int _ _) k2)
  · exact PySem.P.mul_int (hQ _ _ im2 h2 _ ex X2 (.int _ _) k2.2) k2.1
  · exact PyProof.Rows.mod_int' k2.1 (hQ _ _ im2 h2 _ ex X2 (.int _ _) k2.2)
  · exact AutoIntOps.floordiv_1 (by simpa using k2.1) (by rw [k2.2.1]; decide) (hQ _ _ im2 h2 _ ex X2 (.int _ _) k2.2.2)
/-! comparisons -/
def isNone : D → Option Bool
  | .none => some true
  | .raw _ => none
  | _ => some false
theorem isNone_rep {im : Im} {v : Value} {d : D} {b : Bool} (r : Rep im v d) (h : isNone d = some b) : (v == Value.none) = b := by
  cases r <;> simp [isNone] at h <;> subst h <;> rfl
mutual
def pyD : D → PyData
  | .none => .none
  | .bool b => .bool b
  | .int i => .int i
  | .tup ds => .tuple (pyDs ds)
  | .lst ds => .list (pyDs ds)
  | _ => .none
def pyDs : List D → List PyData
  | [] => []
  | d :: ds => pyD d :: pyDs ds
end
/-- data that == reads, of a depth -/
def eqOk : Nat → D → Bool
  | _, .none => true
  | _, .int _ => true
  | n + 1, .tup ds => ds.all (eqOk n)
  | n + 1, .lst ds => ds.all (eqOk n)
  | _, _ => false
mutual
theorem rep_reads {im : Im} {h : Heap} (hi : ∀ a o, im a = some o → h.get? a = some o) : ∀ {v : Value} {d : D} (n : Nat), Rep im v d → eqOk n d = true → ∃ as, Reads h v (pyD d) as
  | _, _, _, .none, _ => ⟨_, by rw [pyD]; exact Reads.none⟩
  | _, _, n, .bool b, hk => by cases n <;> simp [eqOk] at hk
  | _, _, _, .int i t, _ => ⟨_, by rw [pyD]; exact Reads.int i t⟩
  | _, _, n, .raw v, hk => by cases n <;> simp [eqOk] at hk
  | _, _, n, .rng _, hk => by cases n <;> simp [eqOk] at hk
  | _, _, n, .obj _ _ _, hk => by cases n <;> simp [eqOk] at hk
  | _, _, 0, .tup _ _, hk => by simp [eqOk] at hk
  | _, _, 0, .lst _ _ _ _, hk => by simp [eqOk] at hk
  | _, _, n + 1, .tup hm r, hk => by
    obtain ⟨as, q⟩ := reps_reads hi n r (by simpa [eqOk] using hk)
    rw [pyD]
    exact ⟨as, Reads.tuple (hi _ _ hm) rfl rfl (by simpa using q)⟩
  | _, _, n + 1, .lst hm hc hd r, hk => by
    obtain ⟨as, q⟩ := reps_reads hi n r (by simpa [eqOk] using hk)
    rw [pyD]
    exact ⟨_, Reads.list (hi _ _ hm) hc hd (by simpa using q)⟩
theorem reps_reads {im : Im} {h : Heap} (hi : ∀ a o, im a = some o → h.get? a = some o) : ∀ {vs : List Value} {ds : List D} (n : Nat), Reps im vs ds → (∀ d ∈ ds, eqOk n d = true) → ∃ as, ReadsAll h vs (pyDs ds) as
  | _, _, _, .nil, _ => ⟨_, by rw [pyDs]; exact ReadsAll.nil⟩
  | _, _, n, .cons hd r, hk => by
    obtain ⟨as, q⟩ := rep_reads hi n hd (hk _ (.head _))
    obtain ⟨bs, p⟩ := reps_reads hi n r fun d hm => hk d (.tail _ hm)
    rw [pyDs]
    exact ⟨_, ReadsAll.cons q p⟩
end
theorem eqOk_lay : ∀ (n : Nat) (d : D), eqOk n d = true → (pyD d).canLay0 = true ∧ (pyD d).depth ≤ n := by
  intro n
  induction n with
  | zero => intro d hk; cases d <;> simp [eqOk] at hk <;> simp [pyD, PyData.canLay0, PyData.depth]
  | succ n ih =>
    have all : ∀ ds : List D, (∀ d ∈ ds, eqOk n d = true) → PyData.canLayAll0 (pyDs ds) = true ∧ PyData.depthAll (pyDs ds) ≤ n := by
      intro ds
      induction ds with
      | nil => intro _; simp [pyDs, PyData.canLayAll0, PyData.depthAll]
      | cons d ds ih2 =>
        intro hk
        obtain ⟨h1, h2⟩ := ih d (hk d (.head _))
        obtain ⟨h3, h4⟩ := ih2 fun e he => hk e (.tail _ he)
        refine ⟨by simp [pyDs, PyData.canLayAll0, h1, h3], ?_⟩
        simp only [pyDs, PyData.depthAll]; omega
    intro d hk
    cases d with
    | none => simp [pyD, PyData.canLay0, PyData.depth]
    | int i => simp [pyD, PyData.canLay0, PyData.depth]
    | tup ds =>
      obtain ⟨h1, h2⟩ := all ds (by simpa [eqOk] using hk)
      refine ⟨by simpa [pyD, PyData.canLay0] using h1, ?_⟩
      simp only [pyD, PyData.depth]; omega
    | lst ds =>
      obtain ⟨h1, h2⟩ := all ds (by simpa [eqOk] using hk)
      refine ⟨by simpa [pyD, PyData.canLay0] using h1, ?_⟩
      simp only [pyD, PyData.depth]; omega
    | _ => simp [eqOk] at hk
theorem eqOk_refl : ∀ (n : Nat) (d : D), eqOk n d = true → PyData.eqv (pyD d) (pyD d) = true := by
  intro n
  induction n with
  | zero => intro d hk; cases d <;> simp [eqOk] at hk <;> simp [pyD, PyData.eqv]
  | succ n ih =>
    have all : ∀ ds : List D, (∀ d ∈ ds, eqOk n d = true) → PyData.eqvAll (pyDs ds) (pyDs ds) = true := by
      intro ds
      induction ds with
      | nil => intro _; simp [pyDs, PyData.eqvAll]
      | cons d ds ih2 =>
        intro hk
        simp [pyDs, PyData.eqvAll, ih d (hk d (.head _)), ih2 fun e he => hk e (.tail _ he)]
    intro d hk
    cases d with
    | none => simp [pyD, PyData.eqv]
    | int i => simp [pyD, PyData.eqv]
    | tup ds => simpa [pyD, PyData.eqv] using all ds (by simpa [eqOk] using hk)
    | lst ds => simpa [pyD, PyData.eqv] using all ds (by simpa [eqOk] using hk)
    | _ => simp [eqOk] at hk
/-- what a comparison gives; == and != of made data where both are the same -/
def cmpK (op : CmpOp) (d1 d2 : D) (k : Bool → Prop) : Prop :=
  match op, d1, d2 with
  | .Eq, .int a, .int b => k (a == b)
  | .NotEq, .int a, .int b => k (a != b)
  | .Lt, .int a, .int b => k (decide (a < b))
  | .LtE, .int a, .int b => k (decide (a ≤ b))
  | .Gt, .int a, .int b => k (decide (a > b))
  | .GtE, .int a, .int b => k (decide (a ≥ b))
  | .Is, d, .none => ∃ b, isNone d = some b ∧ k b
  | .IsNot, d, .none => ∃ b, isNone d = some b ∧ k (!b)
  | .NotEq, .lst a, .lst b => a = b ∧ eqOk 9 (.lst a) = true ∧ k false
  | _, _, _ => False
theorem cmp_any {A : Around} {s : Shared} {im : Im} {op : CmpOp} {v1 v2 : Value} {d1 d2 : D} {k : Bool → Prop} {Q : Value → Shared → Prop} {E : Value → Shared → Prop} (hA : AOk (n + 4) A) (hi : ∀ a o, im a = some o → s.heap.get? a = some o)
    (r1 : Rep im v1 d1) (r2 : Rep im v2 d2) (h : cmpK op d1 d2 k) (hQ : ∀ b, k b → Q (.bool b) s) : wpAny c.M A (compareOp op v1 v2) Q E s := by
  unfold cmpK at h
  split at h
  · cases r1; cases r2; exact PySem.P.eq_int (hQ _ h)
  · cases r1; cases r2; exact PySem.P.ne_int (hQ _ h)
  · cases r1; cases r2; exact PySem.P.lt_int (hQ _ h)
  · cases r1; cases r2; exact PySem.P.le_int (hQ _ h)
  · cases r1; cases r2; exact PySem.P.gt_int (hQ _ h)
  · cases r1; cases r2; exact PySem.P.ge_int (hQ _ h)
  · obtain ⟨b, e, hb⟩ := h
    cases r2
    exact is_none (by rw [isNone_rep r1 e]; exact hQ _ hb)
  · obtain ⟨b, e, hb⟩ := h
    cases r2
    exact isNot_none (by rw [isNone_rep r1 e]; exact hQ _ hb)
  · rename_i a b
    obtain ⟨rfl, ok, hb⟩ := h
    obtain ⟨as, ra⟩ := rep_reads hi 9 r1 ok
    obtain ⟨bs, rb⟩ := rep_reads hi 9 r2 ok
    have l := eqOk_lay 9 _ ok
    have sh : SeqAt.shaped (pyD (.lst a)) = true := by unfold SeqAt.shaped; rw [l.1, Bool.true_and]; exact decide_eq_true (Nat.le_trans l.2 (by decide))
    refine ne_dataH ra rb sh sh (by have := hA.2.2; omega) ?_
    rw [eqOk_refl 9 _ ok]; exact hQ _ hb
  · exact h.elim
theorem We_cmp {l r : Expr} {op : CmpOp} {pos : Pos} {k : D → Prop} (h : We c (n + 4) fx σ l fun d1 => We c (n + 4) fx σ r fun d2 => cmpK op d1 d2 fun b => k (.bool b)) (hm : behindInMarks op r = false := by with_unfolding_all rfl) :
    We c (n + 4) fx σ (.Compare l [op] [r] pos) k := by
  intro A kp im s Q E hA X hQ
  refine wpAny_Compare1 (h A kp im s _ E hA X fun v1 d1 im1 h1 tk1 ex1 X1 r1 k1 => ?_) hm
  refine k1 A kp im1 _ _ E hA X1 fun v2 d2 im2 h2 tk2 ex2 X2 r2 k2 => ?_
  exact cmp_any hA X2.hg.iin (r1.mono ex2.le) r2 k2 fun b kb => hQ _ _ im2 h2 _ (ex1.trans ex2) X2 (.bool b) kb
/-! tests -/
theorem Wt_cmp {l r : Expr} {op : CmpOp} {pos : Pos} {k : Bool → Prop} (h : We c (n + 4) fx σ l fun d1 => We c (n + 4) fx σ r fun d2 => cmpK op d1 d2 k) (hm : behindInMarks op r = false := by with_unfolding_all rfl) :
    Wt c (n + 4) fx σ (.Compare l [op] [r] pos) k := by
  intro A kp im s Q E hA X hQ
  refine wpAny_isTrue_Compare1 (h A kp im s _ E hA X fun v1 d1 im1 h1 tk1 ex1 X1 r1 k1 => ?_) hm
  refine k1 A kp im1 _ _ E hA X1 fun v2 d2 im2 h2 tk2 ex2 X2 r2 k2 => ?_
  exact cmp_any hA X2.hg.iin (r1.mono ex2.le) r2 k2 fun b kb => wpAny_truthy_bool (hQ _ im2 h2 _ (ex1.trans ex2) X2 kb)
theorem Wt_not {x : Expr} {pos : Pos} {k : Bool → Prop} (h : Wt c n fx σ x fun b => k (!b)) : Wt c n fx σ (.UnaryOp .Not x pos) k := by
  intro A kp im s Q E hA X hQ
  exact wpAny_isTrue_Not (h A kp im s _ E hA X fun b im' h' tk' ex X' kb => hQ _ im' h' tk' ex X' kb)
/-- a value's own truth: a bool -/
theorem Wt_val {e : Expr} {k : Bool → Prop} (h : We c n fx σ e fun d => ∃ b, d = .bool b ∧ k b)
    (he : isTrue e fx.env (eval e fx.env) = (do let v ← eval e fx.env; standAt e.pos; holding [v] (truthy v)) := by rfl) : Wt c n fx σ e k := by
  intro A kp im s Q E hA X hQ
  refine wpAny_isTrue_value (h A kp im s _ E hA X fun v d im' h' tk' ex X' r kd => ?_) he
  obtain ⟨b, rfl, kb⟩ := kd
  cases r
  exact wpAny_truthy_bool (hQ _ im' h' _ ex X' kb)
def Wta (c : Cx) (n : Nat) (fx : Fx) (σ : St) (op : BoolOp) (es : List Expr) (k : Bool → Prop) : Prop :=
  ∀ (A : Around) (kp im : Im) (s : Shared) (Q : Bool → Shared → Prop) (E : Value → Shared → Prop), AOk n A → Hd c fx σ kp im s.heap →
    (∀ b im' h' tk', Ext kp im s.heap im' h' → Hd c fx σ kp im' h' → k b → Q b { s with heap := h', toks := tk' }) → wpAny c.M A (allTrue op es fx.env) Q E s
theorem Wt_boolop {op : BoolOp} {es : List Expr} {pos : Pos} {k : Bool → Prop} (h : Wta c n fx σ op es k) : Wt c n fx σ (.BoolOp op es pos) k :=
  fun A kp im s Q E hA X hQ => wpAny_isTrue_BoolOp (h A kp im s Q E hA X hQ)
theorem Wta_or_nil {k : Bool → Prop} (h : k false) : Wta c n fx σ .Or [] k := fun A kp im s Q E hA X hQ => wpAny_allTrue_Or_nil (hQ _ im s.heap s.toks (Ext.refl _ _ _) X h)
theorem Wta_and_nil {k : Bool → Prop} (h : k true) : Wta c n fx σ .And [] k := fun A kp im s Q E hA X hQ => wpAny_allTrue_And_nil (hQ _ im s.heap s.toks (Ext.refl _ _ _) X h)
theorem Wta_or {e : Expr} {es : List Expr} {k : Bool → Prop} (h : Wt c n fx σ e fun b => if b = true then k true else Wta c n fx σ .Or es k) : Wta c n fx σ .Or (e :: es) k := by
  intro A kp im s Q E hA X hQ
  refine wpAny_allTrue_Or_cons (h A kp im s _ E hA X fun b im' h' tk' ex X' kb => ?_)
  cases b with
  | true => exact hQ _ im' h' tk' ex X' kb
  | false =>
    have kb' : Wta c n fx σ .Or es k := by simpa using kb
    simpa using kb' A kp im' { s with heap := h', toks := tk' } Q E hA X' fun b im2 h2 tk2 ex2 X2 kb2 => hQ _ im2 h2 tk2 (ex.trans ex2) X2 kb2
theorem Wta_and {e : Expr} {es : List Expr} {k : Bool → Prop} (h : Wt c n fx σ e fun b => if b = true then Wta c n fx σ .And es k else k false) : Wta c n fx σ .And (e :: es) k := by
  intro A kp im s Q E hA X hQ
  refine wpAny_allTrue_And_cons (h A kp im s _ E hA X fun b im' h' tk' ex X' kb => ?_)
  cases b with
  | false => exact hQ _ im' h' tk' ex X' (by simpa using kb)
  | true =>
    have kb' : Wta c n fx σ .And es k := by simpa using kb
    simpa using kb' A kp im' { s with heap := h', toks := tk' } Q E hA X' fun b im2 h2 tk2 ex2 X2 kb2 => hQ _ im2 h2 tk2 (ex.trans ex2) X2 kb2
/-! and, or, if as values -/
theorem We_or2 {x y : Expr} {pos : Pos} {k : D → Prop} (h : We c n fx σ x fun d => ∃ b, d = .bool b ∧ if b = true then k (.bool true) else We c n fx σ y k) : We c n fx σ (.BoolOp .Or [x, y] pos) k := by
  intro A kp im s Q E hA X hQ
  refine wpAny_Or2 (h A kp im s _ E hA X fun v d im' h' tk' ex X' r kd => ?_)
  obtain ⟨b, rfl, kb⟩ := kd
  cases r
  refine wpAny_truthy_bool ?_
  cases b with
  | true => simpa using hQ _ _ im' h' tk' ex X' (.bool true) (by simpa using kb)
  | false =>
    have kb' : We c n fx σ y k := by simpa using kb
    simpa using kb' A kp im' { s with heap := h', toks := tk' } Q E hA X' fun v d im2 h2 tk2 ex2 X2 r2 kd2 => hQ _ _ im2 h2 tk2 (ex.trans ex2) X2 r2 kd2
theorem We_and2 {x y : Expr} {pos : Pos} {k : D → Prop} (h : We c n fx σ x fun d => ∃ b, d = .bool b ∧ if b = true then We c n fx σ y k else k (.bool false)) : We c n fx σ (.BoolOp .And [x, y] pos) k := by
  intro A kp im s Q E hA X hQ
  refine wpAny_And2 (h A kp im s _ E hA X fun v d im' h' tk' ex X' r kd => ?_)
  obtain ⟨b, rfl, kb⟩ := kd
  cases r
  refine wpAny_truthy_bool ?_
  cases b with
  | false => simpa using hQ _ _ im' h' tk' ex X' (.bool false) (by simpa using kb)
  | true =>
    have kb' : We c n fx σ y k := by simpa using kb
    simpa using kb' A kp im' { s with heap := h', toks := tk' } Q E hA X' fun v d im2 h2 tk2 ex2 X2 r2 kd2 => hQ _ _ im2 h2 tk2 (ex.trans ex2) X2 r2 kd2
theorem We_ifexp {t x y : Expr} {pos : Pos} {k : D → Prop} (h : Wt c n fx σ t fun b => if b = true then We c n fx σ x k else We c n fx σ y k) : We c n fx σ (.IfExp t x y pos) k := by
  intro A kp im s Q E hA X hQ
  refine wpAny_IfExp (h A kp im s _ E hA X fun b im' h' tk' ex X' kb => ?_)
  cases b with
  | true =>
    have kb' : We c n fx σ x k := by simpa using kb
    simpa using kb' A kp im' { s with heap := h', toks := tk' } Q E hA X' fun v d im2 h2 tk2 ex2 X2 r2 kd2 => hQ _ _ im2 h2 tk2 (ex.trans ex2) X2 r2 kd2
  | false =>
    have kb' : We c n fx σ y k := by simpa using kb
    simpa using kb' A kp im' { s with heap := h', toks := tk' } Q E hA X' fun v d im2 h2 tk2 ex2 X2 r2 kd2 => hQ _ _ im2 h2 tk2 (ex.trans ex2) X2 r2 kd2
/-! lists of expressions; displays -/
theorem Wes_nil {pos : Pos} {k : List D → Prop} (h : k []) : Wes c n fx σ pos [] k := fun A kp im s Q E hA X hQ => wpAny_items_nil (hQ _ _ im s.heap s.toks (Ext.refl _ _ _) X .nil h)
theorem Wes_cons {pos : Pos} {e : Expr} {es : List Expr} {k : List D → Prop} (h : We c n fx σ e fun d => Wes c n fx σ pos es fun ds => k (d :: ds))
    (he : starEach (e :: es) fx.env = (false, eval e fx.env) :: starEach es fx.env := by rfl) : Wes c n fx σ pos (e :: es) k := by
  intro A kp im s Q E hA X hQ
  refine wpAny_items_cons (h A kp im s _ E hA X fun v d im1 h1 tk1 ex1 X1 r1 k1 => ?_) he
  exact k1 A kp im1 _ _ E hA X1 fun vs ds im2 h2 tk2 ex2 X2 r2 k2 => hQ _ _ im2 h2 tk2 (ex1.trans ex2) X2 (.cons (r1.mono ex2.le) r2) k2
theorem We_tuple {es : List Expr} {q : Nat} {pos : Pos} {k : D → Prop} (h : Wes c n fx σ pos es fun ds => ds.length ≤ sizeLine ∧ k (.tup ds)) : We c n fx σ (.Tuple es q pos) k := by
  intro A kp im s Q E hA X hQ
  refine wpAny_Tuple (h A kp im s _ E hA X fun vs ds im' h' tk' ex X' r kd => ⟨by rw [r.length]; exact kd.1, ?_⟩)
  refine hQ _ _ _ _ _ (ex.trans (X'.ext_push _)) (X'.push _ rfl) (.tup (n := 0) (Im.put_self _ _ _) (r.mono (Ext.push X'.hg.iin _).le)) kd.2
theorem We_list {es : List Expr} {pos : Pos} {k : D → Prop} (h : Wes c n fx σ pos es fun ds => ds.length ≤ sizeLine ∧ k (.lst ds)) : We c n fx σ (.List es pos) k := by
  intro A kp im s Q E hA X hQ
  refine wpAny_List (h A kp im s _ E hA X fun vs ds im' h' tk' ex X' r kd => ⟨by rw [r.length]; exact kd.1, ?_⟩)
  refine hQ _ _ _ _ _ (ex.trans (X'.ext_push _)) (X'.push _ rfl) (.lst (n := 0) (Im.put_self _ _ _) rfl rfl (r.mono (Ext.push X'.hg.iin _).le)) kd.2
end
section
variable {c : Cx} {n : Nat} {fx : Fx} {σ : St}
def Fresh (fx : Fx) (σ : St) (kp im : Im) (a : Addr) : Prop := im a = none ∧ kp a = none ∧ a ∉ fx.env.locals :: (fx.wr ++ σ.own.addrs)
theorem Fresh.of {c : Cx} {fx : Fx} {σ : St} {kp im : Im} {h : Heap} (X : Hd c fx σ kp im h) {a : Addr} (ha : h.get? a = none) : Fresh fx σ kp im a := by
  refine ⟨?_, ?_, fun q => ?_⟩
  · cases q : im a with
    | none => rfl
    | some o => rw [X.hg.iin _ _ q] at ha; cases ha
  · cases q : kp a with
    | none => rfl
    | some o => rw [X.kin _ _ q] at ha; cases ha
  · obtain ⟨_, _, o, e⟩ := X.off a q
    rw [e] at ha; cases ha
/-- the value is a new list, not yet relied on -/
def Wf (c : Cx) (n : Nat) (fx : Fx) (σ : St) (e : Expr) (k : List D → Prop) : Prop :=
  ∀ (A : Around) (kp im : Im) (s : Shared) (Q : Value → Shared → Prop) (E : Value → Shared → Prop), AOk n A → Hd c fx σ kp im s.heap →
    (∀ a vs m ds im' h' tk', Ext kp im s.heap im' h' → Hd c fx σ kp im' h' → h'.get? a = some (lo vs m) → Reps im' vs ds → Fresh fx σ kp im' a → k ds → Q (.ref a) { s with heap := h', toks := tk' }) →
    wpAny c.M A (eval e fx.env) Q E s
theorem Hd.put {kp im : Im} {h : Heap} (X : Hd c fx σ kp im h) {a : Addr} {o : Obj} (ho : h.get? a = some o) (ha : im a = none) (hn : a ∉ fx.env.locals :: (fx.wr ++ σ.own.addrs)) : Hd c fx σ kp (im.put a o) h := by
  have le : Le im (im.put a o) := fun b ob e => by
    have : b ≠ a := fun q => by rw [q, ha] at e; cases e
    rw [Im.put_ne _ _ this]; exact e
  refine ⟨X.kind, X.cap, X.cel, X.glob, X.blt, ⟨X.hg.gd, fun b ob e => le _ _ (X.hg.imK b ob e), fun b ob e => ?_⟩, X.gk, X.kin, ?_, X.nodup, fun b hb => ?_, fun p hp => (X.own p hp).mono le fun _ _ _ e => e, X.wrc⟩
  · unfold Im.put at e
    split at e
    · rename_i q; subst q; cases e; exact ho
    · exact X.hg.iin _ _ e
  · obtain ⟨m, hn, hv⟩ := X.ns
    refine ⟨m, hn, fun y d hd => ?_⟩
    rcases hv y d hd with ⟨k1, v, k2, k3⟩ | ⟨k1, b, v, k2, k3, k4⟩
    · exact .inl ⟨k1, v, k2, k3.mono le⟩
    · exact .inr ⟨k1, b, v, k2, k3, k4.mono le⟩
  · obtain ⟨h1, h2, h3⟩ := X.off b hb
    refine ⟨h1, ?_, h3⟩
    have : b ≠ a := fun q => hn (q ▸ hb)
    rw [Im.put_ne _ _ this]; exact h2
theorem We_of_Wf {e : Expr} {k : D → Prop} (h : Wf c n fx σ e fun ds => k (.lst ds)) : We c n fx σ e k := by
  intro A kp im s Q E hA X hQ
  refine h A kp im s Q E hA X fun a vs m ds im' h' tk' ex X' ho r hf kd => ?_
  have X2 := X'.put ho hf.1 hf.2.2
  have le : Le im' (im'.put a (lo vs m)) := fun b ob e => by
    have : b ≠ a := fun q => by rw [q, hf.1] at e; cases e
    rw [Im.put_ne _ _ this]; exact e
  refine hQ _ _ (im'.put a (lo vs m)) h' tk' (ex.trans ⟨le, fun b ob e => ?_⟩) X2 (.lst (Im.put_self _ _ _) rfl rfl (r.mono le)) kd
  unfold Im.put at e
  split at e
  · rename_i q; subst q; exact .inr hf.2.1
  · exact .inl e
theorem Wf_list {es : List Expr} {pos : Pos} {k : List D → Prop} (h : Wes c n fx σ pos es fun ds => ds.length ≤ sizeLine ∧ k ds) : Wf c n fx σ (.List es pos) k := by
  intro A kp im s Q E hA X hQ
  refine wpAny_List (h A kp im s _ E hA X fun vs ds im' h' tk' ex X' r kd => ⟨by rw [r.length]; exact kd.1, ?_⟩)
  refine hQ _ vs 0 ds im' _ _ (ex.trans (Ext.push0 _ _)) (X'.push0 _) (Heap.get?_push_size _ rfl) r (Fresh.of X' (size_none _)) kd.2
/-! calls of the text's functions -/
theorem We_call {x : Str} {p pos : Pos} {e : Expr} {es : List Expr} {f : Addr} {k : D → Prop} (hx : fx.env.kindOf x = some .globalImplicit) (hf : nsIn c.K mainGlobals x = some (some (.ref f))) (hk : keepIn c.K (.ref f) = true)
    (h : Wes c n fx σ pos (e :: es) fun ds => Fc c n f ds k) (he : starEach (e :: es) fx.env = (false, eval e fx.env) :: starEach es fx.env := by rfl) (hplain : (backTo pos (starEach es fx.env)).any (·.1) = false := by rfl)
    (hd : (x == ("__debug__" : Str)) = false := by decide) :
    We c n fx σ (.Call (.Name x p) (e :: es) [] pos) k := by
  intro A kp im s Q E hA X hQ
  refine Call_ (We_globRaw (k := fun d => d = .raw (.ref f)) hx hf rfl hd A kp im s _ E hA X fun v d im1 h1 tk1 ex1 X1 r1 k1 => ?_)
  subst k1
  cases r1
  refine callWith_K (h₀ := c.G) (K := c.K) c.X hk (h A kp im1 _ _ E hA X1 fun vs ds im2 h2 tk2 ex2 X2 r2 k2 => ?_) he hplain
  refine ⟨c.X.keeps X2.hg.gd, ?_⟩
  refine k2 A im2 _ Q E vs hA X2.hg r2 fun v d im3 h3 tk3 ex3 hk3 hg3 r3 k3 => ?_
  exact hQ v d im3 h3 tk3 ((ex1.trans ex2).trans (ex3.weak X2.kin)) (X2.grow ex3 hk3 hg3.iin) r3 k3
/-- a call of a built-in function upon values -/
def Bc (c : Cx) (n : Nat) (σ : St) (f : Value) (ds : List D) (k : D → Prop) : Prop :=
  ∀ (A : Around) (fx : Fx) (kp im : Im) (s : Shared) (Q : Value → Shared → Prop) (E : Value → Shared → Prop) (vs : List Value), AOk n A → Hd c fx σ kp im s.heap → Reps im vs ds →
    (∀ v d im' h' tk', Ext kp im s.heap im' h' → Hd c fx σ kp im' h' → Rep im' v d → k d → Q v { s with heap := h', toks := tk' }) → wpAny c.M A (call f vs) Q E s
theorem We_bcall {x : Str} {p pos : Pos} {e : Expr} {es : List Expr} {id : String} {k : D → Prop} (hx : fx.env.kindOf x = some .globalImplicit) (hm : nsIn c.K mainGlobals x = some none) (hv : bootBuiltins x = some (.builtin id)) (hn : x ≠ "__name__")
    (h : Wes c n fx σ pos (e :: es) fun ds => Bc c n σ (.builtin id) ds k) (he : starEach (e :: es) fx.env = (false, eval e fx.env) :: starEach es fx.env := by rfl) (hplain : (backTo pos (starEach es fx.env)).any (·.1) = false := by rfl)
    (hd : (x == ("__debug__" : Str)) = false := by decide) :
    We c n fx σ (.Call (.Name x p) (e :: es) [] pos) k := by
  intro A kp im s Q E hA X hQ
  refine Call_ (We_blt (k := fun d => d = .raw (.builtin id)) hx hm hv hn rfl hd A kp im s _ E hA X fun v d im1 h1 tk1 ex1 X1 r1 k1 => ?_)
  subst k1
  cases r1
  have hp : (backTo pos (starEach (e :: es) fx.env)).any (·.1) = false := by rw [he]; exact hplain
  refine Calls.callWith_builtin hp ?_
  rw [he]
  refine Calls.evalArgs_plain ?_
  have h2 := h A kp im1 { s with heap := h1, toks := tk1 }
  rw [he] at h2
  refine h2 _ E hA X1 fun vs ds im2 h2 tk2 ex2 X2 r2 k2 => ?_
  exact k2 A fx kp im2 _ Q E vs hA X2 r2 fun v d im3 h3 tk3 ex3 X3 r3 k3 => hQ v d im3 h3 tk3 ((ex1.trans ex2).trans ex3) X3 r3 k3
theorem We_tcall {x : Str} {p pos : Pos} {e : Expr} {es : List Expr} {id : String} {k : D → Prop} (hx : fx.env.kindOf x = some .globalImplicit) (hm : nsIn c.K mainGlobals x = some none) (hv : bootBuiltins x = some (.type id)) (hn : x ≠ "__name__")
    (h : Wes c n fx σ pos (e :: es) fun ds => Bc c n σ (.type id) ds k) (he : starEach (e :: es) fx.env = (false, eval e fx.env) :: starEach es fx.env := by rfl) (hplain : (backTo pos (starEach es fx.env)).any (·.1) = false := by rfl)
    (hd : (x == ("__debug__" : Str)) = false := by decide) :
    We c n fx σ (.Call (.Name x p) (e :: es) [] pos) k := by
  intro A kp im s Q E hA X hQ
  refine Call_ (We_blt (k := fun d => d = .raw (.type id)) hx hm hv hn rfl hd A kp im s _ E hA X fun v d im1 h1 tk1 ex1 X1 r1 k1 => ?_)
  subst k1
  cases r1
  refine PyProof.Rows.callWith_type1 (h A kp im1 _ _ E hA X1 fun vs ds im2 h2 tk2 ex2 X2 r2 k2 => ?_) he hplain
  exact k2 A fx kp im2 _ Q E vs hA X2 r2 fun v d im3 h3 tk3 ex3 X3 r3 k3 => hQ v d im3 h3 tk3 ((ex1.trans ex2).trans ex3) X3 r3 k3
/-- a list that is read: frozen or owned -/
def lstOf (σ : St) : D → List D → Prop
  | .lst es, ds => es = ds
  | .raw (.ref a), ds => (a, AO.lst ds) ∈ σ.own
  | _, _ => False
theorem lstOf_at {kp im : Im} {h : Heap} (X : Hd c fx σ kp im h) {v : Value} {d : D} {ds : List D} (r : Rep im v d) (hl : lstOf σ d ds) : ∃ a vs, v = .ref a ∧ h.IsList a vs.toArray ∧ Reps im vs ds := by
  cases r with
  | lst e f g r => cases hl; exact ⟨_, _, rfl, ⟨_, X.hg.iin _ _ e, f, _, g⟩, r⟩
  | raw v =>
    cases v <;> first | exact hl.elim | skip
    rename_i a
    obtain ⟨vs, n, h1, h2⟩ := X.own _ hl
    exact ⟨a, vs, rfl, ⟨_, h1, rfl, _, rfl⟩, h2⟩
  | _ => exact hl.elim
theorem Bc_len {d : D} {ds : List D} {k : D → Prop} (hl : lstOf σ d ds) (hs : (ds.length : Int) < 2 ^ 63) (hk : k (.int ds.length)) : Bc c n σ (.builtin "len") [d] k := by
  intro A fx kp im s Q E vs hA X r hQ
  cases r with
  | cons r1 r2 =>
    cases r2
    obtain ⟨a, vs, rfl, h1, h2⟩ := lstOf_at X r1 hl
    have e : (vs.toArray.size : Int) = ds.length := by rw [List.size_toArray, h2.length]
    refine call_len_list h1 (by rw [e]; exact hs) ?_
    rw [e]
    exact hQ _ _ im s.heap _ (Ext.refl _ _ _) X (.int _ _) hk
theorem Bc_abs {i : Int} {k : D → Prop} (hk : k (.int (if i < 0 then -i else i))) : Bc c n σ (.builtin "abs") [.int i] k := by
  intro A fx kp im s Q E vs hA X r hQ
  cases r with
  | cons r1 r2 =>
    cases r2; cases r1
    exact call_abs_int fun u tk => hQ _ _ im s.heap tk (Ext.refl _ _ _) X (.int _ _) hk
theorem Bc_max {i j : Int} {k : D → Prop} (hk : k (.int (if j > i then j else i))) : Bc c n σ (.builtin "max") [.int i, .int j] k := by
  intro A fx kp im s Q E vs hA X r hQ
  cases r with
  | cons r1 r2 =>
    cases r2 with
    | cons r2 r3 =>
      cases r3; cases r1; cases r2
      refine max_two_ints hA.1 fun h' tk hk' => ?_
      have X' := X.keeps hk'
      split <;> rename_i q
      · rw [if_pos q] at hk; exact hQ _ _ im h' tk ⟨Le.refl _, fun _ _ e => .inl e⟩ X' (.int _ _) hk
      · rw [if_neg q] at hk; exact hQ _ _ im h' tk ⟨Le.refl _, fun _ _ e => .inl e⟩ X' (.int _ _) hk
theorem Bc_range1 {b : Int} {k : D → Prop} (hk : k (.rng 0 b 1)) : Bc c n σ (.type "range") [.int b] k := by
  intro A fx kp im s Q E vs hA X r hQ
  cases r with
  | cons r1 r2 =>
    cases r2; cases r1
    exact call_range_1 (hQ _ _ _ _ _ (X.ext_push _) (X.push _ rfl) (.rng (Im.put_self _ _ _)) hk)
theorem Bc_range2 {a b : Int} {k : D → Prop} (hk : k (.rng a b 1)) : Bc c n σ (.type "range") [.int a, .int b] k := by
  intro A fx kp im s Q E vs hA X r hQ
  cases r with
  | cons r1 r2 =>
    cases r2 with
    | cons r2 r3 =>
      cases r3; cases r1; cases r2
      exact call_range_2 (hQ _ _ _ _ _ (X.ext_push _) (X.push _ rfl) (.rng (Im.put_self _ _ _)) hk)
theorem Bc_range3 {a b z : Int} {k : D → Prop} (hz : z ≠ 0) (hp : Builtin.divisionGoesByPylong (b - a) z = false) (hk : k (.rng a b z)) : Bc c n σ (.type "range") [.int a, .int b, .int z] k := by
  intro A fx kp im s Q E vs hA X r hQ
  cases r with
  | cons r1 r2 =>
    cases r2 with
    | cons r2 r3 =>
      cases r3 with
      | cons r3 r4 =>
        cases r4; cases r1; cases r2; cases r3
        exact call_range_3 hz (hQ _ _ _ _ _ (X.ext_push _) (X.push _ rfl) (.rng (Im.put_self _ _ _)) hk) (.inl hp)
/-- list(xs) -/
theorem Wf_copy {x : Str} {p pos : Pos} {e : Expr} {k : List D → Prop} (hx : fx.env.kindOf x = some .globalImplicit) (hm : nsIn c.K mainGlobals x = some none) (hv : bootBuiltins x = some (.type "list")) (hn : x ≠ "__name__")
    (h : We c n fx σ e fun d => ∃ ds, lstOf σ d ds ∧ ds.length ≤ sizeLine ∧ k ds) (he : starEach [e] fx.env = (false, eval e fx.env) :: starEach [] fx.env := by rfl) (hd : (x == ("__debug__" : Str)) = false := by decide) :
    Wf c n fx σ (.Call (.Name x p) [e] [] pos) k := by
  intro A kp im s Q E hA X hQ
  refine Call_ (We_blt (k := fun d => d = .raw (.type "list")) hx hm hv hn rfl hd A kp im s _ E hA X fun v d im1 h1 tk1 ex1 X1 r1 k1 => ?_)
  subst k1
  cases r1
  refine PyProof.Rows.callWith_type1 (Wes_cons (pos := pos) (es := []) (k := fun ds => ∃ d es, ds = [d] ∧ lstOf σ d es ∧ es.length ≤ sizeLine ∧ k es) (We.mono h fun d hd => Wes_nil ?_) he A kp im1 _ _ E hA X1 fun vs ds im2 h2 tk2 ex2 X2 r2 k2 => ?_) he rfl
  · obtain ⟨ds, a, b, e⟩ := hd; exact ⟨d, ds, rfl, a, b, e⟩
  obtain ⟨d, es, rfl, hl, hs, hk⟩ := k2
  cases r2 with
  | cons r2 r3 =>
    cases r3
    obtain ⟨a, vs, rfl, ⟨o, ho, hc, m, hd⟩, hr⟩ := lstOf_at X2 r2 hl
    refine call_list_seq (o := o) a (.inl rfl) ho hc hd (fun h' c' hk' hD => ?_) (by rw [List.size_toArray, hr.length]; exact hs)
    exact hQ _ vs c' es im2 h' _ ((ex1.trans ex2).trans ⟨Le.refl _, fun _ _ e => .inl e⟩) (X2.keeps hk') hD hr (Fresh.of X2 (size_none _)) hk
/-! items -/
def itemK (σ : St) (d1 d2 : D) (k : D → Prop) : Prop :=
  match d1, d2 with
  | .tup ds, .int i => ∃ j d, -(2 ^ 63) ≤ i ∧ i < 2 ^ 63 ∧ seqIndex? i ds.length = some j ∧ ds[j]? = some d ∧ k d
  | .lst ds, .int i => ∃ d, 0 ≤ i ∧ i < 2 ^ 63 ∧ ds[i.toNat]? = some d ∧ k d
  | .raw (.ref a), .int i => ∃ ds d, (a, AO.lst ds) ∈ σ.own ∧ ((0 ≤ i ∧ i < 2 ^ 63 ∧ ds[i.toNat]? = some d) ∨ (i < 0 ∧ -(ds.length : Int) ≤ i ∧ -(2 ^ 63) ≤ i ∧ ds[(i + ds.length).toNat]? = some d)) ∧ k d
  | _, _ => False
theorem We_item {l r : Expr} {pos : Pos} {k : D → Prop} (h : We c n fx σ l fun d1 => We c n fx σ r fun d2 => itemK σ d1 d2 k)
    (hs : ∀ o i, subscripted r false o i = operate [o, i] (getItem o i) := by intro _ _; rfl) : We c n fx σ (.Subscript l r pos) k := by
  intro A kp im s Q E hA X hQ
  refine Subscript_ (h A kp im s _ E hA X fun v1 d1 im1 h1 tk1 ex1 X1 r1 k1 => ?_)
  refine k1 A kp im1 _ _ E hA X1 fun v2 d2 im2 h2 tk2 ex2 X2 r2 k2 => ?_
  have r1 := r1.mono ex2.le
  have ex := ex1.trans ex2
  have k2 : itemK σ d1 d2 k := k2
  unfold itemK at k2
  split at k2
  · obtain ⟨j, d, hlo, hhi, hj, hd, kd⟩ := k2
    cases r2
    cases r1 with
    | tup e q =>
      obtain ⟨v, hv, rv⟩ := q.get hd
      have ht : IsTup h2 _ _ := ⟨_, X2.hg.iin _ _ e, rfl, _, rfl⟩
      exact tail_any ht.typeIs slot_tuple_getitem.lookup (PyProof.Rows.getItem_tuple ht hlo hhi (by rw [List.size_toArray, q.length]; exact hj) (by simpa using hv) (hQ _ _ im2 h2 _ ex X2 rv kd)) (hs _ _)
  · obtain ⟨d, h0, hhi, hd, kd⟩ := k2
    cases r2
    cases r1 with
    | lst e f g q =>
      obtain ⟨v, hv, rv⟩ := q.get hd
      have ht : h2.IsList _ _ := ⟨_, X2.hg.iin _ _ e, f, _, g⟩
      exact tail_any ht.typeIs slot_list_getitem.lookup (wpAny_getItem_list ht h0 hhi (by simpa using hv) (hQ _ _ im2 h2 _ ex X2 rv kd)) (hs _ _)
  · obtain ⟨ds, d, hm, hd, kd⟩ := k2
    cases r2; cases r1
    obtain ⟨vs, n, ht, q⟩ := X2.own _ hm
    have ht : h2.IsList _ vs.toArray := ⟨_, ht, rfl, n, rfl⟩
    rcases hd with ⟨h0, hhi, hd⟩ | ⟨h0, hlo, hfit, hd⟩
    · obtain ⟨v, hv, rv⟩ := q.get hd
      exact tail_any ht.typeIs slot_list_getitem.lookup (wpAny_getItem_list ht h0 hhi (by simpa using hv) (hQ _ _ im2 h2 _ ex X2 rv kd)) (hs _ _)
    · obtain ⟨v, hv, rv⟩ := q.get hd
      exact tail_any ht.typeIs slot_list_getitem.lookup (wpAny_getItem_list_neg ht h0 (by rw [List.size_toArray, q.length]; exact hlo) hfit (by simpa [q.length] using hv) (hQ _ _ im2 h2 _ ex X2 rv kd)) (hs _ _)
  · exact k2.elim
/-! attributes of the program's instances -/
def handedD : D → Prop
  | .raw (.ref _) => True
  | .raw _ => False
  | _ => True
theorem handedD_rep {im : Im} {v : Value} {d : D} (r : Rep im v d) (h : handedD d) : handedIn v = true := by
  cases r with
  | raw v => cases v <;> first | rfl | exact h.elim
  | _ => rfl
theorem Fds.getL {im : Im} {x : Str} {d : D} : ∀ {es : List DictEntry} {fs : List (Str × D)}, Fds im es fs → fs.lookup x = some d → ∃ v, PySem.W.getL x es = some (some v) ∧ Rep im v d
  | _, _, .nil, h => by simp at h
  | _, _, .cons (x := y) (v := v) (es := es) (fs := fs) r q, h => by
    unfold PySem.W.getL
    rw [List.lookup_cons] at h
    cases hb : x == y with
    | true =>
      rw [hb] at h; cases h
      have e := beq_iff_eq.mp hb; subst e
      exact ⟨v, by simp [List.find?_cons, Value.isStr], r⟩
    | false =>
      rw [hb] at h
      obtain ⟨v', h1, h2⟩ := q.getL h
      have hb' : (y == x) = false := by
        cases q : y == x with
        | false => rfl
        | true => rw [beq_iff_eq.mp q] at hb; simp at hb
      unfold PySem.W.getL at h1
      refine ⟨v', ?_, h2⟩
      rw [List.find?_cons, show (Value.str y _).isStr x = false from hb']
      dsimp only
      split at h1
      · rename_i e he; rw [he]; exact h1
      · rename_i he
        rw [he]
        split at h1
        · cases h1
        · cases h1
end
section
variable {c : Cx} {n : Nat} {fx : Fx} {σ : St} {kp im : Im} {h h' : Heap}
def St.set (σ : St) (x : Str) (d : D) : St := { σ with vars := (x, d) :: σ.vars }
abbrev muts (fx : Fx) (σ : St) : List Addr := fx.env.locals :: (fx.wr ++ σ.own.addrs)
theorem Var.but {m : Str → Option Value} {x : Str} {d : D} {b : Addr} (hv : Var fx m im h x d) (hb : ∀ a, (a ∈ fx.wr ∨ ∃ o, kp a = some o) → a ≠ b) (hc : ∀ y a, fx.env.cells.lookup y = some a → a ∈ fx.wr ∨ ∃ o, kp a = some o) (hs : Heap.SameBut b h h') : Var fx m im h' x d := by
  rcases hv with ⟨k1, v, k2, k3⟩ | ⟨k1, a, v, k2, k3, k4⟩
  · exact .inl ⟨k1, v, k2, k3⟩
  · exact .inr ⟨k1, a, v, k2, k3.sameBut hs (hb a (hc _ _ k2)), k4⟩
theorem Hd.mutate (X : Hd c fx σ kp im h) {b : Addr} (hb : b ∈ muts fx σ) (hs : Heap.SameBut b h h') (hob : ∃ o, h'.get? b = some o) {σ' : St} (hadr : σ'.own.addrs = σ.own.addrs)
    (hns : ∃ m, h'.Ns fx.env.locals m ∧ ∀ x d, σ'.vars.lookup x = some d → Var fx m im h' x d) (hown : ∀ p ∈ σ'.own, OwnAt im h' p.1 p.2) (hwr : ∀ a ∈ fx.wr, ∃ v₀, h'.IsCell a v₀) : Hd c fx σ' kp im h' := by
  obtain ⟨kb, ib, _⟩ := X.off b hb
  have k' : ∀ a o, kp a = some o → h'.get? a = some o := fun a o e => (hs.2 a fun q => by rw [q, kb] at e; cases e).trans (X.kin a o e)
  refine ⟨X.kind, X.cap, X.cel, X.glob, X.blt, ⟨fun a o e => k' a o (X.gk a o e), X.hg.imK, fun a o e => ?_⟩, X.gk, k', hns, hadr ▸ X.nodup, fun a ha => ?_, hown, hwr⟩
  · exact (hs.2 a fun q => by rw [q, ib] at e; cases e).trans (X.hg.iin a o e)
  · rw [hadr] at ha
    obtain ⟨h1, h2, o, h3⟩ := X.off a ha
    refine ⟨h1, h2, ?_⟩
    by_cases q : a = b
    · rw [q]; exact hob
    · exact ⟨o, (hs.2 a q).trans h3⟩
theorem Hd.own_ne {b : Addr} (X : Hd c fx σ kp im h) (hb : b = fx.env.locals ∨ b ∈ fx.wr) : ∀ p ∈ σ.own, ∀ a ∈ p.2.addrs p.1, a ≠ b := by
  intro p hp a ha q
  subst q
  have ha' : a ∈ σ.own.addrs := List.mem_flatMap.mpr ⟨p, hp, ha⟩
  have nd := X.nodup
  rw [List.nodup_cons, List.nodup_append] at nd
  rcases hb with rfl | hb
  · exact nd.1 (List.mem_append_right _ ha')
  · exact nd.2.2.2 a hb a ha' rfl
theorem OwnAt.but {a b : Addr} {o : AO} (x : OwnAt im h a o) (hb : ∀ e ∈ o.addrs a, e ≠ b) (hs : Heap.SameBut b h h') : OwnAt im h' a o :=
  x.mono (Le.refl _) fun e he ob q => (hs.2 e (hb e he)).trans q
def Storable (fx : Fx) (x : Str) : Prop := fx.env.kindOf x = some .local ∨ (fx.env.kindOf x = some .cell ∧ ∃ a, fx.env.cells.lookup x = some a ∧ a ∈ fx.wr)
theorem store_any {A : Around} {s : Shared} {x : Str} {v : Value} {d : D} {Q : Unit → Shared → Prop} {E : Value → Shared → Prop} (X : Hd c fx σ kp im s.heap) (r : Rep im v d) (hx : Storable fx x)
    (hQ : ∀ h' tk', Hd c fx (σ.set x d) kp im h' → Q () { s with heap := h', toks := tk' }) : wpAny c.M A (storeName fx.env x v) Q E s := by
  have nd := X.nodup
  rw [List.nodup_cons, List.nodup_append] at nd
  obtain ⟨m, hn, hv⟩ := X.ns
  rcases hx with hl | ⟨hl, a, hc, ha⟩
  · refine wpAny_storeName_local hl hn (fun h' hn' hs => hQ h' _ ?_) (by rw [X.kind]; rfl)
    have hne : ∀ a, (a ∈ fx.wr ∨ ∃ o, kp a = some o) → a ≠ fx.env.locals := fun a ha q => by
      rcases ha with ha | ⟨o, ha⟩
      · exact nd.1 (List.mem_append_left _ (q ▸ ha))
      · rw [q, (X.off _ (.head _)).1] at ha; cases ha
    obtain ⟨o, _, _, ho, _⟩ := id hn'
    refine X.mutate (.head _) hs ⟨o, ho⟩ rfl ⟨_, hn', fun y e hy => ?_⟩ (fun p hp => (X.own p hp).but (X.own_ne (.inl rfl) p hp) hs) fun a ha => ?_
    · have hy : List.lookup y ((x, d) :: σ.vars) = some e := hy
      rw [List.lookup_cons] at hy
      cases q : y == x with
      | true =>
        rw [q] at hy; cases hy
        have q := beq_iff_eq.mp q
        exact .inl ⟨q ▸ hl, v, by simp [q], r⟩
      | false =>
        rw [q] at hy
        have q' : y ≠ x := fun z => by rw [z] at q; simp at q
        rcases (hv y e hy).but hne X.cel hs with ⟨k1, v', k2, k3⟩ | k
        · exact .inl ⟨k1, v', by simp [q', k2], k3⟩
        · exact .inr k
    · obtain ⟨v₀, q⟩ := X.wrc a ha
      exact ⟨v₀, q.sameBut hs (hne a (.inl ha))⟩
  · obtain ⟨v₀, hcell⟩ := X.wrc a ha
    refine wpAny_storeName_cell X.kind hl hc hcell fun h' hc' hs => hQ h' _ ?_
    have hL : fx.env.locals ≠ a := fun q => nd.1 (List.mem_append_left _ (q ▸ ha))
    obtain ⟨o, ho, _⟩ := id hc'
    refine X.mutate (List.mem_cons_of_mem _ (List.mem_append_left _ ha)) hs ⟨o, ho⟩ rfl ⟨m, hn.sameBut hs hL, fun y e hy => ?_⟩ (fun p hp => (X.own p hp).but (X.own_ne (.inr ha) p hp) hs) fun b hb => ?_
    · have hy : List.lookup y ((x, d) :: σ.vars) = some e := hy
      rw [List.lookup_cons] at hy
      cases q : y == x with
      | true =>
        rw [q] at hy; cases hy
        have q := beq_iff_eq.mp q
        exact .inr ⟨.inl (q ▸ hl), a, v, q ▸ hc, hc', r⟩
      | false =>
        rw [q] at hy
        have q' : y ≠ x := fun z => by rw [z] at q; simp at q
        rcases hv y e hy with k | ⟨k1, b, v', k2, k3, k4⟩
        · exact .inl k
        · have hne : b ≠ a := fun z => q' (X.cap y x a (z ▸ k2) hc)
          exact .inr ⟨k1, b, v', k2, k3.sameBut hs hne, k4⟩
    · by_cases q : b = a
      · exact ⟨_, q ▸ hc'⟩
      · obtain ⟨v₁, e⟩ := X.wrc b hb
        exact ⟨v₁, e.sameBut hs q⟩
/-- fewer facts about names -/
def SubV (f : Str → Option D) : List (Str × D) → Prop
  | [] => True
  | (x, d) :: r => f x = some d ∧ SubV f r
theorem SubV.lookup {f : Str → Option D} : ∀ {l : List (Str × D)}, SubV f l → ∀ x d, l.lookup x = some d → f x = some d
  | [], _, _, _, hd => by simp at hd
  | (y, e) :: r, ⟨h1, h2⟩, x, d, hd => by
    rw [List.lookup_cons] at hd
    cases q : x == y with
    | true => rw [q] at hd; cases hd; rw [beq_iff_eq.mp q]; exact h1
    | false => rw [q] at hd; exact h2.lookup x d hd
theorem Hd.weaken (X : Hd c fx σ kp im h) {vars : List (Str × D)} (hv : ∀ x d, vars.lookup x = some d → σ.vars.lookup x = some d) : Hd c fx ⟨vars, σ.own⟩ kp im h := by
  obtain ⟨m, hn, hm⟩ := X.ns
  exact ⟨X.kind, X.cap, X.cel, X.glob, X.blt, X.hg, X.gk, X.kin, ⟨m, hn, fun x d e => hm x d (hv x d e)⟩, X.nodup, X.off, X.own, X.wrc⟩
/-! statements -/
theorem Wx.mono {ss : List Stmt} {kn kn' : St → Prop} {kr kr' : St → D → Prop} (h : Wx c n fx σ ss kn kr) (hn : ∀ σ, kn σ → kn' σ) (hr : ∀ σ d, kr σ d → kr' σ d) : Wx c n fx σ ss kn' kr' :=
  fun A kp im s Q E hA X q1 q2 => h A kp im s Q E hA X (fun σ' im' h' tk' ex X' k => q1 σ' im' h' tk' ex X' (hn _ k)) fun v d σ' im' h' tk' ex X' r k => q2 v d σ' im' h' tk' ex X' r (hr _ _ k)
theorem Wx_weaken {ss : List Stmt} {kn : St → Prop} {kr : St → D → Prop} (vars : List (Str × D)) (hv : SubV (fun x => σ.vars.lookup x) vars) (h : Wx c n fx ⟨vars, σ.own⟩ ss kn kr) : Wx c n fx σ ss kn kr :=
  fun A kp im s Q E hA X q1 q2 => h A kp im s Q E hA (X.weaken hv.lookup) q1 q2
theorem Wx_nil {kn : St → Prop} {kr : St → D → Prop} (h : kn σ) : Wx c n fx σ [] kn kr :=
  fun A kp im s Q E hA X q1 q2 => wpAny_execs_nil (q1 σ im s.heap s.toks (Ext.refl _ _ _) X h)
theorem Wx_cons {st : Stmt} {ss : List Stmt} {kn : St → Prop} {kr : St → D → Prop} (h : Ws c n fx σ st (fun σ' => Wx c n fx σ' ss kn kr) kr) : Wx c n fx σ (st :: ss) kn kr := by
  intro A kp im s Q E hA X q1 q2
  refine wpAny_execs_cons (h A kp im s _ E hA X (fun σ' im' h' tk' ex X' k => ?_) fun v d σ' im' h' tk' ex X' r k => q2 v d σ' im' h' tk' ex X' r k)
  exact k A kp im' { s with heap := h', toks := tk' } Q E hA X' (fun σ2 im2 h2 tk2 ex2 X2 k2 => q1 σ2 im2 h2 tk2 (ex.trans ex2) X2 k2) fun v d σ2 im2 h2 tk2 ex2 X2 r k2 => q2 v d σ2 im2 h2 tk2 (ex.trans ex2) X2 r k2
theorem Ws_if {t : Expr} {a b : List Stmt} {pos : Pos} {kn : St → Prop} {kr : St → D → Prop} (h : Wt c n fx σ t fun r => if r = true then Wx c n fx σ a kn kr else Wx c n fx σ b kn kr) : Ws c n fx σ (.If t a b pos) kn kr := by
  intro A kp im s Q E hA X q1 q2
  refine wpAny_If (h A kp im s _ E hA X fun r im' h' tk' ex X' k => ?_)
  cases r with
  | true =>
    have k' : Wx c n fx σ a kn kr := by simpa using k
    simpa using k' A kp im' { s with heap := h', toks := tk' } Q E hA X' (fun σ2 im2 h2 tk2 ex2 X2 k2 => q1 σ2 im2 h2 tk2 (ex.trans ex2) X2 k2) fun v d σ2 im2 h2 tk2 ex2 X2 r k2 => q2 v d σ2 im2 h2 tk2 (ex.trans ex2) X2 r k2
  | false =>
    have k' : Wx c n fx σ b kn kr := by simpa using k
    simpa using k' A kp im' { s with heap := h', toks := tk' } Q E hA X' (fun σ2 im2 h2 tk2 ex2 X2 k2 => q1 σ2 im2 h2 tk2 (ex.trans ex2) X2 k2) fun v d σ2 im2 h2 tk2 ex2 X2 r k2 => q2 v d σ2 im2 h2 tk2 (ex.trans ex2) X2 r k2
theorem Ws_return {e : Expr} {pos : Pos} {kn : St → Prop} {kr : St → D → Prop} (h : We c n fx σ e fun d => kr σ d) : Ws c n fx σ (.Return (some e) pos) kn kr :=
  fun A kp im s Q E hA X q1 q2 => wpAny_Return_some (h A kp im s _ E hA X fun v d im' h' tk' ex X' r k => q2 v d σ im' h' tk' ex X' r k)
theorem Ws_assign {x : Str} {p pos : Pos} {e : Expr} {kn : St → Prop} {kr : St → D → Prop} (hx : Storable fx x) (h : We c n fx σ e fun d => kn (σ.set x d))
    (hs : swapsWith e (some (.Name x p)) pos.line fx.env = pure false := by rfl) : Ws c n fx σ (.Assign [.Name x p] e pos) kn kr := by
  intro A kp im s Q E hA X q1 q2
  refine wpAny_Assign_Name (h A kp im s _ E hA X fun v d im' h' tk' ex X' r k => ?_) hs
  exact store_any X' r hx fun h2 tk2 X2 => q1 _ im' h2 tk2 (ex.trans Ext.same) X2 k
/-- a new list of the frame's own -/
theorem Hd.adopt (X : Hd c fx σ kp im h) {a : Addr} {vs : List Value} {m : Nat} {ds : List D} (ho : h.get? a = some (lo vs m)) (hr : Reps im vs ds) (hf : Fresh fx σ kp im a) : Hd c fx { σ with own := (a, .lst ds) :: σ.own } kp im h := by
  refine ⟨X.kind, X.cap, X.cel, X.glob, X.blt, X.hg, X.gk, X.kin, X.ns, ?_, ?_, ?_, X.wrc⟩
  · have nd := X.nodup
    have e : Own.addrs ((a, .lst ds) :: σ.own) = a :: σ.own.addrs := rfl
    have hf2 := hf.2.2
    simp only [e, List.nodup_cons, List.nodup_append, List.mem_append, List.mem_cons, not_or] at nd hf2 ⊢
    refine ⟨⟨nd.1.1, fun q => hf2.1 q.symm, nd.1.2⟩, nd.2.1, ⟨hf2.2.2, nd.2.2.1⟩, ?_⟩
    intro y hy z hz
    rcases hz with rfl | hz
    · intro q; exact hf2.2.1 (q ▸ hy)
    · exact nd.2.2.2 y hy z hz
  · intro b hb
    have e : Own.addrs ((a, .lst ds) :: σ.own) = a :: σ.own.addrs := rfl
    simp only [e, List.mem_cons, List.mem_append] at hb
    rcases hb with rfl | hb | rfl | hb
    · exact X.off _ (.head _)
    · exact X.off _ (.tail _ (List.mem_append_left _ hb))
    · exact ⟨hf.2.1, hf.1, _, ho⟩
    · exact X.off _ (.tail _ (List.mem_append_right _ hb))
  · intro p hp
    rcases List.mem_cons.mp hp with rfl | hp
    · exact ⟨vs, m, ho, hr⟩
    · exact X.own p hp
theorem Ws_assignOwn {x : Str} {p pos : Pos} {e : Expr} {kn : St → Prop} {kr : St → D → Prop} (hx : Storable fx x) (h : Wf c n fx σ e fun ds => ∀ a, kn ⟨(x, .raw (.ref a)) :: σ.vars, (a, .lst ds) :: σ.own⟩)
    (hs : swapsWith e (some (.Name x p)) pos.line fx.env = pure false := by rfl) : Ws c n fx σ (.Assign [.Name x p] e pos) kn kr := by
  intro A kp im s Q E hA X q1 q2
  refine wpAny_Assign_Name (h A kp im s _ E hA X fun a vs m ds im' h' tk' ex X' ho r hf k => ?_) hs
  exact store_any (d := .raw (.ref a)) (X'.adopt ho r hf) (.raw _) hx fun h2 tk2 X2 => q1 _ im' h2 tk2 (ex.trans Ext.same) X2 (k a)
/-! an owned object turned -/
theorem addrs_mid (pre post : Own) (a : Addr) (o o' : AO) (e : o'.addrs a = o.addrs a) : Own.addrs (pre ++ (a, o') :: post) = Own.addrs (pre ++ (a, o) :: post) := by
  simp [Own.addrs, List.flatMap_append, List.flatMap_cons, e]
theorem Hd.turn {vars : List (Str × D)} {pre post : Own} {a b : Addr} {o o' : AO} (X : Hd c fx ⟨vars, pre ++ (a, o) :: post⟩ kp im h) (hb : b ∈ o.addrs a) (ha : o'.addrs a = o.addrs a) (hs : Heap.SameBut b h h') (hn : OwnAt im h' a o') :
    Hd c fx ⟨vars, pre ++ (a, o') :: post⟩ kp im h' := by
  have hba : b ∈ Own.addrs (pre ++ (a, o) :: post) := List.mem_flatMap.mpr ⟨(a, o), by simp, hb⟩
  have nd := X.nodup
  rw [List.nodup_cons, List.nodup_append] at nd
  have hL : fx.env.locals ≠ b := fun q => nd.1 (List.mem_append_right _ (q ▸ hba))
  obtain ⟨m, hns, hv⟩ := X.ns
  have hne : ∀ e, (e ∈ fx.wr ∨ ∃ o, kp e = some o) → e ≠ b := fun e he q => by
    rcases he with he | ⟨o, he⟩
    · exact nd.2.2.2 e he b hba q
    · rw [q, (X.off b (.tail _ (List.mem_append_right _ hba))).1] at he; cases he
  refine X.mutate (.tail _ (List.mem_append_right _ hba)) hs (hn.has b (ha ▸ hb)) (addrs_mid _ _ _ _ _ ha) ⟨m, hns.sameBut hs hL, fun x d e => (hv x d e).but hne X.cel hs⟩ (fun p hp => ?_) fun e he => ?_
  · have nd2 : (Own.addrs (pre ++ (a, o) :: post)).Nodup := nd.2.2.1
    simp only [Own.addrs, List.flatMap_append, List.flatMap_cons, List.nodup_append, List.mem_append] at nd2
    rcases List.mem_append.mp hp with hp | hp
    · refine (X.own p (List.mem_append_left _ hp)).but (fun e he q => ?_) hs
      exact nd2.2.2 e (List.mem_flatMap.mpr ⟨p, hp, he⟩) b (.inl hb) q
    · rcases List.mem_cons.mp hp with rfl | hp
      · exact hn
      · refine (X.own p (List.mem_append_right _ (.tail _ hp))).but (fun e he q => ?_) hs
        exact nd2.2.1.2.2 b hb e (List.mem_flatMap.mpr ⟨p, hp, he⟩) q.symm
  · obtain ⟨v₀, q⟩ := X.wrc e he
    exact ⟨v₀, q.sameBut hs (hne e (.inl he))⟩
/-- x.append(e), upon a list of the frame's own -/
theorem Ws_append {o e : Expr} {apos cpos pos : Pos} {kn : St → Prop} {kr : St → D → Prop}
    (h : We c n fx σ o fun d1 => ∃ a, d1 = .raw (.ref a) ∧ (∃ ds, (a, AO.lst ds) ∈ σ.own) ∧ We c n fx σ e fun d => ∃ pre ds post, σ.own = pre ++ (a, .lst ds) :: post ∧ ds.length < 1000000 ∧ kn ⟨σ.vars, pre ++ (a, .lst (ds ++ [d])) :: post⟩)
    (hbase : attributeBase o ("append" : Str) fx.env (eval o fx.env) = eval o fx.env := by rfl) (hs : starEach [e] fx.env = [(false, eval e fx.env)] := by rfl)
    (hline : (apos.endLine == cpos.line) = true := by rfl) (hi : interactive fx.env = false := by rfl) (hsw : swapsWith (.Call (.Attribute o "append" apos) [e] [] cpos) none pos.line fx.env = pure false := by rfl) :
    Ws c n fx σ (.Expr (.Call (.Attribute o "append" apos) [e] [] cpos) pos) kn kr := by
  intro A kp im s Q E hA X q1 q2
  refine wpAny_Expr ?_ hi hsw
  refine Call_method1 hbase hs hline (h A kp im s _ E hA X fun v d im1 h1 tk1 ex1 X1 r1 k1 => ?_)
  obtain ⟨a, rfl, ⟨ds₀, hmem⟩, k1⟩ := k1
  cases r1
  obtain ⟨vs₀, n₀, hg₀, _⟩ := X1.own _ hmem
  refine ⟨"list", "list.append", PySem.F.plainAttrs_list, F.slot_list_append, F.type_list_append, ⟨_, hg₀, rfl⟩, (fun b hb => by cases hb; exact ⟨_, hg₀, rfl⟩), ?_⟩
  refine PySem.P.append_list (k1 A kp im1 _ _ E hA X1 fun v d im2 h2 tk2 ex2 X2 r k => ?_)
  obtain ⟨pre, ds, post, hσ, hlen, kk⟩ := k
  obtain ⟨vs, m, hg, hr⟩ := X2.own (a, .lst ds) (by rw [hσ]; simp)
  refine ⟨vs.toArray, m, by rw [List.size_toArray, hr.length]; exact Nat.le_of_lt (Nat.lt_of_lt_of_le hlen (by decide)), hg, ?_⟩
  obtain ⟨vars, own⟩ := σ
  dsimp only at hσ
  subst hσ
  refine q1 ⟨vars, pre ++ (a, .lst (ds ++ [d])) :: post⟩ im2 _ _ ((ex1.trans ex2).trans Ext.same) (X2.turn (b := a) (by simp [AO.addrs]) rfl (Heap.SameBut.update h2 a _) ?_) kk
  refine ⟨vs ++ [v], m + 1, ?_, hr.append (.one r)⟩
  have := Heap.get?_update_self (h := h2) (a := a) (f := Obj.mapSeq fun xs => xs.push v) (o := lo vs m) hg rfl
  simpa [Obj.mapSeq] using this
end
section
variable {c : Cx} {n : Nat} {fx : Fx} {σ : St} {kp im : Im} {h h' : Heap}
/-! attributes -/
def attrK (σ : St) (d : D) (x : Str) (k : D → Prop) : Prop :=
  match d with
  | .obj fs => ∃ e, fs.lookup x = some e ∧ handedD e ∧ k e
  | .raw (.ref a) => ∃ dx fs e, (a, AO.obj dx fs) ∈ σ.own ∧ fs.lookup x = some e ∧ handedD e ∧ k e
  | _ => False
theorem We_attr {y x : Str} {p pos : Pos} {k : D → Prop} (hx : x ∈ fitNames) (h : We c n fx σ (.Name y p) fun d => attrK σ d x k) : We c n fx σ (.Attribute (.Name y p) x pos) k := by
  intro A kp im s Q E hA X hQ
  refine Attribute_name (h A kp im s _ E hA X fun v d im1 h1 tk1 ex1 X1 r1 k1 => ?_)
  have k1 : attrK σ d x k := k1
  unfold attrK at k1
  split at k1
  · obtain ⟨e, hl, hh, kk⟩ := k1
    cases r1 with
    | obj e1 e2 q =>
      obtain ⟨v, hg, hr⟩ := q.getL hl
      exact get_value (c.X.keeps X1.hg.gd) (C := CF) (od := some (dictOf _ _)) ⟨X1.hg.iin _ _ e1, rfl, rfl, X1.hg.iin _ _ e2⟩ (plainGet_of (c.pg x)).1
        (findObj_own c.hdt (c.fno x hx) rfl hg) (handedD_rep hr hh) (hQ _ _ im1 h1 _ ex1 X1 hr kk)
  · obtain ⟨dx, fs, e, hm, hl, hh, kk⟩ := k1
    cases r1
    obtain ⟨sl, es, m, e1, e2, q⟩ := X1.own _ hm
    obtain ⟨v, hg, hr⟩ := q.getL hl
    exact get_value (c.X.keeps X1.hg.gd) (C := CF) (od := some (dictOf _ _)) ⟨e1, rfl, rfl, e2⟩ (plainGet_of (c.pg x)).1
      (findObj_own c.hdt (c.fno x hx) rfl hg) (handedD_rep hr hh) (hQ _ _ im1 h1 _ ex1 X1 hr kk)
  · exact k1.elim
/-! all that lives, as a list: rules told over ledgers -/
def allOf (h : Heap) (L : Addr) : List (Addr × Obj) := (List.range h.objs.size).filterMap fun a => if a = L then none else (h.get? a).map fun o => (a, o)
theorem mem_allOf {L a : Addr} {o : Obj} : (a, o) ∈ allOf h L ↔ h.get? a = some o ∧ a ≠ L := by
  unfold allOf
  rw [List.mem_filterMap]
  constructor
  · rintro ⟨b, hb, e⟩
    split at e
    · cases e
    · rename_i q
      cases g : h.get? b with
      | none => rw [g] at e; cases e
      | some ob => rw [g] at e; cases e; exact ⟨g, q⟩
  · rintro ⟨e, q⟩
    exact ⟨a, List.mem_range.mpr (Heap.lt_size e), by rw [if_neg q, e]; rfl⟩
theorem allOf_split {L a : Addr} {o : Obj} (e : h.get? a = some o) (q : a ≠ L) : ∃ pre post, allOf h L = pre ++ (a, o) :: post ∧ (∀ p ∈ pre, p.1 ≠ a) ∧ ∀ p ∈ post, p.1 ≠ a := by
  obtain ⟨pre, post, hs⟩ := List.append_of_mem (mem_allOf.mpr ⟨e, q⟩)
  have nd : ((allOf h L).map (·.1)).Nodup := by
    unfold allOf
    rw [List.map_filterMap]
    refine List.Pairwise.filterMap _ (fun a b hab x hx y hy => ?_) (List.nodup_range (n := h.objs.size))
    split at hx
    · cases hx
    · split at hy
      · cases hy
      · cases g1 : h.get? a <;> rw [g1] at hx <;> cases hx
        cases g2 : h.get? b <;> rw [g2] at hy <;> cases hy
        exact hab
  rw [hs] at nd
  simp only [List.map_append, List.map_cons, List.nodup_append, List.nodup_cons, List.mem_map, List.mem_cons] at nd
  refine ⟨pre, post, hs, fun p hp q => ?_, fun p hp q => ?_⟩
  · exact nd.2.2 p.1 ⟨p, hp, rfl⟩ a (.inl rfl) q
  · exact nd.2.1.1 ⟨p, hp, q⟩
theorem setattr_own {A : Around} {s : Shared} {x : Str} {v : Value} {d : D} {vars : List (Str × D)} {pre post : Own} {a dx : Addr} {fs fs' : List (Str × D)} {Q : Unit → Shared → Prop} {E : Value → Shared → Prop}
    (X : Hd c fx ⟨vars, pre ++ (a, .obj dx fs) :: post⟩ kp im s.heap) (r : Rep im v d) (hx : x ∈ fitNames)
    (hp : ∀ es : List DictEntry, ∀ t, Fds im es fs → (PySem.W.getL x es).isSome = true ∧ Fds im (putL x (PyData.keyHash c.w.params x) (.str x t) v es) fs' ∧ (putL x (PyData.keyHash c.w.params x) (.str x t) v es).length ≤ 1000)
    (hQ : ∀ h' tk', Hd c fx ⟨vars, pre ++ (a, .obj dx fs') :: post⟩ kp im h' → Q () { s with heap := h', toks := tk' }) : wpAny c.M A (setAttr (.ref a) x v) Q E s := by
  have hmem : (a, AO.obj dx fs) ∈ (⟨vars, pre ++ (a, .obj dx fs) :: post⟩ : St).own := by simp
  obtain ⟨sl, es, m, e1, e2, q⟩ := X.own _ hmem
  have hdxm : dx ∈ Own.addrs (pre ++ (a, AO.obj dx fs) :: post) := List.mem_flatMap.mpr ⟨_, hmem, by simp [AO.addrs]⟩
  have nd := X.nodup
  rw [List.nodup_cons] at nd
  have hL : dx ≠ fx.env.locals := fun z => nd.1 (List.mem_append_right _ (z ▸ hdxm))
  obtain ⟨mm, hns, hv⟩ := X.ns
  obtain ⟨p1, p2, hsp, n1, n2⟩ := allOf_split e2 hL
  have F : Fr ({} : Heap) fx.env.locals s.heap mm := ⟨hns, fun b o z => (nomatch z), Nat.zero_le _⟩
  have N : News ({} : Heap) fx.env.locals s.heap (p1 ++ (dx, dco es m) :: p2) := fun p hp => by
    rw [← hsp] at hp
    obtain ⟨z1, z2⟩ := mem_allOf.mp hp
    exact ⟨z1, z2, rfl⟩
  obtain ⟨g1, g2, g3⟩ := hp es (s.toks + 1) q
  have pn : Obj.putName x (PyData.keyHash c.w.params x) (.str x (s.toks + 1)) v (dco es m) = dco (putL x (PyData.keyHash c.w.params x) (.str x (s.toks + 1)) v es) (putN x es m) := putName_dict _ _ _ _ _ _
  refine set_plain (c.X.keeps X.hg.gd) (C := CF) (ox := ino CF dx sl) (od := some (dco es m)) ⟨e1, rfl, rfl, e2⟩ c.stt
    (osa_dict (s := { s with toks := s.toks + 1 }) F N (c.X.keeps X.hg.gd) ⟨e1, rfl, rfl, e2⟩ rfl c.plo (c.tko x hx) c.hdt g1 n1 n2 pn rfl g3 fun h' F' N' => hQ h' _ ?_)
  have hdx' : h'.get? dx = some (dco (putL x (PyData.keyHash c.w.params x) (.str x (s.toks + 1)) v es) (putN x es m)) := (N' (dx, dco (putL x (PyData.keyHash c.w.params x) (.str x (s.toks + 1)) v es) (putN x es m)) (by simp)).1
  have keep : ∀ b o, b ≠ fx.env.locals → b ≠ dx → s.heap.get? b = some o → h'.get? b = some o := fun b o z1 z2 z3 => by
    have hb : (b, o) ∈ p1 ++ (dx, dco es m) :: p2 := by rw [← hsp]; exact mem_allOf.mpr ⟨z3, z1⟩
    rcases List.mem_append.mp hb with hb | hb
    · exact (N' (b, o) (List.mem_append_left _ hb)).1
    · rcases List.mem_cons.mp hb with hb | hb
      · cases hb; exact absurd rfl z2
      · exact (N' (b, o) (List.mem_append_right _ (.tail _ hb))).1
  -- the two addresses that may differ: the names' object (read alike) and the dict
  have nd0 := X.nodup
  rw [List.nodup_cons, List.nodup_append] at nd0
  have offL := X.off fx.env.locals (.head _)
  have offD := X.off dx (.tail _ (List.mem_append_right _ hdxm))
  have kk : ∀ b o, kp b = some o → h'.get? b = some o := fun b o z => keep b o (fun w => by rw [w, offL.1] at z; cases z) (fun w => by rw [w, offD.1] at z; cases z) (X.kin b o z)
  have ii : ∀ b o, im b = some o → h'.get? b = some o := fun b o z => keep b o (fun w => by rw [w, offL.2.1] at z; cases z) (fun w => by rw [w, offD.2.1] at z; cases z) (X.hg.iin b o z)
  have cellk : ∀ b v₀, (b ∈ fx.wr ∨ ∃ o, kp b = some o) → s.heap.IsCell b v₀ → h'.IsCell b v₀ := fun b v₀ hb ⟨o, z1, z2⟩ => by
    refine ⟨o, keep b o (fun w => ?_) (fun w => ?_) z1, z2⟩
    · subst w
      rcases hb with hb | ⟨o', hb⟩
      · exact nd0.1 (List.mem_append_left _ hb)
      · rw [offL.1] at hb; cases hb
    · subst w
      rcases hb with hb | ⟨o', hb⟩
      · exact nd0.2.2.2 b hb b hdxm rfl
      · rw [offD.1] at hb; cases hb
  have had : Own.addrs (pre ++ (a, AO.obj dx fs') :: post) = Own.addrs (pre ++ (a, AO.obj dx fs) :: post) := addrs_mid _ _ _ _ _ rfl
  refine ⟨X.kind, X.cap, X.cel, X.glob, X.blt, ⟨fun b o z => kk b o (X.gk b o z), X.hg.imK, ii⟩, X.gk, kk, ⟨mm, F'.ns, fun y e hy => ?_⟩, had ▸ X.nodup, fun b hb => ?_, fun p hp => ?_, fun b hb => ?_⟩
  · rcases hv y e hy with ⟨k1, v', k2, k3⟩ | ⟨k1, b, v', k2, k3, k4⟩
    · exact .inl ⟨k1, v', k2, k3⟩
    · exact .inr ⟨k1, b, v', k2, cellk b _ (X.cel _ _ k2) k3, k4⟩
  · rw [had] at hb
    obtain ⟨z1, z2, o, z3⟩ := X.off b hb
    refine ⟨z1, z2, ?_⟩
    by_cases w1 : b = fx.env.locals
    · obtain ⟨o', _, _, ho', _⟩ := F'.ns; exact ⟨o', w1 ▸ ho'⟩
    · by_cases w2 : b = dx
      · exact ⟨_, w2 ▸ hdx'⟩
      · exact ⟨o, keep b o w1 w2 z3⟩
  · have nd2 : (Own.addrs (pre ++ (a, AO.obj dx fs) :: post)).Nodup := nd0.2.2.1
    have noL : ∀ b ∈ Own.addrs (pre ++ (a, AO.obj dx fs) :: post), b ≠ fx.env.locals := fun b hb w => nd0.1 (List.mem_append_right _ (w ▸ hb))
    simp only [Own.addrs, List.flatMap_append, List.flatMap_cons, List.nodup_append, List.mem_append] at nd2
    rcases List.mem_append.mp hp with hp | hp
    · refine (X.own p (List.mem_append_left _ hp)).mono (Le.refl _) fun b hb ob z => keep b ob ?_ ?_ z
      · exact noL b (List.mem_flatMap.mpr ⟨p, List.mem_append_left _ hp, hb⟩)
      · intro w; exact nd2.2.2 b (List.mem_flatMap.mpr ⟨p, hp, hb⟩) dx (.inl (by simp [AO.addrs])) w
    · rcases List.mem_cons.mp hp with rfl | hp
      · refine ⟨sl, _, _, keep a _ (noL a (List.mem_flatMap.mpr ⟨_, hmem, by simp [AO.addrs]⟩)) ?_ e1, hdx', g2⟩
        intro w
        have := nd2.2.1.1
        simp [AO.addrs] at this
        exact this w
      · refine (X.own p (List.mem_append_right _ (.tail _ hp))).mono (Le.refl _) fun b hb ob z => keep b ob ?_ ?_ z
        · exact noL b (List.mem_flatMap.mpr ⟨p, List.mem_append_right _ (.tail _ hp), hb⟩)
        · intro w; exact nd2.2.1.2.2 dx (by simp [AO.addrs]) b (List.mem_flatMap.mpr ⟨p, hp, hb⟩) w.symm
  · obtain ⟨v₀, z⟩ := X.wrc b hb
    exact ⟨v₀, cellk b _ (.inl hb) z⟩
/-- the fields with one of them stored -/
def fput (fs : List (Str × D)) (x : Str) (d : D) : List (Str × D) :=
  match fs with
  | [] => [(x, d)]
  | (y, e) :: r => if y == x then (y, d) :: r else (y, e) :: fput r x d
theorem fput_rep {im : Im} {x : Str} {d : D} {v : Value} {hh : Int} {t : Tok} (r : Rep im v d) : ∀ {es : List DictEntry} {fs : List (Str × D)}, Fds im es fs → Fds im (putL x hh (.str x t) v es) (fput fs x d)
  | _, _, .nil => .cons r .nil
  | _, _, .cons (x := y) (h := h0) (t := t0) (v := v0) (es := es) r0 q => by
    unfold putL fput
    show Fds im (if (Value.str y t0).isStr x = true then _ else _) _
    rw [show (Value.str y t0).isStr x = (y == x) from rfl]
    cases hb : y == x with
    | true => exact .cons r q
    | false => exact .cons r0 (fput_rep r q)
theorem putL_len {x : Str} {hh : Int} {k v : Value} : ∀ es : List DictEntry, (putL x hh k v es).length ≤ es.length + 1
  | [] => by simp [putL]
  | e :: r => by
    unfold putL
    split
    · simp
    · have := putL_len (x := x) (hh := hh) (k := k) (v := v) r
      simp only [List.length_cons]; omega
theorem Fds.length {im : Im} : ∀ {es : List DictEntry} {fs : List (Str × D)}, Fds im es fs → es.length = fs.length
  | _, _, .nil => rfl
  | _, _, .cons _ q => by rw [List.length_cons, List.length_cons, q.length]
theorem Fds.noRef {im : Im} : ∀ {es : List DictEntry} {fs : List (Str × D)}, Fds im es fs → es.any (·.refKey) = false
  | _, _, .nil => rfl
  | _, _, .cons r q => by rw [List.any_cons, q.noRef]; rfl
theorem Fds.getSome {im : Im} {x : Str} {es : List DictEntry} {fs : List (Str × D)} (q : Fds im es fs) : (PySem.W.getL x es).isSome = true := by
  unfold PySem.W.getL
  split
  · rfl
  · rw [q.noRef]; rfl
/-- x.f = e upon an object of the frame's own -/
theorem Ws_setattr {o e : Expr} {x : Str} {p pos : Pos} {kn : St → Prop} {kr : St → D → Prop} (hx : x ∈ fitNames)
    (h : We c n fx σ e fun d => We c n fx σ o fun d1 => ∃ a dx pre fs post, d1 = .raw (.ref a) ∧ σ.own = pre ++ (a, .obj dx fs) :: post ∧ fs.length < 900 ∧ kn ⟨σ.vars, pre ++ (a, .obj dx (fput fs x d)) :: post⟩)
    (hs : swapsWith e (some (.Attribute o x p)) pos.line fx.env = pure false := by rfl) : Ws c n fx σ (.Assign [.Attribute o x p] e pos) kn kr := by
  intro A kp im s Q E hA X q1 q2
  refine plainObj_wpAny_Assign_Attribute (h A kp im s _ E hA X fun v d im1 h1 tk1 ex1 X1 r1 k1 => ?_) hs
  refine k1 A kp im1 _ _ E hA X1 fun v2 d2 im2 h2 tk2 ex2 X2 r2 k2 => ?_
  obtain ⟨a, dx, pre, fs, post, rfl, hσ, hlen, kk⟩ := k2
  cases r2
  obtain ⟨vars, own⟩ := σ
  dsimp only at hσ
  subst hσ
  refine setattr_own (fs' := fput fs x d) X2 (r1.mono ex2.le) hx (fun es t q => ⟨q.getSome, fput_rep (r1.mono ex2.le) q, ?_⟩) fun h3 tk3 X3 => q1 _ im2 h3 tk3 ((ex1.trans ex2).trans Ext.same) X3 kk
  have l1 := q.length
  have l2 := putL_len (x := x) (hh := PyData.keyHash c.w.params x) (k := .str x t) (v := v) es
  omega
/-- the same, of a new list -/
theorem Ws_setattrOwn {o e : Expr} {x : Str} {p pos : Pos} {kn : St → Prop} {kr : St → D → Prop} (hx : x ∈ fitNames)
    (h : Wf c n fx σ e fun ds => ∀ b, We c n fx ⟨σ.vars, (b, .lst ds) :: σ.own⟩ o fun d1 => ∃ a dx pre fs post, d1 = .raw (.ref a) ∧ (b, AO.lst ds) :: σ.own = pre ++ (a, .obj dx fs) :: post ∧ fs.length < 900 ∧ kn ⟨σ.vars, pre ++ (a, .obj dx (fput fs x (.raw (.ref b)))) :: post⟩)
    (hs : swapsWith e (some (.Attribute o x p)) pos.line fx.env = pure false := by rfl) : Ws c n fx σ (.Assign [.Attribute o x p] e pos) kn kr := by
  intro A kp im s Q E hA X q1 q2
  refine plainObj_wpAny_Assign_Attribute (h A kp im s _ E hA X fun b vs m ds im1 h1 tk1 ex1 X1 ho r1 hf k1 => ?_) hs
  refine k1 b A kp im1 _ _ E hA (X1.adopt ho r1 hf) fun v2 d2 im2 h2 tk2 ex2 X2 r2 k2 => ?_
  obtain ⟨a, dx, pre, fs, post, rfl, hσ, hlen, kk⟩ := k2
  cases r2
  rw [hσ] at X2
  refine setattr_own (fs' := fput fs x (.raw (.ref b))) X2 (.raw _) hx (fun es t q => ⟨q.getSome, fput_rep (.raw _) q, ?_⟩) fun h3 tk3 X3 => q1 _ im2 h3 tk3 ((ex1.trans ex2).trans Ext.same) X3 kk
  have l1 := q.length
  have l2 := putL_len (x := x) (hh := PyData.keyHash c.w.params x) (k := .str x t) (v := .ref b) es
  omega
end
section
variable {c : Cx} {n : Nat} {fx : Fx} {σ : St} {kp im : Im} {h h' : Heap}
/-! a place of a list of the frame's own is stored -/
theorem setItem_lo {prog : Program} {w : World} {A : Around} {s : Shared} {l : Addr} {vs : List Value} {m j : Nat} {k : Int} {t : Tok} {v : Value} {Q : Unit → Shared → Prop} {E : Value → Shared → Prop} (ho : s.heap.get? l = some (lo vs m))
    (hfit : Builtin.List.listFitsIndex k = true) (hidx : seqIndex? k vs.length = some j) (hj : j < vs.length)
    (hQ : Q () { s with heap := s.heap.update l (Obj.mapSeq (·.setIfInBounds j v)) }) :
    wpAny (model prog w) A (setItem (.ref l) (.int k t) v) Q E s := by
  have hl : s.heap.IsList l vs.toArray := ⟨_, ho, rfl, m, rfl⟩
  unfold setItem
  try with_reducible refine wpAny_holding ?_
  first | refine wpAny_bind (wpAny_pure ?_) | skip
  refine wpAny_bind (wpAny_sequenceKey hl.typeIs (by decide) ?_)
  refine wpAny_bind (wpAny_callSpecial?_slot (name := Str.ofString "__setitem__") hl.typeIs slot_list_setitem
    (wpAny_call_entry slot_list_setitem hl.typeIs entry_list_setitem ?_ (args_list_setitem _ _ _)))
  show wpAny _ _ (Builtin.List.listSubscript? (.int k t) >>= _) _ _ s
  refine wpAny_bind (wpAny_listSubscript_int hfit ?_)
  clear hfit
  have hx' : vs.toArray[j]? = some vs[j] := by simp [hj]
  have fin : ∀ {X : Nat × Value → Sem Fin} {Q' : Fin → Shared → Prop}, wpAny (model prog w) A.in1 (X (j, vs[j])) Q' E s → True := fun _ => trivial
  have last : ∀ Q' : Fin → Shared → Prop, Q' (.done (.ret .none)) { s with heap := s.heap.update l (Obj.mapSeq (·.setIfInBounds j v)) } → wpAny (model prog w) A.in1 (do setSeqItemAt l j v; ret .none) Q' E s := fun Q' hq =>
    wpAny_bind (wpAny_setSeqItemAt (o := lo vs m) ho rfl (wpAny_pure hq))
  cases k with
  | ofNat i =>
    have hij : i = j := by
      unfold seqIndex? at hidx
      simp at hidx
      omega
    subst hij
    show wpAny _ _ ((seqItemAt l i >>= fun r => pure (r.map (i, ·))) >>= _) _ _ s
    refine wpAny_bind (wpAny_bind (wpAny_seqItemAt ho rfl (wpAny_pure ?_)))
    rw [hx']
    show wpAny _ _ (setSeqItemAt l i v >>= _) _ _ s
    refine wpAny_bind (wpAny_setSeqItemAt (o := lo vs m) ho rfl ?_)
    first
      | exact wpAny_bind (wpAny_pure (wpAny_pure ⟨.none, rfl, wpAny_pure hQ⟩))
      | exact wpAny_pure ⟨.none, rfl, wpAny_pure hQ⟩
  | negSucc i =>
    show wpAny _ _ ((Builtin.List.listItems (.ref l) >>= fun xs => pure ((seqIndex? (Int.negSucc i) xs.size).bind fun i => xs[i]?.map (i, ·))) >>= _) _ _ s
    refine wpAny_bind (wpAny_bind ?_)
    show wpAny _ _ (seqItems? (.ref l) >>= _) _ _ s
    refine wpAny_bind (wpAny_seqItems ho rfl (wpAny_pure (wpAny_pure ?_)))
    rw [List.size_toArray, hidx]
    simp only [Option.bind_some, hx', Option.map_some]
    show wpAny _ _ (setSeqItemAt l j v >>= _) _ _ s
    refine wpAny_bind (wpAny_setSeqItemAt (o := lo vs m) ho rfl ?_)
    first
      | exact wpAny_bind (wpAny_pure (wpAny_pure ⟨.none, rfl, wpAny_pure hQ⟩))
      | exact wpAny_pure ⟨.none, rfl, wpAny_pure hQ⟩
/-- xs[i] = e upon a list of the frame's own -/
theorem Ws_setitem {o i e : Expr} {p pos : Pos} {kn : St → Prop} {kr : St → D → Prop}
    (h : We c n fx σ e fun d => We c n fx σ o fun d1 => We c n fx σ i fun d2 => ∃ a pre ds post k j, d1 = .raw (.ref a) ∧ d2 = .int k ∧ σ.own = pre ++ (a, .lst ds) :: post ∧ -(2 ^ 63) ≤ k ∧ k < 2 ^ 63 ∧ seqIndex? k ds.length = some j ∧ j < ds.length ∧ kn ⟨σ.vars, pre ++ (a, .lst (ds.set j d)) :: post⟩)
    (hs : swapsWith e (some (.Subscript o i p)) pos.line fx.env = pure false := by rfl) : Ws c n fx σ (.Assign [.Subscript o i p] e pos) kn kr := by
  intro A kp im s Q E hA X q1 q2
  refine wpAny_Assign_Subscript (h A kp im s _ E hA X fun v d im1 h1 tk1 ex1 X1 r1 k1 => ?_) hs
  refine k1 A kp im1 _ _ E hA X1 fun v2 d2 im2 h2 tk2 ex2 X2 r2 k2 => ?_
  refine k2 A kp im2 _ _ E hA X2 fun v3 d3 im3 h3 tk3 ex3 X3 r3 k3 => ?_
  obtain ⟨a, pre, ds, post, k, j, rfl, rfl, hσ, hlo, hhi, hidx, hj, kk⟩ := k3
  cases r2; cases r3
  obtain ⟨vars, own⟩ := σ
  dsimp only at hσ
  subst hσ
  obtain ⟨vs, m, hg, hr⟩ := X3.own (a, .lst ds) (by simp)
  have hlen := hr.length
  refine setItem_lo (j := j) hg (by simp [Builtin.List.listFitsIndex]; omega) (by rw [hlen]; exact hidx) (by omega) ?_
  refine q1 ⟨vars, pre ++ (a, .lst (ds.set j d)) :: post⟩ im3 _ _ (((ex1.trans ex2).trans ex3).trans Ext.same) (X3.turn (b := a) (by simp [AO.addrs]) rfl (Heap.SameBut.update h3 a _) ?_) kk
  refine ⟨vs.set j v, m, ?_, hr.set (r1.mono (ex2.trans ex3).le)⟩
  have := Heap.get?_update_self (h := h3) (a := a) (f := Obj.mapSeq (·.setIfInBounds j v)) (o := lo vs m) hg rfl
  simpa [Obj.mapSeq] using this
/-! two names at once -/
theorem Reps.two {im : Im} {vs : List Value} {d1 d2 : D} (r : Reps im vs [d1, d2]) : ∃ v1 v2, vs = [v1, v2] ∧ Rep im v1 d1 ∧ Rep im v2 d2 := by
  exact r.l2
theorem Rep.tupIs {im : Im} {v : Value} {ds : List D} (r : Rep im v (.tup ds)) : ∃ a vs n, v = .ref a ∧ im a = some (tu vs n) ∧ Reps im vs ds := by
  cases r with
  | tup e q => exact ⟨_, _, _, rfl, e, q⟩
theorem unpack_two {A : Around} {s : Shared} {v : Value} {d1 d2 : D} {Q : List Value → Shared → Prop} {E : Value → Shared → Prop} (hA : AOk n A) (X : Hd c fx σ kp im s.heap) (r : Rep im v (.tup [d1, d2]))
    (hQ : ∀ v1 v2 h', Hd c fx σ kp im h' → Rep im v1 d1 → Rep im v2 d2 → Q [v1, v2] { s with heap := h' }) : wpAny c.M A (unpackItems v 2 none) Q E s := by
  obtain ⟨a, vs, m, rfl, e, q⟩ := r.tupIs
  obtain ⟨v1, v2, hvs, r1, r2⟩ := q.two
  have ht : IsTup s.heap a vs.toArray := ⟨_, X.hg.iin _ _ e, rfl, _, rfl⟩
  have hz : vs.toArray.size = 2 := by rw [hvs]; rfl
  have hl : vs.toArray.toList = [v1, v2] := by rw [hvs]
  rw [← hz]
  refine unpackItems_tuple hA.1 ht fun h' he => ?_
  rw [hl]
  exact hQ v1 v2 h' (X.keeps fun a o z => he a o (Nat.ne_of_lt (Heap.lt_size z)) z) r1 r2
theorem Ws_swap2 {x y : Str} {px py tp pos : Pos} {kk : Nat} {e : Expr} {kn : St → Prop} {kr : St → D → Prop} (hx : Storable fx x) (hy : Storable fx y)
    (h : We c n fx σ e fun d => ∃ d1 d2, d = .tup [d1, d2] ∧ kn ((σ.set y d2).set x d1))
    (hs : swapsWithSole [.Tuple [.Name x px, .Name y py] kk tp] e pos.line fx.env = pure false := by rfl)
    (hw : swappedStores [.Tuple [.Name x px, .Name y py] kk tp] e fx.env = pure (some [x, y]) := by rfl) :
    Ws c n fx σ (.Assign [.Tuple [.Name x px, .Name y py] kk tp] e pos) kn kr := by
  intro A kp im s Q E hA X q1 q2
  refine Assign_Tuple_swapped (names := [x, y]) (h A kp im s _ E hA X fun v d im1 h1 tk1 ex1 X1 r1 k1 => ?_) hs hw
  obtain ⟨d1, d2, rfl, kd⟩ := k1
  refine unpack_two hA X1 r1 fun v1 v2 h2 X2 r1 r2 => ?_
  show wpAny c.M A (do holding [v1] (bindName fx.env y v2); assignInOrder [fun v => bindName fx.env x v] [v1]) _ E _
  refine wpAny_bind (wpAny_holding (wpAny_bindName (store_any X2 r2 hy fun h3 tk3 X3 => ?_)))
  show wpAny c.M A (do holding [] (bindName fx.env x v1); pure ()) _ E _
  refine wpAny_bind (wpAny_holding (wpAny_bindName (store_any X3 r1 hx fun h4 tk4 X4 => wpAny_pure ?_)))
  exact q1 _ im1 h4 tk4 (ex1.trans Ext.same) X4 kd
theorem Ws_unpack2 {x y : Str} {px py tp pos : Pos} {kk : Nat} {e : Expr} {kn : St → Prop} {kr : St → D → Prop} (hx : Storable fx x) (hy : Storable fx y)
    (h : We c n fx σ e fun d => ∃ d1 d2, d = .tup [d1, d2] ∧ kn ((σ.set x d1).set y d2))
    (hs : swapsWithSole [.Tuple [.Name x px, .Name y py] kk tp] e pos.line fx.env = pure false := by rfl)
    (hw : swappedStores [.Tuple [.Name x px, .Name y py] kk tp] e fx.env = pure none := by rfl) :
    Ws c n fx σ (.Assign [.Tuple [.Name x px, .Name y py] kk tp] e pos) kn kr := by
  intro A kp im s Q E hA X q1 q2
  refine Assign_Tuple (h A kp im s _ E hA X fun v d im1 h1 tk1 ex1 X1 r1 k1 => ?_) hs hw
  obtain ⟨d1, d2, rfl, kd⟩ := k1
  show wpAny c.M A (do standAt tp; unpack v [(false, assign (.Name x px) fx.env), (false, assign (.Name y py) fx.env)]) _ E _
  refine wpAny_bind (wpAny_standAt ?_)
  show wpAny c.M A (do assignInOrder [assign (.Name x px) fx.env, assign (.Name y py) fx.env] (← holding [v] (unpackItems v 2 none))) _ E _
  refine wpAny_bind (wpAny_holding (unpack_two hA X1 r1 fun v1 v2 h2 X2 r1 r2 => ?_))
  show wpAny c.M A (do holding [v2] (assign (.Name x px) fx.env v1); assignInOrder [assign (.Name y py) fx.env] [v2]) _ E _
  refine wpAny_bind (wpAny_holding (wpAny_assign_Name (store_any X2 r1 hx fun h3 tk3 X3 => ?_)))
  show wpAny c.M A (do holding [] (assign (.Name y py) fx.env v2); pure ()) _ E _
  refine wpAny_bind (wpAny_holding (wpAny_assign_Name (store_any X3 r2 hy fun h4 tk4 X4 => wpAny_pure ?_)))
  exact q1 _ im1 h4 tk4 (ex1.trans Ext.same) X4 kd
/-! while -/
theorem Ws_while {t : Expr} {body : List Stmt} {pos : Pos} {kn : St → Prop} {kr : St → D → Prop} (I : Nat → St → Prop) (m : Nat) (h0 : I m σ)
    (turn : ∀ m σ', I m σ' → Wt c n fx σ' t fun b => if b = true then Wx c n fx σ' body (fun σ2 => ∃ m', m' < m ∧ I m' σ2) kr else kn σ') :
    Ws c n fx σ (.While t body [] pos) kn kr := by
  intro A kp im s Q E hA X q1 q2
  refine wpAny_While (codeAny_whileLoop (fun m' s' => ∃ σ' im' h' tk', s' = { s with heap := h', toks := tk' } ∧ Ext kp im s.heap im' h' ∧ Hd c fx σ' kp im' h' ∧ I m' σ') ?_ m ⟨σ, im, s.heap, s.toks, rfl, Ext.refl _ _ _, X, h0⟩)
  rintro m' s' ⟨σ', im', h', tk', rfl, ex, X', hI⟩
  refine turn m' σ' hI A kp im' _ _ _ hA X' fun b im2 h2 tk2 ex2 X2 kb => ?_
  cases b with
  | true =>
    have kb : Wx c n fx σ' body (fun σ2 => ∃ m2, m2 < m' ∧ I m2 σ2) kr := by simpa using kb
    simp only [if_true]
    refine kb A kp im2 _ _ _ hA X2 (fun σ3 im3 h3 tk3 ex3 X3 k3 => ?_) fun v d σ3 im3 h3 tk3 ex3 X3 r3 k3 => ?_
    · obtain ⟨m2, hm, hI2⟩ := k3
      exact ⟨m2, hm, σ3, im3, h3, tk3, rfl, (ex.trans ex2).trans ex3, X3, hI2⟩
    · exact q2 v d σ3 im3 h3 tk3 ((ex.trans ex2).trans ex3) X3 r3 k3
  | false =>
    have kb : kn σ' := by simpa using kb
    simp only [Bool.false_eq_true, if_false]
    exact wpAny_execs_nil (q1 σ' im2 h2 tk2 (ex.trans ex2) X2 kb)
/-! for -/
def rngD (a z : Int) (m : Nat) : List D := (List.range m).map fun i => .int (a + (i : Nat) * z)
def itemsOf (d : D) (xs : List D) : Prop :=
  match d with
  | .lst ds => xs = ds
  | .rng a b z => Builtin.Range.small a b z = true ∧ ∃ m : Nat, Builtin.Range.rangeSize a b z = (m : Int) ∧ xs = rngD a z m
  | _ => False
theorem rngD_get {a z : Int} {m i : Nat} (hi : i < m) : (rngD a z m)[i]? = some (.int (a + (i : Nat) * z)) := by
  unfold rngD; simp [hi]
theorem rngD_length {a z : Int} {m : Nat} : (rngD a z m).length = m := by simp [rngD]
/-- an iterator over data: what the library's walker says of it -/
structure Iter (prog : Program) (w : World) (A : Around) (im : Im) (I : Addr) (fp : List Addr) (xs : List D) (P : Nat → Value → Prop) (S : Nat → Heap → Prop) : Prop where
  W : Walks prog w A I fp [I] xs.length P S
  item : ∀ i v, i < xs.length → P i v → ∃ d, xs[i]? = some d ∧ Rep im v d
  foot : ∀ a ∈ fp, a = I ∨ ∃ o, im a = some o
  live : ∀ i h, S i h → ∃ o, h.get? I = some o
theorem iter_any {A : Around} {s : Shared} {v : Value} {d : D} {xs : List D} {Q : Value → Shared → Prop} {E : Value → Shared → Prop} (hA : AOk n A) (X : Hd c fx σ kp im s.heap) (r : Rep im v d) (hi : itemsOf d xs)
    (hQ : ∀ I fp P S o, Iter c.prog c.w A im I fp xs P S → I = s.heap.objs.size → S 0 (s.heap.push o) → Q (.ref I) { s with heap := s.heap.push o }) : wpAny c.M A (pyIter v) Q E s := by
  cases r with
  | lst e f g q =>
    rename_i a o vs m ds
    cases hi
    have hl : s.heap.IsList a vs.toArray := ⟨_, X.hg.iin _ _ e, f, _, g⟩
    have hne : a ≠ s.heap.objs.size := Nat.ne_of_lt (Heap.lt_size (X.hg.iin _ _ e))
    refine wpAny_pyIter_list hl ?_
    have W := Walks.list (prog := c.prog) (w := c.w) (A := A) hA.1 s.heap.objs.size a hne vs.toArray
    rw [show vs.toArray.size = xs.length from by rw [List.size_toArray, q.length]] at W
    refine hQ _ _ _ _ _ ⟨W, fun i v hi hv => ?_, fun b hb => ?_, fun i h z => let ⟨⟨o, z1, _⟩, _⟩ := z; ⟨o, z1⟩⟩ rfl ⟨⟨_, Heap.get?_push_size _ rfl, rfl, rfl⟩, hl.push _⟩
    · have hv : vs[i]? = some v := by simpa using hv
      obtain ⟨v', h1, h2⟩ := q.get (k := i) (d := xs[i]) (by simp [hi])
      rw [hv] at h1; cases h1
      exact ⟨_, by simp [hi], h2⟩
    · rcases List.mem_cons.mp hb with hb | hb
      · exact .inl hb
      · exact .inr ⟨o, (List.mem_singleton.mp hb) ▸ e⟩
  | rng e =>
    rename_i r a b z t u v
    obtain ⟨hs, m, hm, rfl⟩ := hi
    refine wpAny_pyIter_range (X.hg.iin _ _ e) hs ?_
    have W := (Walks.range (prog := c.prog) (w := c.w) (A := A) hA.1 s.heap.objs.size a z m)
    rw [show m = (rngD a z m).length from rngD_length.symm] at W
    refine hQ _ _ _ _ _ ⟨W, fun i v hi hv => ?_, fun b hb => .inl (List.mem_singleton.mp hb), fun i h z => ⟨_, z⟩⟩ rfl ?_
    · obtain ⟨t, rfl⟩ := hv
      rw [rngD_length] at hi
      exact ⟨_, rngD_get hi, .int _ _⟩
    · show IsRangeIter _ _ _ _ _
      rw [hm, rngD_length]
      simpa using Heap.get?_push_size _ rfl
  | _ => exact hi.elim
/-- an object that is neither relied on nor the frame's own changes -/
theorem Hd.other (X : Hd c fx σ kp im h) {I : Addr} (hI : kp I = none ∧ im I = none ∧ I ∉ muts fx σ) (hk : ∀ b o, b ≠ I → h.get? b = some o → h'.get? b = some o) : Hd c fx σ kp im h' := by
  have kk : ∀ b o, kp b = some o → h'.get? b = some o := fun b o z => hk b o (fun w => by rw [w, hI.1] at z; cases z) (X.kin b o z)
  have nI : ∀ b ∈ muts fx σ, b ≠ I := fun b hb w => hI.2.2 (w ▸ hb)
  have cellk : ∀ b v₀, (b ∈ fx.wr ∨ ∃ o, kp b = some o) → h.IsCell b v₀ → h'.IsCell b v₀ := fun b v₀ hb ⟨o, z1, z2⟩ => by
    refine ⟨o, hk b o (fun w => ?_) z1, z2⟩
    rcases hb with hb | ⟨o', hb⟩
    · exact nI b (.tail _ (List.mem_append_left _ hb)) w
    · rw [w, hI.1] at hb; cases hb
  refine ⟨X.kind, X.cap, X.cel, X.glob, X.blt, ⟨fun b o z => kk b o (X.gk b o z), X.hg.imK, fun b o z => hk b o (fun w => by rw [w, hI.2.1] at z; cases z) (X.hg.iin b o z)⟩, X.gk, kk, ?_, X.nodup, fun b hb => ?_, fun p hp => ?_, fun b hb => ?_⟩
  · obtain ⟨m, hn, hv⟩ := X.ns
    refine ⟨m, hn.at' fun o z => hk _ o (nI _ (.head _)) z, fun y e hy => ?_⟩
    rcases hv y e hy with ⟨k1, v', k2, k3⟩ | ⟨k1, b, v', k2, k3, k4⟩
    · exact .inl ⟨k1, v', k2, k3⟩
    · exact .inr ⟨k1, b, v', k2, cellk b _ (X.cel _ _ k2) k3, k4⟩
  · obtain ⟨z1, z2, o, z3⟩ := X.off b hb
    exact ⟨z1, z2, o, hk b o (nI b hb) z3⟩
  · exact (X.own p hp).mono (Le.refl _) fun b hb ob z => hk b ob (nI b (.tail _ (List.mem_append_right _ (List.mem_flatMap.mpr ⟨p, hp, hb⟩)))) z
  · obtain ⟨v₀, z⟩ := X.wrc b hb
    exact ⟨v₀, cellk b _ (.inl hb) z⟩
/-- one more object that is to be kept -/
theorem Hd.guard (X : Hd c fx σ kp im h) {I : Addr} {o : Obj} (ho : h.get? I = some o) (hI : I ∉ muts fx σ) (hk : kp I = none) : Hd c fx σ (kp.put I o) im h := by
  have le : Le kp (kp.put I o) := fun b ob e => by
    have : b ≠ I := fun q => by rw [q, hk] at e; cases e
    rw [Im.put_ne _ _ this]; exact e
  refine ⟨X.kind, X.cap, fun y a e => (X.cel y a e).imp id fun ⟨o', z⟩ => ⟨o', le _ _ z⟩, X.glob, X.blt, X.hg, fun a b e => le _ _ (X.gk a b e), fun a b e => ?_, X.ns, X.nodup, fun b hb => ?_, X.own, X.wrc⟩
  · unfold Im.put at e
    split at e
    · rename_i q; subst q; cases e; exact ho
    · exact X.kin _ _ e
  · obtain ⟨z1, z2, z3⟩ := X.off b hb
    refine ⟨?_, z2, z3⟩
    have hne : b ≠ I := fun q => by rw [q] at hb; exact hI hb
    rw [Im.put_ne _ _ hne]; exact z1
theorem Hd.unguard {kp' : Im} (X : Hd c fx σ kp' im h) (le : Le kp kp') (gk : ∀ a o, c.G.get? a = some o → kp a = some o) (hc : ∀ y a, fx.env.cells.lookup y = some a → a ∈ fx.wr ∨ ∃ o, kp a = some o) : Hd c fx σ kp im h := by
  refine ⟨X.kind, X.cap, hc, X.glob, X.blt, X.hg, gk, fun a o e => X.kin a o (le a o e), X.ns, X.nodup, fun b hb => ?_, X.own, X.wrc⟩
  · obtain ⟨z1, z2, z3⟩ := X.off b hb
    refine ⟨?_, z2, z3⟩
    cases q : kp b with
    | none => rfl
    | some o => rw [le b o q] at z1; cases z1
end
section
variable {c : Cx} {n : Nat} {fx : Fx} {σ : St} {kp im : Im} {h h' : Heap}
theorem foot_keep {im : Im} {h h' : Heap} {I : Addr} {fp : List Addr} {oI : Obj} (hf : ∀ a ∈ fp, a = I ∨ ∃ o, im a = some o) (hi : ∀ a o, im a = some o → h.get? a = some o) (hi' : ∀ a o, im a = some o → h'.get? a = some o)
    (hoI : h.get? I = some oI) (hoI' : h'.get? I = some oI) : ∀ b ∈ fp, ∀ o, h.get? b = some o → h'.get? b = some o := by
  intro b hb o e
  rcases hf b hb with rfl | ⟨o', z⟩
  · rw [hoI] at e; rw [← e]; exact hoI'
  · rw [hi b o' z] at e; rw [← e]; exact hi' b o' z
theorem Le.put {kp : Im} {I : Addr} {o : Obj} (hk : kp I = none) : Le kp (kp.put I o) := fun b ob e => by
  have : b ≠ I := fun q => by rw [q, hk] at e; cases e
  rw [Im.put_ne _ _ this]; exact e
/-- a turn of a loop, from its item to the next -/
theorem Ws_for {x : Str} {p pos : Pos} {it : Expr} {body : List Stmt} {kn : St → Prop} {kr : St → D → Prop} (hx : Storable fx x)
    (h : We c n fx σ it fun d => ∃ xs, itemsOf d xs ∧ ∃ st : Nat → St → Prop, st 0 σ ∧ (∀ i d σ', xs[i]? = some d → st i σ' → Wx c n fx (σ'.set x d) body (st (i + 1)) kr) ∧ ∀ σ', st xs.length σ' → kn σ')
    (hs : ∀ x, foldedSetIterable it fx.env x = pure x := by intro _; rfl) : Ws c n fx σ (.For (.Name x p) it body [] pos) kn kr := by
  intro A kp im s Q E hA X q1 q2
  refine wpAny_For (h A kp im s _ E hA X fun v d im1 h1 tk1 ex1 X1 r1 k1 => ?_) hs
  obtain ⟨xs, hit, st, s0, turn, done⟩ := k1
  refine iter_any hA X1 r1 hit fun I fp P S o T hI S0 => ?_
  have fr : Fresh fx σ kp im1 I := Fresh.of X1 (hI ▸ size_none _)
  have hkI := fr.2.1
  refine codeAny_forLoop (fun m s' => ∃ i σ' im' h' tk', s' = { s with heap := h', toks := tk' } ∧ m = xs.length + 1 - i ∧ i ≤ xs.length ∧ S i h' ∧ Hd c fx σ' kp im' h' ∧ Ext kp im s.heap im' h' ∧ Le im1 im' ∧ im' I = none ∧ I ∉ muts fx σ' ∧ st i σ') ?_ (xs.length + 1)
    ⟨0, σ, im1, _, _, rfl, rfl, Nat.zero_le _, S0, X1.push0 o, ex1.trans Ext.same, Le.refl _, fr.1, fr.2.2, s0⟩
  rintro m s' ⟨i, σ', im', h', tk', rfl, rfl, hi, hS, X', ex, le1, hmI, hoff, hst⟩
  by_cases hlt : i < xs.length
  · refine T.W.item i _ _ _ hlt hS fun v h2 tk2 hP S2 hk2 => ?_
    have X2 : Hd c fx σ' kp im' h2 := X'.other ⟨hkI, hmI, hoff⟩ fun b ob hb e => hk2 b ob (by simpa using hb) e
    obtain ⟨dv, hd, rv⟩ := T.item i v hlt hP
    obtain ⟨oI, hoI⟩ := T.live _ _ S2
    have X2g := X2.guard hoI hoff hkI
    refine wpAny_assign_Name (store_any X2g (rv.mono le1) hx fun h3 tk3 X3 => ?_)
    refine turn i dv σ' hd hst A (kp.put I oI) im' _ _ _ hA X3 (fun σ4 im4 h4 tk4 ex4 X4 k4 => ?_) fun v d σ4 im4 h4 tk4 ex4 X4 r4 k4 => ?_
    · have hkI4 : (kp.put I oI) I = some oI := Im.put_self _ _ _
      refine ⟨xs.length + 1 - (i + 1), by omega, i + 1, σ4, im4, h4, tk4, rfl, rfl, hlt, ?_, X4.unguard (Le.put hkI) X.gk X.cel, ?_, le1.trans ex4.le, ?_, fun q => ?_, k4⟩
      · exact T.W.frame _ _ _ S2 (foot_keep T.foot (fun a ob e => X2.hg.iin _ _ (le1 _ _ e)) (fun a ob e => X4.hg.iin _ _ (ex4.le _ _ (le1 _ _ e))) hoI (X4.kin I oI hkI4))
      · exact ex.trans (ex4.weak (Le.put hkI)).at
      · cases q : im4 I with
        | none => rfl
        | some ob =>
          rcases ex4.new I ob q with z | z
          · rw [hmI] at z; cases z
          · rw [hkI4] at z; cases z
      · rw [(X4.off I q).1] at hkI4; cases hkI4
    · exact q2 v d σ4 im4 h4 tk4 (ex.trans (ex4.weak (Le.put hkI)).at) (X4.unguard (Le.put hkI) X.gk X.cel) r4 k4
  · have hi' : i = xs.length := by omega
    subst hi'
    refine T.W.done _ _ _ hS fun h2 tk2 hk2 => ?_
    have X2 : Hd c fx σ' kp im' h2 := X'.other ⟨hkI, hmI, hoff⟩ fun b ob hb e => hk2 b ob (by simpa using hb) e
    exact wpAny_execs_nil (q1 σ' im' h2 tk2 (ex.trans Ext.same) X2 (done σ' hst))
/-! a list of the frame's own is kept from now on: a step of thought alone -/
/-- d' tells the same value as d does, once a's list stands for good -/
def Froz (a : Addr) (ds : List D) (d d' : D) : Prop := d' = d ∨ (d = .raw (.ref a) ∧ d' = .lst ds)
theorem Froz.rep {a : Addr} {ds : List D} {d d' : D} {v : Value} {im' : Im} (z : Froz a ds d d') (le : Le im im') (r : Rep im v d) (r' : Rep im' (.ref a) (.lst ds)) : Rep im' v d' := by
  rcases z with rfl | ⟨rfl, rfl⟩
  · exact r.mono le
  · cases r; exact r'
inductive Frozs (a : Addr) (ds : List D) : List D → List D → Prop
  | nil : Frozs a ds [] []
  | cons {d d' : D} {es es' : List D} : Froz a ds d d' → Frozs a ds es es' → Frozs a ds (d :: es) (d' :: es')
theorem Frozs.rep {a : Addr} {ds : List D} {im' : Im} : ∀ {es es' : List D} {vs : List Value}, Frozs a ds es es' → Le im im' → Reps im vs es → Rep im' (.ref a) (.lst ds) → Reps im' vs es'
  | _, _, _, .nil, _, .nil, _ => .nil
  | _, _, _, .cons z q, le, .cons r rs, r' => .cons (z.rep le r r') (q.rep le rs r')
theorem Frozs.refl (a : Addr) (ds : List D) : ∀ es, Frozs a ds es es
  | [] => .nil
  | _ :: r => .cons (.inl rfl) (Frozs.refl a ds r)
inductive Frozf (a : Addr) (ds : List D) : List (Str × D) → List (Str × D) → Prop
  | nil : Frozf a ds [] []
  | cons {x : Str} {d d' : D} {es es' : List (Str × D)} : Froz a ds d d' → Frozf a ds es es' → Frozf a ds ((x, d) :: es) ((x, d') :: es')
theorem Frozf.rep {a : Addr} {ds : List D} {im' : Im} : ∀ {fs fs' : List (Str × D)} {es : List DictEntry}, Frozf a ds fs fs' → Le im im' → Fds im es fs → Rep im' (.ref a) (.lst ds) → Fds im' es fs'
  | _, _, _, .nil, _, .nil, _ => .nil
  | _, _, _, .cons z q, le, .cons r rs, r' => .cons (z.rep le r r') (q.rep le rs r')
theorem Frozf.refl (a : Addr) (ds : List D) : ∀ es, Frozf a ds es es
  | [] => .nil
  | (_, _) :: r => .cons (.inl rfl) (Frozf.refl a ds r)
def FrozA (a : Addr) (ds : List D) : AO → AO → Prop
  | .lst es, .lst es' => Frozs a ds es es'
  | .obj dx fs, .obj dx' fs' => dx = dx' ∧ Frozf a ds fs fs'
  | _, _ => False
inductive FrozO (a : Addr) (ds : List D) : Own → Own → Prop
  | nil : FrozO a ds [] []
  | cons {b : Addr} {o o' : AO} {r r' : Own} : FrozA a ds o o' → FrozO a ds r r' → FrozO a ds ((b, o) :: r) ((b, o') :: r')
theorem FrozO.refl (a : Addr) (ds : List D) : ∀ o : Own, FrozO a ds o o
  | [] => .nil
  | (_, .lst es) :: r => .cons (Frozs.refl a ds es) (FrozO.refl a ds r)
  | (_, .obj dx fs) :: r => .cons ⟨rfl, Frozf.refl a ds fs⟩ (FrozO.refl a ds r)
theorem FrozA.at {a b : Addr} {ds : List D} {im' : Im} {o o' : AO} (z : FrozA a ds o o') (le : Le im im') (r' : Rep im' (.ref a) (.lst ds)) (x : OwnAt im h b o) : OwnAt im' h b o' := by
  match o, o', z with
  | .lst es, .lst es', z => obtain ⟨vs, m, e, r⟩ := x; exact ⟨vs, m, e, Frozs.rep z le r r'⟩
  | .obj dx fs, .obj _ fs', ⟨rfl, z⟩ => obtain ⟨sl, es, m, e, f, r⟩ := x; exact ⟨sl, es, m, e, f, z.rep le r r'⟩
theorem FrozA.addrs {a b : Addr} {ds : List D} {o o' : AO} (z : FrozA a ds o o') : o'.addrs b = o.addrs b := by
  match o, o', z with
  | .lst es, .lst es', z => rfl
  | .obj dx fs, .obj _ fs', ⟨rfl, z⟩ => rfl
theorem FrozO.addrs {a : Addr} {ds : List D} : ∀ {o o' : Own}, FrozO a ds o o' → o'.addrs = o.addrs
  | _, _, .nil => rfl
  | _, _, .cons z q => by
    have := q.addrs
    simp only [Own.addrs, List.flatMap_cons] at this ⊢
    rw [this, z.addrs]
theorem FrozO.at {a : Addr} {ds : List D} {im' : Im} (le : Le im im') (r' : Rep im' (.ref a) (.lst ds)) : ∀ {o o' : Own}, FrozO a ds o o' → (∀ p ∈ o, OwnAt im h p.1 p.2) → ∀ p ∈ o', OwnAt im' h p.1 p.2
  | _, _, .nil, _, _, hp => nomatch hp
  | _, _, .cons z q, x, p, hp => by
    rcases List.mem_cons.mp hp with rfl | hp
    · exact z.at le r' (x _ (.head _))
    · exact FrozO.at le r' q (fun p hp => x p (.tail _ hp)) p hp
theorem Hd.freeze {vars vars' : List (Str × D)} {pre post own' : Own} {a : Addr} {ds : List D} (X : Hd c fx ⟨vars, pre ++ (a, .lst ds) :: post⟩ kp im h) (hv : ∀ x d', vars'.lookup x = some d' → ∃ d, vars.lookup x = some d ∧ Froz a ds d d') (ho : FrozO a ds (pre ++ post) own') :
    ∃ im', Hd c fx ⟨vars', own'⟩ kp im' h ∧ Ext kp im h im' h := by
  have hm : (a, AO.lst ds) ∈ (⟨vars, pre ++ (a, .lst ds) :: post⟩ : St).own := by simp
  obtain ⟨vs, m, e, r⟩ := X.own _ hm
  have ham : a ∈ muts fx ⟨vars, pre ++ (a, .lst ds) :: post⟩ := .tail _ (List.mem_append_right _ (List.mem_flatMap.mpr ⟨_, hm, by simp [AO.addrs]⟩))
  obtain ⟨ka, ia, _⟩ := X.off a ham
  have le : Le im (im.put a (lo vs m)) := Le.put ia
  have ra : Rep (im.put a (lo vs m)) (.ref a) (.lst ds) := .lst (Im.put_self _ _ _) rfl rfl (r.mono le)
  have had : Own.addrs own' = Own.addrs (pre ++ post) := ho.addrs
  have hsub : ∀ b, b ∈ Own.addrs (pre ++ post) → b ∈ Own.addrs (pre ++ (a, AO.lst ds) :: post) := fun b hb => by
    simp only [Own.addrs, List.flatMap_append, List.flatMap_cons, List.mem_append] at hb ⊢
    exact hb.imp id .inr
  have nd := X.nodup
  refine ⟨im.put a (lo vs m), ⟨X.kind, X.cap, X.cel, X.glob, X.blt, ⟨X.hg.gd, fun b o z => le _ _ (X.hg.imK b o z), fun b o z => ?_⟩, X.gk, X.kin, ?_, ?_, fun b hb => ?_, FrozO.at le ra ho fun p hp => X.own p ?_, X.wrc⟩, le, fun b o z => ?_⟩
  · unfold Im.put at z
    split at z
    · rename_i q; subst q; cases z; exact e
    · exact X.hg.iin _ _ z
  · obtain ⟨mm, hn, hvs⟩ := X.ns
    refine ⟨mm, hn, fun y d' hy => ?_⟩
    obtain ⟨d, hd, z⟩ := hv y d' hy
    rcases hvs y d hd with ⟨k1, v, k2, k3⟩ | ⟨k1, b, v, k2, k3, k4⟩
    · exact .inl ⟨k1, v, k2, z.rep le k3 ra⟩
    · exact .inr ⟨k1, b, v, k2, k3, z.rep le k4 ra⟩
  · show (fx.env.locals :: (fx.wr ++ Own.addrs own')).Nodup
    rw [had]
    have sl : (Own.addrs (pre ++ post)).Sublist (Own.addrs (pre ++ (a, AO.lst ds) :: post)) := by
      simp only [Own.addrs, List.flatMap_append, List.flatMap_cons]
      exact (List.Sublist.refl _).append (List.sublist_append_right _ _)
    exact nd.sublist (((List.Sublist.refl fx.wr).append sl).cons_cons _)
  · have hb : b ∈ fx.env.locals :: (fx.wr ++ Own.addrs own') := hb
    rw [had] at hb
    have hb' : b ∈ muts fx ⟨vars, pre ++ (a, .lst ds) :: post⟩ := by
      rcases List.mem_cons.mp hb with rfl | hb
      · exact .head _
      · rcases List.mem_append.mp hb with hb | hb
        · exact .tail _ (List.mem_append_left _ hb)
        · exact .tail _ (List.mem_append_right _ (hsub b hb))
    obtain ⟨z1, z2, z3⟩ := X.off b hb'
    refine ⟨z1, ?_, z3⟩
    have : b ≠ a := by
      rintro rfl
      have nd2 := nd
      simp only [Own.addrs, List.flatMap_append, List.flatMap_cons, AO.addrs] at nd2 hb
      have nd3 : (fx.env.locals :: (fx.wr ++ (List.flatMap (fun p => p.2.addrs p.1) pre ++ (b :: List.flatMap (fun p => p.2.addrs p.1) post)))).Nodup := nd2
      simp only [List.nodup_cons, List.nodup_append, List.mem_append, List.mem_cons, not_or] at nd3
      simp only [List.mem_cons, List.mem_append] at hb
      rcases hb with hb | hb | hb | hb
      · exact nd3.1.2.2.1 hb.symm
      · exact nd3.2.2.2 b hb b (.inr (.inl rfl)) rfl
      · exact nd3.2.2.1.2.2 b hb b (.inl rfl) rfl
      · exact nd3.2.2.1.2.1.1 hb
    rw [Im.put_ne _ _ this]; exact z2
  · rcases List.mem_append.mp hp with hp | hp
    · exact List.mem_append_left _ hp
    · exact List.mem_append_right _ (.tail _ hp)
  · unfold Im.put at z
    split at z
    · rename_i q; subst q; exact .inr ka
    · exact .inl z
/-- as a step of a proof -/
theorem Wx_freeze {ss : List Stmt} {kn : St → Prop} {kr : St → D → Prop} {vars : List (Str × D)} {pre post : Own} {a : Addr} {ds : List D} (vars' : List (Str × D)) (own' : Own) (hv : ∀ x d', vars'.lookup x = some d' → ∃ d, vars.lookup x = some d ∧ Froz a ds d d') (ho : FrozO a ds (pre ++ post) own')
    (h : Wx c n fx ⟨vars', own'⟩ ss kn kr) : Wx c n fx ⟨vars, pre ++ (a, .lst ds) :: post⟩ ss kn kr := by
  intro A kp im s Q E hA X q1 q2
  obtain ⟨im', X', ex⟩ := X.freeze hv ho
  exact h A kp im' s Q E hA X' (fun σ2 im2 h2 tk2 ex2 X2 k2 => q1 σ2 im2 h2 tk2 (ex.trans ex2) X2 k2) fun v d σ2 im2 h2 tk2 ex2 X2 r k2 => q2 v d σ2 im2 h2 tk2 (ex.trans ex2) X2 r k2
end
theorem bindL_not {kindOf : Str → Option NameKind} {x : Str} : ∀ (binds : List (Str × Value)) (m : Str → Option Value), x ∉ binds.map (·.1) → bindL kindOf binds m x = m x
  | [], _, _ => rfl
  | (y, v) :: r, m, h => by
    simp only [List.map_cons, List.mem_cons, not_or] at h
    rw [bindL, bindL_not r _ h.2]
    split
    · simp [h.1]
    · rfl
theorem bindL_mem {kindOf : Str → Option NameKind} {x : Str} {v : Value} (hk : kindOf x = some .local) : ∀ (binds : List (Str × Value)) (m : Str → Option Value), (binds.map (·.1)).Nodup → (x, v) ∈ binds → bindL kindOf binds m x = some v
  | (y, u) :: r, m, nd, h => by
    simp only [List.map_cons, List.nodup_cons] at nd
    rcases List.mem_cons.mp h with h | h
    · cases h
      rw [bindL, bindL_not r _ nd.1, if_pos hk]; simp
    · rw [bindL]; exact bindL_mem hk r _ nd.2 h
theorem bindC_not {kindOf : Str → Option NameKind} {x : Str} : ∀ (binds : List (Str × Value)) (m : Str → Option Value), x ∉ binds.map (·.1) → bindC kindOf binds m x = m x
  | [], _, _ => rfl
  | (y, v) :: r, m, h => by
    simp only [List.map_cons, List.mem_cons, not_or] at h
    rw [bindC, bindC_not r _ h.2]
    split
    · rfl
    · simp [h.1]
theorem bindC_mem {kindOf : Str → Option NameKind} {x : Str} {v : Value} (hk : ¬ kindOf x = some .local) : ∀ (binds : List (Str × Value)) (m : Str → Option Value), (binds.map (·.1)).Nodup → (x, v) ∈ binds → bindC kindOf binds m x = some v
  | (y, u) :: r, m, nd, h => by
    simp only [List.map_cons, List.nodup_cons] at nd
    rcases List.mem_cons.mp h with h | h
    · cases h
      rw [bindC, bindC_not r _ nd.1, if_neg hk]; simp
    · rw [bindC]; exact bindC_mem hk r _ nd.2 h
theorem zip_lookup {im : Im} : ∀ {xs : List Str} {ws : List Value} {es : List D} {x : Str} {d : D}, Reps im ws es → (xs.zip es).lookup x = some d → ∃ v, (x, v) ∈ xs.zip ws ∧ Rep im v d
  | [], _, _, _, _, _, h => by simp at h
  | _ :: _, _, _, _, _, .nil, h => by simp at h
  | y :: xs, _, _, x, d, .cons (v := v) r q, h => by
    rw [List.zip_cons_cons, List.lookup_cons] at h
    cases e : x == y with
    | true => rw [e] at h; cases h; rw [beq_iff_eq.mp e]; exact ⟨v, by simp, r⟩
    | false =>
      rw [e] at h
      obtain ⟨u, h1, h2⟩ := zip_lookup q h
      exact ⟨u, by simp [h1], h2⟩
theorem zip_names {im : Im} : ∀ {xs : List Str} {ws : List Value} {es : List D}, Reps im ws es → xs.length = es.length → (xs.zip ws).map (·.1) = xs
  | [], _, _, _, _ => by simp
  | _ :: _, _, _, .nil, h => by simp at h
  | y :: xs, _, _, .cons r q, h => by
    rw [List.zip_cons_cons, List.map_cons, zip_names q (by simpa using h)]
section
variable {c : Cx} {n : Nat}
/-- the frame of a def's call -/
abbrev fxOf (qual : Str) (scope : Scope) (L f : Addr) (cdv : Value) : Fx := ⟨envOfC qual scope L f cdv, (cellsFrom (L + 1) scope.names []).map (·.2)⟩
theorem enter_def {A : Around} {s : Shared} {im : Im} {name qual : Str} {params : Arguments} {body : List Stmt} {scope : Scope} {dV kV doc pm cdv ct oc : Value} {an od : Option Addr} {osl : Array (Option Value)} {f : Addr} {vs ws : List Value} {xs : List Str} {es : List D}
    {R : Result → Shared → Prop} {kn : St → Prop} {kr : St → D → Prop}
    (ho : c.K.lookup f = some ⟨oc, od, .func (fnOf name qual params body scope dV kV doc pm an cdv ct), osl⟩) (hcd : codeIn c.K cdv qual = true)
    (hA : AOk (n + 1) A) (hg : Hg c im s.heap) (hb : BindsTo s (fnOf name qual params body scope dV kV doc pm an cdv ct) ⟨vs, []⟩ (xs.zip ws)) (hr : Reps im ws es) (hlen : xs.length = es.length) (hnx : xs.Nodup)
    (hkx : ∀ x ∈ xs, scope.names.lookup x = some .local ∨ scope.names.lookup x = some .cell) (hnn : (scope.names.map (·.1)).Nodup) (hk : scope.kind = .function) (hco : scope.isCoroutine = false) (hgen : scope.isGenerator = false)
    (h : ∀ L, Wx c n (fxOf qual scope L f cdv) ⟨xs.zip es, []⟩ body kn kr)
    (hR : ∀ v d σ' L im' h' tk', Ext s.heap.get? im s.heap im' h' → Hd c (fxOf qual scope L f cdv) σ' s.heap.get? im' h' → Rep im' v d → ((v = .none ∧ d = .none ∧ kn σ') ∨ kr σ' d) → R (.ok (.ret v)) { s with heap := h', toks := tk' }) :
    codeAny c.M A (.call (.ref f) ⟨vs, []⟩) R s := by
  have hoh : s.heap.get? f = some ⟨oc, od, .func (fnOf name qual params body scope dV kV doc pm an cdv ct), osl⟩ := hg.gd _ _ (c.X _ _ ho)
  have cn : ((cellsFrom 0 scope.names []).map (·.1)).Nodup := by
    have : ∀ (names : List (Str × NameKind)) (k : Nat) (acc : List (Str × Addr)), (names.map (·.1)).Nodup → (acc.map (·.1)).Nodup → (∀ x ∈ names.map (·.1), x ∉ acc.map (·.1)) → ((cellsFrom k names acc).map (·.1)).Nodup := by
      intro names
      induction names with
      | nil => intro k acc _ h2 _; exact h2
      | cons p r ih =>
        intro k acc h1 h2 h3
        obtain ⟨y, kd⟩ := p
        simp only [List.map_cons, List.nodup_cons] at h1
        unfold cellsFrom
        split
        · refine ih _ _ h1.2 ?_ fun x hx => ?_
          · simp only [List.map_cons, List.nodup_cons]; exact ⟨h3 y (by simp), h2⟩
          · simp only [List.map_cons, List.mem_cons, not_or]
            exact ⟨fun q => h1.1 (q ▸ hx), h3 x (by simp at hx ⊢; exact .inr hx)⟩
        · exact ih _ _ h1.2 h2 fun x hx => h3 x (by simp at hx ⊢; exact .inr hx)
    exact this _ _ _ hnn (by simp) (by simp)
  have cmem : ∀ k, ∀ x, scope.names.lookup x = some .cell → ((cellsFrom k scope.names []).lookup x).isSome = true := by
    intro k x hx
    have : ∀ (names : List (Str × NameKind)) (k : Nat) (acc : List (Str × Addr)), ((acc.lookup x).isSome = true ∨ names.lookup x = some .cell) → ((cellsFrom k names acc).lookup x).isSome = true := by
      intro names
      induction names with
      | nil => intro k acc h; rcases h with h | h; exact h; simp at h
      | cons p r ih =>
        intro k acc h
        obtain ⟨y, kd⟩ := p
        unfold cellsFrom
        have hl : List.lookup x ((y, kd) :: r) = if x == y then some kd else r.lookup x := by rw [List.lookup_cons]; cases x == y <;> rfl
        rw [hl] at h
        split
        · refine ih _ _ ?_
          rw [List.lookup_cons]
          cases e : x == y with
          | true => exact .inl rfl
          | false => rw [e] at h; simpa using h
        · rename_i hkd
          refine ih _ _ ?_
          rcases h with h | h
          · exact .inl h
          · cases e : x == y with
            | true => rw [e] at h; simp at h; subst h; simp at hkd
            | false => rw [e] at h; exact .inr (by simpa using h)
    exact this _ _ _ (.inr hx)
  have hnames := zip_names (xs := xs) hr hlen
  have hin : ∀ y ∈ xs.zip ws, y.1 ∈ xs := fun y hy => by
    have : y.1 ∈ (xs.zip ws).map (·.1) := List.mem_map_of_mem hy
    rwa [hnames] at this
  have hbk : ∀ k, ∀ y ∈ xs.zip ws, scope.names.lookup y.1 = some .local ∨ (scope.names.lookup y.1 = some .cell ∧ ((cellsFrom k scope.names []).lookup y.1).isSome = true) := fun k y hy =>
    (hkx _ (hin y hy)).imp id fun e => ⟨e, cmem k _ e⟩
  refine codeAny_call_function (body := body) (by have := hA.2.1; omega) hoh rfl hco hgen rfl (codeRec_of (c.X.keeps hg.gd) hcd) (hb _ _ _ _ ?_)
  refine wpAny_newFunctionEnv_cells hk (hbk _) fun env' he s' x => ?_
  subst he
  refine ⟨(c.lim.keeps hg.gd).keeps x.toInCall.keep, codeAny_func ?_⟩
  obtain ⟨h₁, tk, rfl, hk₁⟩ := x.done
  have hL : s.heap.get? s.heap.objs.size = none := size_none _
  have lt_none : ∀ a, s.heap.objs.size ≤ a → s.heap.get? a = none := fun a ha => by
    cases q : s.heap.get? a with
    | none => rfl
    | some o => exact absurd (Heap.lt_size q) (Nat.not_lt.mpr ha)
  have inone : ∀ a, s.heap.objs.size ≤ a → im a = none := fun a ha => by
    cases q : im a with
    | none => rfl
    | some o => have := hg.iin _ _ q; rw [lt_none a ha] at this; cases this
  have ccell : ∀ nm a, (nm, a) ∈ cellsFrom (s.heap.objs.size + 1) scope.names [] → ∃ v₀, h₁.IsCell a v₀ := fun nm a hm =>
    ⟨_, x.cell nm a (lookup_of_mem_nodup (cellsFrom_names scope.names 0 (s.heap.objs.size + 1) [] [] rfl ▸ cn) hm)⟩
  have cabove : ∀ nm a, (nm, a) ∈ cellsFrom (s.heap.objs.size + 1) scope.names [] → s.heap.objs.size < a := fun nm a hm => x.above nm a hm
  have X : Hd c (fxOf qual scope s.heap.objs.size f cdv) ⟨xs.zip es, []⟩ s.heap.get? im h₁ := by
    refine ⟨hk, fun y y' a h1 h2 => name_of_addr x.apart (mem_of_lookup h1) (mem_of_lookup h2), fun y a e => .inl (List.mem_map.mpr ⟨(y, a), mem_of_lookup e, rfl⟩), rfl, rfl,
      ⟨fun a o e => hk₁ _ _ (hg.gd a o e), hg.imK, fun a o e => hk₁ _ _ (hg.iin a o e)⟩, hg.gd, hk₁, ⟨_, x.toInCall.ns, fun y d hd => ?_⟩, ?_, fun a ha => ?_, (fun p hp => nomatch hp), fun a ha => ?_⟩
    · obtain ⟨v, hm, rv⟩ := zip_lookup hr hd
      have nd : ((xs.zip ws).map (·.1)).Nodup := by rw [hnames]; exact hnx
      by_cases hl : scope.names.lookup y = some .local
      · exact .inl ⟨hl, v, bindL_mem (kindOf := (envOfC qual scope s.heap.objs.size f cdv).kindOf) hl _ _ nd hm, rv⟩
      · have hc : scope.names.lookup y = some .cell := (hkx y (hin _ hm)).resolve_left hl
        obtain ⟨a, ha⟩ := Option.isSome_iff_exists.mp (cmem (s.heap.objs.size + 1) y hc)
        refine .inr ⟨.inl hc, a, v, ha, ?_, rv⟩
        have := x.cell y a ha
        rw [bindC_mem (x := y) (v := v) hl _ _ nd hm] at this
        exact this
    · simp only [Own.addrs, List.flatMap_nil, List.append_nil, List.nodup_cons]
      refine ⟨fun q => ?_, ?_⟩
      · obtain ⟨⟨nm, a⟩, hm, e⟩ := List.mem_map.mp q
        have := cabove nm a hm
        have e : a = s.heap.objs.size := e
        rw [e] at this; exact Nat.lt_irrefl _ this
      · exact List.pairwise_map.mpr x.apart
    · simp only [Own.addrs, List.flatMap_nil, List.append_nil, List.mem_cons] at ha
      rcases ha with rfl | ha
      · obtain ⟨o, _, _, ho', _⟩ := x.toInCall.ns
        exact ⟨hL, inone _ (Nat.le_refl _), o, ho'⟩
      · obtain ⟨⟨nm, b⟩, hm, rfl⟩ := List.mem_map.mp ha
        obtain ⟨v₀, o, ho', _⟩ := ccell nm b hm
        have hab := Nat.le_of_lt (cabove nm b hm)
        exact ⟨lt_none _ hab, inone _ hab, o, ho'⟩
    · obtain ⟨⟨nm, b⟩, hm, rfl⟩ := List.mem_map.mp ha
      exact ccell nm b hm
  have hA' : AOk n (A.deeper (envOfC qual scope s.heap.objs.size f cdv)) := ⟨hA.1, by have := hA.2.1; show A.depth + 1 + n < _; omega, by have := hA.2.2; show A.units + 3 + 20 * n < _; omega⟩
  refine h s.heap.objs.size _ _ im { s with heap := h₁, toks := tk } _ _ hA' X (fun σ' im' h' tk' ex X' k => ?_) fun v d σ' im' h' tk' ex X' r k => ?_
  · exact hR _ .none σ' _ im' h' tk' ex.at X' .none (.inl ⟨rfl, rfl, k⟩)
  · exact hR _ d σ' _ im' h' tk' ex.at X' r (.inr k)
def scOk (xs : List Str) (scope : Scope) : Bool :=
  decide xs.Nodup && xs.all (fun x => scope.names.lookup x == some .local || scope.names.lookup x == some .cell) && decide ((scope.names.map (·.1)).Nodup) && decide (scope.kind = .function) && !scope.isCoroutine && !scope.isGenerator
theorem scOk_of {xs : List Str} {scope : Scope} (h : scOk xs scope = true) : xs.Nodup ∧ (∀ x ∈ xs, scope.names.lookup x = some .local ∨ scope.names.lookup x = some .cell) ∧ (scope.names.map (·.1)).Nodup ∧ scope.kind = .function ∧ scope.isCoroutine = false ∧ scope.isGenerator = false := by
  unfold scOk at h
  simp only [Bool.and_eq_true, Bool.not_eq_true', decide_eq_true_eq, List.all_eq_true, Bool.or_eq_true, beq_iff_eq] at h
  exact ⟨h.1.1.1.1.1, h.1.1.1.1.2, h.1.1.1.2, h.1.1.2, h.1.2, h.2⟩
/-- a contract from the body -/
theorem Fc_of {name qual : Str} {params : Arguments} {body : List Stmt} {scope : Scope} {dV kV doc pm cdv ct oc : Value} {an od : Option Addr} {osl : Array (Option Value)} {f : Addr} {ds es : List D} (xs : List Str) {k : D → Prop}
    (ho : c.K.lookup f = some ⟨oc, od, .func (fnOf name qual params body scope dV kV doc pm an cdv ct), osl⟩) (hcd : codeIn c.K cdv qual = true) (hsc : scOk xs scope = true)
    (hb : ∀ im s vs, c.K.In s.heap → Reps im vs ds → ∃ ws, BindsTo s (fnOf name qual params body scope dV kV doc pm an cdv ct) ⟨vs, []⟩ (xs.zip ws) ∧ Reps im ws es) (hlen : xs.length = es.length)
    (h : ∀ L, Wx c n (fxOf qual scope L f cdv) ⟨xs.zip es, []⟩ body (fun _ => k .none) fun _ d => k d) :
    Fc c (n + 1) f ds k := by
  obtain ⟨hnx, hkx, hnn, hk, hco, hgen⟩ := scOk_of hsc
  intro A im s Q E vs hA hg hr hQ
  obtain ⟨ws, hbs, hrs⟩ := hb im s vs (c.X.keeps hg.gd) hr
  refine wpAny_call (enter_def ho hcd hA hg hbs hrs hlen hnx hkx hnn hk hco hgen h fun v d σ' L im' h' tk' ex X' r hkk => ?_)
  refine hQ v d im' h' tk' ex X'.kin X'.hg r ?_
  rcases hkk with ⟨_, rfl, z⟩ | z
  · exact z
  · exact z
theorem Fc1 {name qual : Str} {params : Arguments} {body : List Stmt} {scope : Scope} {dV kV doc pm cdv ct oc : Value} {an od : Option Addr} {osl : Array (Option Value)} {f : Addr} {d1 : D} (x1 : Str) {k : D → Prop}
    (ho : c.K.lookup f = some ⟨oc, od, .func (fnOf name qual params body scope dV kV doc pm an cdv ct), osl⟩) (hcd : codeIn c.K cdv qual = true) (hsc : scOk [x1] scope = true)
    (hb : ∀ v1, bindArgs (fnOf name qual params body scope dV kV doc pm an cdv ct) ⟨[v1], []⟩ = pure [(x1, v1)])
    (h : ∀ L, Wx c n (fxOf qual scope L f cdv) ⟨[(x1, d1)], []⟩ body (fun _ => k .none) fun _ d => k d) : Fc c (n + 1) f [d1] k :=
  Fc_of [x1] ho hcd hsc (fun im s vs _ r => ⟨vs, by obtain ⟨v1, rfl, _⟩ := r.l1; exact BindsTo.of_eq (hb v1), r⟩) rfl h
theorem Fc2 {name qual : Str} {params : Arguments} {body : List Stmt} {scope : Scope} {dV kV doc pm cdv ct oc : Value} {an od : Option Addr} {osl : Array (Option Value)} {f : Addr} {d1 d2 : D} (x1 x2 : Str) {k : D → Prop}
    (ho : c.K.lookup f = some ⟨oc, od, .func (fnOf name qual params body scope dV kV doc pm an cdv ct), osl⟩) (hcd : codeIn c.K cdv qual = true) (hsc : scOk [x1, x2] scope = true)
    (hb : ∀ v1 v2, bindArgs (fnOf name qual params body scope dV kV doc pm an cdv ct) ⟨[v1, v2], []⟩ = pure [(x1, v1), (x2, v2)])
    (h : ∀ L, Wx c n (fxOf qual scope L f cdv) ⟨[(x1, d1), (x2, d2)], []⟩ body (fun _ => k .none) fun _ d => k d) : Fc c (n + 1) f [d1, d2] k :=
  Fc_of [x1, x2] ho hcd hsc (fun im s vs _ r => ⟨vs, by obtain ⟨v1, v2, rfl, _⟩ := r.l2; exact BindsTo.of_eq (hb v1 v2), r⟩) rfl h
theorem Fc3 {name qual : Str} {params : Arguments} {body : List Stmt} {scope : Scope} {dV kV doc pm cdv ct oc : Value} {an od : Option Addr} {osl : Array (Option Value)} {f : Addr} {d1 d2 d3 : D} (x1 x2 x3 : Str) {k : D → Prop}
    (ho : c.K.lookup f = some ⟨oc, od, .func (fnOf name qual params body scope dV kV doc pm an cdv ct), osl⟩) (hcd : codeIn c.K cdv qual = true) (hsc : scOk [x1, x2, x3] scope = true)
    (hb : ∀ v1 v2 v3, bindArgs (fnOf name qual params body scope dV kV doc pm an cdv ct) ⟨[v1, v2, v3], []⟩ = pure [(x1, v1), (x2, v2), (x3, v3)])
    (h : ∀ L, Wx c n (fxOf qual scope L f cdv) ⟨[(x1, d1), (x2, d2), (x3, d3)], []⟩ body (fun _ => k .none) fun _ d => k d) : Fc c (n + 1) f [d1, d2, d3] k :=
  Fc_of [x1, x2, x3] ho hcd hsc (fun im s vs _ r => ⟨vs, by obtain ⟨v1, v2, v3, rfl, _⟩ := r.l3; exact BindsTo.of_eq (hb v1 v2 v3), r⟩) rfl h
end
/-! the block of a comprehension: its names and cells -/
def clo (env : Env) : List (Str × NameKind) → List (Str × Addr) → List (Str × Addr)
  | [], acc => acc
  | (n, k) :: r, acc => if k == .free then clo env r ((n, (env.cells.lookup n).getD 0) :: acc) else clo env r acc
theorem closureFor_clo {env : Env} {scope : Scope} (h : ∀ p ∈ scope.names, p.2 = .free → (env.cells.lookup p.1).isSome = true) : closureFor scope env = pure (clo env scope.names []) := by
  unfold closureFor
  have : ∀ (names : List (Str × NameKind)) (acc : List (Str × Addr)) (f : Str × NameKind → List (Str × Addr) → Sem (ForInStep (List (Str × Addr)))), (∀ n k cs, f (n, k) cs = if k == .free then (do let a ← cellOf env n; pure (.yield ((n, a) :: cs))) else pure (.yield cs)) →
      (∀ p ∈ names, p.2 = .free → (env.cells.lookup p.1).isSome = true) → forIn names acc f = pure (clo env names acc) := by
    intro names
    induction names with
    | nil => intro acc f hf _; rfl
    | cons p r ih =>
      intro acc f hf hp
      obtain ⟨n, k⟩ := p
      rw [List.forIn_cons, hf]
      unfold clo
      cases hk : k == NameKind.free with
      | true =>
        obtain ⟨a, ha⟩ := Option.isSome_iff_exists.mp (hp (n, k) (.head _) (by simpa using hk))
        have e : cellOf env n = pure a := by unfold cellOf; rw [ha]
        simp only [if_true, e, ha, Option.getD_some]
        exact ih _ f hf fun p hm => hp p (.tail _ hm)
      | false =>
        simp only [Bool.false_eq_true, if_false]
        exact ih _ f hf fun p hm => hp p (.tail _ hm)
  have e := this scope.names [] (fun x s => match x with | (name, kind) => if kind == .free then (do let a ← cellOf env name; pure (.yield ((name, a) :: s))) else pure (.yield s)) (fun n k cs => rfl) h
  refine Eq.trans (b := forIn scope.names [] (fun x s => match x with | (name, kind) => if kind == .free then (do let a ← cellOf env name; pure (.yield ((name, a) :: s))) else pure (.yield s)) >>= fun r => pure r) rfl ?_
  rw [e]; rfl
theorem clo_lookup {env : Env} : ∀ (names : List (Str × NameKind)) (acc : List (Str × Addr)) (y : Str) (a : Addr), (∀ p ∈ names, p.2 = .free → (env.cells.lookup p.1).isSome = true) → (clo env names acc).lookup y = some a → acc.lookup y = some a ∨ env.cells.lookup y = some a
  | [], _, _, _, _, h => .inl h
  | (n, k) :: r, acc, y, a, hp, h => by
    unfold clo at h
    split at h
    · rename_i hk
      obtain ⟨b, hb⟩ := Option.isSome_iff_exists.mp (hp (n, k) (.head _) (by simpa using hk))
      rw [hb, Option.getD_some] at h
      rcases clo_lookup r _ y a (fun p hm => hp p (.tail _ hm)) h with q | q
      · rw [List.lookup_cons] at q
        cases e : y == n with
        | true => rw [e] at q; cases q; rw [beq_iff_eq.mp e]; exact .inr hb
        | false => rw [e] at q; exact .inl q
      · exact .inr q
    · exact clo_lookup r acc y a (fun p hm => hp p (.tail _ hm)) h
theorem cellsFrom_app : ∀ (names : List (Str × NameKind)) (n : Nat) (acc : List (Str × Addr)), cellsFrom n names acc = cellsFrom n names [] ++ acc
  | [], _, _ => rfl
  | (x, k) :: r, n, acc => by
    unfold cellsFrom
    split
    · rw [cellsFrom_app r (n + 1) ((x, n) :: acc), cellsFrom_app r (n + 1) [(x, n)], List.append_assoc]; rfl
    · exact cellsFrom_app r n acc
abbrev compE (scope : Scope) (cl : List (Str × Addr)) (C : Addr) (env : Env) : Env :=
  { scope := relabel scope env, locals := C, globals := env.globals, cells := cellsFrom (C + 1) scope.names cl, qual := env.qual, func := none, code := env.code, frame := env.frame, builtins := env.builtins }
abbrev fxC (scope : Scope) (C : Addr) (fx : Fx) : Fx := ⟨compE scope (clo fx.env scope.names []) C fx.env, (cellsFrom (C + 1) scope.names []).map (·.2)⟩
theorem newCompEnv {M : Model} {A : Around} {s : Shared} {scope : Scope} {cl : List (Str × Addr)} {env : Env} {Q : Env → Shared → Prop} {E : Value → Shared → Prop}
    (hQ : Q { scope := scope, locals := s.heap.objs.size, globals := env.globals, cells := cellsFrom (s.heap.objs.size + 1) scope.names cl, qual := env.qual, func := none, code := env.code, frame := env.frame, builtins := env.builtins }
      { s with heap := pushCells (s.heap.push { cls := .type "dict", data := .dict #[] }) scope.names }) :
    wpAny M A (newFunctionEnv scope env.globals cl [] env.qual none .none (some env)) Q E s := by
  simp only [newFunctionEnv, Option.isSome_some, if_true]
  refine wpAny_bind (wpAny_alloc ?_)
  refine wpAny_bind (wpAny_layCells _ (fun name kind cells => by cases hkc : kind == NameKind.cell <;> simp [hkc]) _ _ _ _ ?_)
  rw [show ({ s with heap := s.heap.push { cls := .type "dict", data := .dict #[] } } : Shared).heap.objs.size = s.heap.objs.size + 1 from Heap.size_push ..]
  exact wpAny_pure hQ
/-- names that the block reads of the frame around it -/
def SubC (fx : Fx) (scope : Scope) (f : Str → Option D) : List (Str × D) → Prop
  | [] => True
  | (x, d) :: r => f x = some d ∧ scope.names.lookup x = some .free ∧ (fx.env.kindOf x = some .cell ∨ fx.env.kindOf x = some .free) ∧ SubC fx scope f r
theorem SubC.mem {fx : Fx} {scope : Scope} {f : Str → Option D} : ∀ {l : List (Str × D)}, SubC fx scope f l → ∀ x d, l.lookup x = some d → f x = some d ∧ scope.names.lookup x = some .free ∧ (fx.env.kindOf x = some .cell ∨ fx.env.kindOf x = some .free)
  | [], _, x, d, h => by simp at h
  | (y, e) :: r, ⟨h1, h2, h3, h4⟩, x, d, h => by
    rw [List.lookup_cons] at h
    cases q : x == y with
    | true => rw [q] at h; cases h; rw [beq_iff_eq.mp q]; exact ⟨h1, h2, h3⟩
    | false => rw [q] at h; exact h4.mem x d h
def scC (fx : Fx) (scope : Scope) : Bool :=
  decide (scope.kind = .function) && scope.names.all (fun p => p.2 != .local || scope.names.lookup p.1 == some .local) && decide ((scope.names.map (·.1)).Nodup) && scope.names.all fun p => p.2 != .free || (fx.env.cells.lookup p.1).isSome
theorem scC_of {fx : Fx} {scope : Scope} (h : scC fx scope = true) : scope.kind = .function ∧ (∀ x ∈ scope.names, x.2 = .local → scope.names.lookup x.1 = some .local) ∧ (scope.names.map (·.1)).Nodup ∧ ∀ p ∈ scope.names, p.2 = .free → (fx.env.cells.lookup p.1).isSome = true := by
  unfold scC at h
  simp only [Bool.and_eq_true, decide_eq_true_eq, List.all_eq_true, Bool.or_eq_true, bne_iff_ne, ne_eq, beq_iff_eq] at h
  refine ⟨h.1.1.1, fun x hx e => ?_, h.1.2, fun p hp e => ?_⟩
  · rcases h.1.1.2 x hx with q | q
    · exact absurd e q
    · exact q
  · rcases h.2 p hp with q | q
    · exact absurd e q
    · exact q
theorem relabel_lookup {scope : Scope} {env : Env} {x : Str} : ∀ (names : List (Str × NameKind)) {k : NameKind}, names.lookup x = some k →
    (names.map fun (n, k) => if (k == NameKind.free && env.scope.kind == .function && env.kindOf n == some .cell) then (n, NameKind.cell) else (n, k)).lookup x = some k ∨
    (k = .free ∧ (names.map fun (n, k) => if (k == NameKind.free && env.scope.kind == .function && env.kindOf n == some .cell) then (n, NameKind.cell) else (n, k)).lookup x = some .cell)
  | [], _, h => by simp at h
  | (n, k0) :: r, k, h => by
    rw [List.lookup_cons] at h
    rw [List.map_cons]
    cases q : x == n with
    | true =>
      rw [q] at h; cases h
      by_cases hc : (k0 == NameKind.free && env.scope.kind == .function && env.kindOf n == some .cell) = true
      · refine .inr ⟨?_, ?_⟩
        · simp only [Bool.and_eq_true, beq_iff_eq] at hc; exact hc.1.1
        · simp only [hc, if_true, List.lookup_cons, q]
      · refine .inl ?_
        simp only [hc, if_false, List.lookup_cons, q, Bool.false_eq_true]
    | false =>
      rw [q] at h
      have ih := relabel_lookup (scope := scope) (env := env) (x := x) r h
      by_cases hc : (k0 == NameKind.free && env.scope.kind == .function && env.kindOf n == some .cell) = true
      · simp only [hc, if_true, List.lookup_cons, q]; exact ih
      · simp only [hc, if_false, List.lookup_cons, q, Bool.false_eq_true]; exact ih
section
variable {c : Cx} {n : Nat} {fx : Fx} {σ : St} {kp im : Im} {h h' : Heap}
theorem cellsFrom_ge : ∀ (names : List (Str × NameKind)) (n : Nat) (y : Str) (a : Addr), (y, a) ∈ cellsFrom n names [] → n ≤ a
  | [], _, _, _, h => nomatch h
  | (x, k) :: r, n, y, a, h => by
    unfold cellsFrom at h
    split at h
    · rw [cellsFrom_app] at h
      rcases List.mem_append.mp h with h | h
      · exact Nat.le_of_succ_le (cellsFrom_ge r _ y a h)
      · cases List.mem_singleton.mp h; exact Nat.le_refl _
    · exact cellsFrom_ge r n y a h
/-- the block's own ground -/
theorem enter_comp {scope : Scope} {vars : List (Str × D)} {g : Heap} {I : Addr} (X : Hd c fx σ kp im g) (hsc : scC fx scope = true) (hv : SubC fx scope (fun x => σ.vars.lookup x) vars) (hI : im I = none) (hIo : I ∉ muts fx σ) (hIk : kp I = none) (hIg : I < g.objs.size) (D' : Obj)
    (hg : ∀ a o, c.G.get? a = some o → a ≠ I) :
    let h₁ := pushCells ((g.push D').push { cls := .type "dict", data := .dict #[] }) scope.names
    Hd c (fxC scope (g.objs.size + 1) fx) ⟨vars, []⟩ (fun a => if a = I then none else g.get? a) im h₁ ∧ (∀ a o, g.get? a = some o → h₁.get? a = some o) ∧ (D'.isFreed = false → h₁.get? g.objs.size = some D') ∧ g.objs.size ∉ muts (fxC scope (g.objs.size + 1) fx) ⟨vars, []⟩ ∧ I ∉ muts (fxC scope (g.objs.size + 1) fx) ⟨vars, []⟩ := by
  intro h₁
  obtain ⟨hk, hnames, hnd, hfree⟩ := scC_of hsc
  have s1 : ((g.push D').push { cls := .type "dict", data := .dict #[] }).objs.size = g.objs.size + 1 + 1 := by rw [Heap.size_push, Heap.size_push]
  have s0 : (g.push D').objs.size = g.objs.size + 1 := Heap.size_push ..
  have keep : ∀ a o, g.get? a = some o → h₁.get? a = some o := fun a o e => pushCells_keeps _ _ _ _ (Heap.get?_push_of_some _ (Heap.get?_push_of_some _ e))
  have ok := cellsFrom_ok scope.names ((g.push D').push { cls := .type "dict", data := .dict #[] }) (g.objs.size + 1 + 1) [] ⟨fun _ _ hm => (nomatch hm), List.Pairwise.nil⟩ (by rw [s1]; exact Nat.le_refl _)
  rw [s1] at ok
  have gnone : ∀ a, g.objs.size ≤ a → g.get? a = none := fun a ha => by
    cases q : g.get? a with
    | none => rfl
    | some o => exact absurd (Heap.lt_size q) (Nat.not_lt.mpr ha)
  have inone : ∀ a, g.objs.size ≤ a → im a = none := fun a ha => by
    cases q : im a with
    | none => rfl
    | some o => have := X.hg.iin _ _ q; rw [gnone a ha] at this; cases this
  have dictAt : h₁.get? (g.objs.size + 1) = some { cls := .type "dict", data := .dict #[] } := pushCells_keeps _ _ _ _ (by rw [← s0]; exact Heap.get?_push_size _ rfl)
  have clok : ∀ y a, (clo fx.env scope.names []).lookup y = some a → fx.env.cells.lookup y = some a := fun y a e => by
    rcases clo_lookup scope.names [] y a hfree e with q | q
    · simp at q
    · exact q
  have cellE : (fxC scope (g.objs.size + 1) fx).env.cells = cellsFrom (g.objs.size + 1 + 1) scope.names [] ++ clo fx.env scope.names [] := cellsFrom_app _ _ _
  have look : ∀ y a, (fxC scope (g.objs.size + 1) fx).env.cells.lookup y = some a → ((y, a) ∈ cellsFrom (g.objs.size + 1 + 1) scope.names []) ∨ fx.env.cells.lookup y = some a := fun y a e => by
    rw [cellE, List.lookup_append] at e
    cases q : (cellsFrom (g.objs.size + 1 + 1) scope.names []).lookup y with
    | none => rw [q] at e; exact .inr (clok y a (by simpa using e))
    | some b => rw [q] at e; have e : b = a := by simpa using e
                subst e; exact .inl (mem_of_lookup q)
  have old : ∀ y a, fx.env.cells.lookup y = some a → ∃ o, g.get? a = some o := fun y a e => by
    rcases X.cel y a e with q | ⟨o, q⟩
    · obtain ⟨_, _, o, z⟩ := X.off a (.tail _ (List.mem_append_left _ q)); exact ⟨o, z⟩
    · exact ⟨o, X.kin _ _ q⟩
  have oldI : ∀ y a, fx.env.cells.lookup y = some a → a ≠ I := fun y a e w => by
    subst w
    rcases X.cel y a e with q | ⟨o, q⟩
    · exact hIo (.tail _ (List.mem_append_left _ q))
    · rw [hIk] at q; cases q
  have newge : ∀ y a, (y, a) ∈ cellsFrom (g.objs.size + 1 + 1) scope.names [] → g.objs.size + 1 + 1 ≤ a := fun y a hm => cellsFrom_ge _ _ _ _ hm
  have freeAt : ∀ y, scope.names.lookup y = some .free → ∀ a, fx.env.cells.lookup y = some a → (fxC scope (g.objs.size + 1) fx).env.cells.lookup y = some a := fun y hy a ha => by
    rw [cellE, List.lookup_append]
    have q : (cellsFrom (g.objs.size + 1 + 1) scope.names []).lookup y = none := by
      cases q : (cellsFrom (g.objs.size + 1 + 1) scope.names []).lookup y with
      | none => rfl
      | some b =>
        exfalso
        have hm := mem_of_lookup q
        have : ∀ (names : List (Str × NameKind)) (k : Nat), (names.map (·.1)).Nodup → (y, b) ∈ cellsFrom k names [] → names.lookup y = some .cell := by
          intro names
          induction names with
          | nil => intro k _ h; nomatch h
          | cons p r ih =>
            intro k hnd h
            obtain ⟨x, kd⟩ := p
            simp only [List.map_cons, List.nodup_cons] at hnd
            have mem_names : ∀ {k : Nat}, (y, b) ∈ cellsFrom k r [] → y ∈ r.map (·.1) := fun hm' => by
              have z := ih _ hnd.2 hm'
              exact List.mem_map.mpr ⟨_, mem_of_lookup z, rfl⟩
            unfold cellsFrom at h
            split at h
            · rename_i hkd
              rw [cellsFrom_app] at h
              rcases List.mem_append.mp h with h | h
              · rw [List.lookup_cons]
                have : (y == x) = false := by
                  cases e : y == x with
                  | false => rfl
                  | true => exact absurd (beq_iff_eq.mp e ▸ mem_names h) hnd.1
                rw [this]; exact ih _ hnd.2 h
              · cases List.mem_singleton.mp h
                rw [List.lookup_cons, beq_self_eq_true]; simp only [beq_iff_eq] at hkd; rw [hkd]
            · rw [List.lookup_cons]
              have : (y == x) = false := by
                cases e : y == x with
                | false => rfl
                | true => exact absurd (beq_iff_eq.mp e ▸ mem_names h) hnd.1
              rw [this]; exact ih _ hnd.2 h
        rw [this _ _ hnd hm] at hy; cases hy
    rw [q]
    have : ∀ (names : List (Str × NameKind)) (acc : List (Str × Addr)), (names.map (·.1)).Nodup → (names.lookup y = some .free ∨ (acc.lookup y = some a ∧ y ∉ names.map (·.1))) → (clo fx.env names acc).lookup y = some a := by
      intro names
      induction names with
      | nil =>
        intro acc _ h
        rcases h with h | h
        · simp at h
        · exact h.1
      | cons p r ih =>
        intro acc hnd h
        obtain ⟨x, kd⟩ := p
        simp only [List.map_cons, List.nodup_cons] at hnd
        unfold clo
        rw [List.lookup_cons] at h
        cases e : y == x with
        | true =>
          have e' := beq_iff_eq.mp e; subst e'
          rw [e] at h
          rcases h with h | h
          · have h : kd = .free := by simpa using h
            subst h
            simp only [beq_self_eq_true, if_true]
            refine ih _ hnd.2 (.inr ⟨?_, hnd.1⟩)
            rw [List.lookup_cons, beq_self_eq_true, ha]; rfl
          · exact absurd (by simp) h.2
        | false =>
          rw [e] at h
          have h' : ∀ acc' : List (Str × Addr), (acc.lookup y = some a → acc'.lookup y = some a) → (r.lookup y = some .free ∨ (acc'.lookup y = some a ∧ y ∉ r.map (·.1))) := fun acc' hacc => by
            rcases h with h | h
            · exact .inl h
            · refine .inr ⟨hacc h.1, fun z => h.2 ?_⟩
              simp only [List.map_cons, List.mem_cons]; exact .inr z
          split
          · refine ih _ hnd.2 (h' _ fun z => ?_)
            rw [List.lookup_cons, e]; exact z
          · exact ih _ hnd.2 (h' _ id)
    simpa using this scope.names [] hnd (.inl hy)
  have wrmem : ∀ a, a ∈ (fxC scope (g.objs.size + 1) fx).wr → g.objs.size + 1 + 1 ≤ a := fun a ha => by
    obtain ⟨⟨y, b⟩, hm, rfl⟩ := List.mem_map.mp ha; exact newge y b hm
  have mutge : ∀ a, a ∈ muts (fxC scope (g.objs.size + 1) fx) ⟨vars, []⟩ → g.objs.size + 1 ≤ a := fun a ha => by
    simp only [Own.addrs, List.flatMap_nil, List.append_nil, List.mem_cons] at ha
    rcases ha with rfl | ha
    · exact Nat.le_refl _
    · exact Nat.le_of_succ_le (wrmem a ha)
  have wrcell : ∀ a, a ∈ (fxC scope (g.objs.size + 1) fx).wr → h₁.IsCell a none := fun a ha => by
    obtain ⟨⟨y, b⟩, hm, rfl⟩ := List.mem_map.mp ha; exact (ok.empty y b hm).1
  refine ⟨⟨hk, ?_, ?_, X.glob, X.blt, ⟨fun a o e => keep _ _ (X.hg.gd a o e), X.hg.imK, fun a o e => keep _ _ (X.hg.iin a o e)⟩, ?_, ?_, ?_, ?_, ?_, (fun p hp => nomatch hp), fun a ha => ⟨_, wrcell a ha⟩⟩, keep, ?_, ?_, ?_⟩
  · intro y y' a e1 e2
    rcases look y a e1 with q1 | q1 <;> rcases look y' a e2 with q2 | q2
    · exact name_of_addr ok.apart q1 q2
    · obtain ⟨o, z⟩ := old y' a q2
      exact absurd (Heap.lt_size z) (Nat.not_lt.mpr (Nat.le_trans (Nat.le_add_right _ 2) (newge y a q1)))
    · obtain ⟨o, z⟩ := old y a q1
      exact absurd (Heap.lt_size z) (Nat.not_lt.mpr (Nat.le_trans (Nat.le_add_right _ 2) (newge y' a q2)))
    · exact X.cap y y' a q1 q2
  · intro y a e
    rcases look y a e with q | q
    · exact .inl (List.mem_map.mpr ⟨(y, a), q, rfl⟩)
    · obtain ⟨o, z⟩ := old y a q
      exact .inr ⟨o, by rw [if_neg (oldI y a q)]; exact z⟩
  · intro a o e
    show (if a = I then none else g.get? a) = some o
    rw [if_neg (hg a o e)]; exact X.hg.gd a o e
  · intro a o e
    have e : (if a = I then none else g.get? a) = some o := e
    split at e
    · cases e
    · exact keep _ _ e
  · refine ⟨fun _ => none, ?_, fun y d hd => ?_⟩
    · exact ⟨_, #[], 0, dictAt, rfl, by intro e he; simp at he, fun _ => rfl⟩
    · obtain ⟨q1, q2, q3⟩ := hv.mem y d hd
      obtain ⟨m, hn, hvars⟩ := X.ns
      rcases hvars y d q1 with ⟨k1, _⟩ | ⟨k1, a, v, k2, k3, k4⟩
      · rw [k1] at q3; rcases q3 with q3 | q3 <;> cases q3
      · refine .inr ⟨?_, a, v, freeAt y q2 a k2, k3.keeps keep, k4⟩
        rcases relabel_lookup (scope := scope) (env := fx.env) scope.names q2 with z | ⟨_, z⟩
        · exact .inr z
        · exact .inl z
  · simp only [Own.addrs, List.flatMap_nil, List.append_nil, List.nodup_cons]
    refine ⟨fun q => ?_, List.pairwise_map.mpr ok.apart⟩
    have := wrmem _ q
    exact absurd this (Nat.not_succ_le_self _)
  · intro a ha
    have hge := mutge a ha
    refine ⟨?_, inone a (Nat.le_of_succ_le hge), ?_⟩
    · show (if a = I then none else g.get? a) = none
      split
      · rfl
      · exact gnone a (Nat.le_of_succ_le hge)
    · simp only [Own.addrs, List.flatMap_nil, List.append_nil, List.mem_cons] at ha
      rcases ha with rfl | ha
      · exact ⟨_, dictAt⟩
      · obtain ⟨o, z, _⟩ := wrcell a ha; exact ⟨o, z⟩
  · intro hf
    exact pushCells_keeps _ _ _ _ (Heap.get?_push_of_some _ (Heap.get?_push_size _ hf))
  · intro q
    exact absurd (mutge _ q) (Nat.not_succ_le_self _)
  · intro q
    exact absurd hIg (Nat.not_lt.mpr (Nat.le_of_succ_le (mutge _ q)))
end
section
variable {c : Cx} {n : Nat} {fx : Fx} {σ : St} {kp im : Im} {h h' : Heap}
def Wc (c : Cx) (n : Nat) (fx : Fx) (σ : St) (ifs : List Expr) (elt : Expr) (k : List D → Prop) : Prop :=
  match ifs with
  | [] => We c n fx σ elt fun d => k [d]
  | [t] => Wt c n fx σ t fun b => if b = true then We c n fx σ elt fun d => k [d] else k []
  | _ => False
theorem tests_nil {M : Model} {A : Around} {s : Shared} {env : Env} {Q : Bool → Shared → Prop} {E : Value → Shared → Prop} (h : Q true s) :
    wpAny M A (forIn ([] : List Expr) true fun c r => if r = true then do let ok ← isTrue c env (eval c env); pure (ForInStep.yield ok) else pure (ForInStep.yield r)) Q E s := wpAny_pure h
theorem tests_one {M : Model} {A : Around} {s : Shared} {env : Env} {t : Expr} {Q : Bool → Shared → Prop} {E : Value → Shared → Prop} (h : wpAny M A (isTrue t env (eval t env)) Q E s) :
    wpAny M A (forIn [t] true fun c r => if r = true then do let ok ← isTrue c env (eval c env); pure (ForInStep.yield ok) else pure (ForInStep.yield r)) Q E s := by
  rw [List.forIn_cons]
  refine wpAny_bind ?_
  simp only [if_true]
  exact wpAny_bind (wpAny_mono h (fun ok s' hq => wpAny_pure (wpAny_pure hq)) fun _ _ e => e)
/-- the frame knows more, nothing changes -/
theorem Hd.more {im' : Im} (X : Hd c fx σ kp im h) (le : Le im im') (hi : ∀ a o, im' a = some o → h.get? a = some o) (hn : ∀ a ∈ muts fx σ, im' a = none) : Hd c fx σ kp im' h := by
  refine ⟨X.kind, X.cap, X.cel, X.glob, X.blt, ⟨X.hg.gd, fun a o e => le _ _ (X.hg.imK a o e), hi⟩, X.gk, X.kin, ?_, X.nodup, fun a ha => ?_, fun p hp => (X.own p hp).mono le fun _ _ _ e => e, X.wrc⟩
  · obtain ⟨m, hm, hv⟩ := X.ns
    refine ⟨m, hm, fun y d hd => ?_⟩
    rcases hv y d hd with ⟨k1, v, k2, k3⟩ | ⟨k1, a, v, k2, k3, k4⟩
    · exact .inl ⟨k1, v, k2, k3.mono le⟩
    · exact .inr ⟨k1, a, v, k2, k3, k4.mono le⟩
  · obtain ⟨z1, z2, z3⟩ := X.off a ha
    exact ⟨z1, hn a ha, z3⟩
/-- what stands when a comprehension has run -/
structure CompEnd (c : Cx) (g : Heap) (I : Addr) (im : Im) (ds : List D) (D C : Addr) (im' : Im) (h' : Heap) : Prop where
  le : Le im im'
  new : ∀ a o, im' a = some o → im a = some o ∨ g.get? a = none
  imI : im' I = none
  keep : ∀ a o, a ≠ I → g.get? a = some o → h'.get? a = some o
  iin : ∀ a o, im' a = some o → h'.get? a = some o
  lst : ∃ vs m, h'.get? D = some (lo vs m) ∧ Reps im' vs ds
  imD : im' D = none
  newD : g.get? D = none
  newC : g.get? C = none
  imC : im' C = none
  ne : D ≠ C
  ns : ∃ m, h'.Ns C m
theorem comp_core {A : Around} {s₂ : Shared} {I : Addr} {fp : List Addr} {xs : List D} {P : Nat → Value → Prop} {S : Nat → Heap → Prop} {elt iter : Expr} {ifs : List Expr} {x : Str} {px pos : Pos} {scope : Scope} {vars : List (Str × D)} {out : Nat → List D}
    {RR : Value → Addr → Result → Shared → Prop} {E : Value → Shared → Prop}
    (hA : AOk n A) (X : Hd c fx σ kp im s₂.heap) (T : Iter c.prog c.w A im I fp xs P S) (S0 : S 0 s₂.heap) (hI : Fresh fx σ kp im I) (hIg : I < s₂.heap.objs.size)
    (hsc : scC fx scope = true) (hv : SubC fx scope (fun x => σ.vars.lookup x) vars) (hx : ∀ C, Storable (fxC scope C fx) x) (hxn : vars.lookup x = none) (h0 : out 0 = []) (hz : ∀ i, i ≤ xs.length → (out i).length ≤ 1000000)
    (turn : ∀ C i d, xs[i]? = some d → Wc c n (fxC scope C fx) ⟨(x, d) :: vars, []⟩ ifs elt fun o => out (i + 1) = out i ++ o)
    (hRR : ∀ D C im' h' tk', CompEnd c s₂.heap I im (out xs.length) D C im' h' → RR (.ref D) C (.ok .next) { s₂ with heap := h', toks := tk' }) :
    wpAny c.M A (newList []) (fun acc s₃ => wpAny c.M A (newFunctionEnv scope fx.env.globals (clo fx.env scope.names []) [] fx.env.qual none .none (some fx.env)) (fun cenv s₄ =>
      codeAny c.M A (.compStart (.ListComp elt [⟨.Name x px, iter, ifs, 0⟩] scope pos) 0 (.ref I) acc { cenv with scope := relabel scope fx.env }) (RR acc cenv.locals) s₄) E s₃) E s₂ := by
  refine wpAny_newObj_type (newCompEnv ?_)
  have hgI : ∀ a o, c.G.get? a = some o → a ≠ I := fun a o e w => by have := X.gk a o e; rw [w, hI.2.1] at this; cases this
  have ent := enter_comp (scope := scope) (vars := vars) X hsc hv hI.1 hI.2.2 hI.2.1 hIg (lo [] 0) hgI
  dsimp only at ent
  obtain ⟨XC, keep, hD, hDm, hIm⟩ := ent
  have hD := hD rfl
  have e1 : (s₂.heap.push (lo [] 0)).objs.size = s₂.heap.objs.size + 1 := Heap.size_push ..
  rw [show ({ s₂ with heap := s₂.heap.push { cls := .type "list", dict := none, data := .seq ([] : List Value).toArray } } : Shared).heap.objs.size = s₂.heap.objs.size + 1 from e1]
  show codeAny c.M A (.compStart (.ListComp elt [⟨.Name x px, iter, ifs, 0⟩] scope pos) 0 (.ref I) (.ref s₂.heap.objs.size) (fxC scope (s₂.heap.objs.size + 1) fx).env) (RR (.ref s₂.heap.objs.size) (s₂.heap.objs.size + 1))
    { s₂ with heap := pushCells ((s₂.heap.push (lo [] 0)).push { cls := .type "dict", data := .dict #[] }) scope.names }
  generalize hH : pushCells ((s₂.heap.push (lo [] 0)).push { cls := .type "dict", data := .dict #[] }) scope.names = H1 at XC keep hD ⊢
  generalize hDa : s₂.heap.objs.size = Da at XC keep hD hDm hIm ⊢
  generalize hkc : (fun a => if a = I then none else s₂.heap.get? a : Im) = kc at XC ⊢
  have gD : s₂.heap.get? Da = none := hDa ▸ size_none _
  have gC : s₂.heap.get? (Da + 1) = none := by
    cases q : s₂.heap.get? (Da + 1) with
    | none => rfl
    | some o => have := Heap.lt_size q; rw [hDa] at this; exact absurd this (Nat.not_lt.mpr (Nat.le_succ _))
  have kcI : kc I = none := by rw [← hkc]; simp
  have kcD : kc Da = none := by rw [← hkc]; simp [gD]
  have imD0 : im Da = none := by
    cases q : im Da with
    | none => rfl
    | some o => rw [X.hg.iin _ _ q] at gD; cases gD
  have hID : I ≠ Da := by rw [← hDa]; exact Nat.ne_of_lt hIg
  have S1 : S 0 H1 := T.W.frame _ _ _ S0 fun b _ o e => keep b o e
  have loop : codeAny c.M A (.compLoop (.ListComp elt [⟨.Name x px, iter, ifs, 0⟩] scope pos) 0 (.ref I) (.ref Da) (fxC scope (Da + 1) fx).env) (RR (.ref Da) (Da + 1)) { s₂ with heap := H1 } := by
    refine codeAny_compLoop_tests (fun m s' => ∃ i im' h' tk', s' = { s₂ with heap := h', toks := tk' } ∧ m = xs.length + 1 - i ∧ i ≤ xs.length ∧ S i h' ∧ Hd c (fxC scope (Da + 1) fx) ⟨vars, []⟩ kc im' h' ∧ Le im im' ∧
      (∀ a o, im' a = some o → im a = some o ∨ s₂.heap.get? a = none) ∧ im' I = none ∧ im' Da = none ∧ ∃ vs m, h'.get? Da = some (lo vs m) ∧ Reps im' vs (out i)) ?_ (xs.length + 1)
      ⟨0, im, H1, _, rfl, rfl, Nat.zero_le _, S1, XC, Le.refl _, fun _ _ e => .inl e, hI.1, imD0, [], 0, hD, by rw [h0]; exact .nil⟩
    rintro m s' ⟨i, im', h', tk', rfl, rfl, hi, hS, X', le1, new1, mI, mD, vs, m0, hDl, hr⟩
    by_cases hlt : i < xs.length
    · refine T.W.item i _ _ _ hlt hS fun v h2 tk2 hP S2 hk2 => ?_
      have hk2' : ∀ b o, b ≠ I → h'.get? b = some o → h2.get? b = some o := fun b ob hb e => hk2 b ob (by simpa using hb) e
      have X2 : Hd c (fxC scope (Da + 1) fx) ⟨vars, []⟩ kc im' h2 := X'.other ⟨kcI, mI, hIm⟩ hk2'
      obtain ⟨dv, hd, rv⟩ := T.item i v hlt hP
      obtain ⟨oI, hoI⟩ := T.live _ _ S2
      have hoD : h2.get? Da = some (lo vs m0) := hk2' _ _ hID.symm hDl
      have XI := X2.guard hoI hIm kcI
      have kcD' : (Im.put kc I oI) Da = none := by rw [Im.put_ne _ _ hID.symm]; exact kcD
      have XG := XI.guard hoD hDm kcD'
      have leI : Le kc (Im.put kc I oI) := Le.put kcI
      have leG : Le (Im.put kc I oI) (Im.put (Im.put kc I oI) Da (lo vs m0)) := Le.put kcD'
      have leA := leI.trans leG
      have kI : (Im.put (Im.put kc I oI) Da (lo vs m0)) I = some oI := by rw [Im.put_ne _ _ hID]; exact Im.put_self _ _ _
      have kD : (Im.put (Im.put kc I oI) Da (lo vs m0)) Da = some (lo vs m0) := Im.put_self _ _ _
      -- the end of a turn, whatever was evaluated
      have back : ∀ {im4 : Im} {h4 : Heap} {σ4 : St}, Hd c (fxC scope (Da + 1) fx) σ4 (Im.put (Im.put kc I oI) Da (lo vs m0)) im4 h4 → σ4.own = [] → (∀ y d, vars.lookup y = some d → σ4.vars.lookup y = some d) → Ext (Im.put (Im.put kc I oI) Da (lo vs m0)) im' h2 im4 h4 →
          Hd c (fxC scope (Da + 1) fx) ⟨vars, []⟩ kc im4 h4 ∧ S (i + 1) h4 ∧ im4 I = none ∧ im4 Da = none ∧ (∀ a o, im4 a = some o → im a = some o ∨ s₂.heap.get? a = none) ∧ h4.get? Da = some (lo vs m0) := by
        intro im4 h4 σ4 X4 ho hvv ex4
        have X4w := (X4.weaken hvv)
        rw [ho] at X4w
        have X5 := X4w.unguard leA XC.gk XC.cel
        refine ⟨X5, ?_, ?_, ?_, fun a o e => ?_, X4.kin Da _ kD⟩
        · exact T.W.frame _ _ _ S2 (foot_keep T.foot (fun a ob e => X2.hg.iin _ _ (le1 _ _ e)) (fun a ob e => X4.hg.iin _ _ (ex4.le _ _ (le1 _ _ e))) hoI (X4.kin I oI kI))
        · cases q : im4 I with
          | none => rfl
          | some ob => rcases ex4.new I ob q with z | z
                       · rw [mI] at z; cases z
                       · rw [kI] at z; cases z
        · cases q : im4 Da with
          | none => rfl
          | some ob => rcases ex4.new Da ob q with z | z
                       · rw [mD] at z; cases z
                       · rw [kD] at z; cases z
        · rcases ex4.new a o e with z | z
          · exact new1 a o z
          · by_cases w1 : a = I
            · subst w1; rw [kI] at z; cases z
            · by_cases w2 : a = Da
              · subst w2; exact .inr gD
              · rw [Im.put_ne _ _ w2, Im.put_ne _ _ w1] at z
                refine .inr ?_
                rw [← hkc] at z
                simpa [w1] using z
      refine wpAny_assign_Name (store_any XG (rv.mono le1) (hx _) fun h3 tk3 X3 => ?_)
      have tr := turn (Da + 1) i dv hd
      have hxn' : ∀ y d, vars.lookup y = some d → (y == x) = false := fun y d hy => by
        cases q : y == x with
        | false => rfl
        | true => rw [beq_iff_eq.mp q, hxn] at hy; cases hy
      have hstep : ∀ y d, vars.lookup y = some d → (⟨(x, dv) :: vars, []⟩ : St).vars.lookup y = some d := fun y d hy => by
        show List.lookup y ((x, dv) :: vars) = some d
        rw [List.lookup_cons, hxn' y d hy]; exact hy
      have fin : ∀ {im4 : Im} {h4 : Heap} {tk4 : Nat} {v4 : Value} {d4 : D} {E' : Value → Shared → Prop}, Hd c (fxC scope (Da + 1) fx) ⟨(x, dv) :: vars, []⟩ (Im.put (Im.put kc I oI) Da (lo vs m0)) im4 h4 → Ext (Im.put (Im.put kc I oI) Da (lo vs m0)) im' h2 im4 h4 → Rep im4 v4 d4 → out (i + 1) = out i ++ [d4] →
          wpAny c.M A (call (.builtin "list.append") [.ref Da, v4]) (fun _ s₅ => ∃ m', m' < xs.length + 1 - i ∧ ∃ i2 im' h' tk', s₅ = { s₂ with heap := h', toks := tk' } ∧ m' = xs.length + 1 - i2 ∧ i2 ≤ xs.length ∧ S i2 h' ∧ Hd c (fxC scope (Da + 1) fx) ⟨vars, []⟩ kc im' h' ∧ Le im im' ∧
            (∀ a o, im' a = some o → im a = some o ∨ s₂.heap.get? a = none) ∧ im' I = none ∧ im' Da = none ∧ ∃ vs m, h'.get? Da = some (lo vs m) ∧ Reps im' vs (out i2)) E' { s₂ with heap := h4, toks := tk4 } := by
        intro im4 h4 tk4 v4 d4 E' X4 ex4 r4 ho
        obtain ⟨X5, S5, mI5, mD5, new5, hD5⟩ := back X4 rfl hstep ex4
        have hlen : vs.length = (out i).length := hr.length
        refine append_at (n := m0) (its := vs.toArray) hD5 (fun h6 hs6 hD6 => ?_) (by rw [List.size_toArray, hlen]; exact Nat.le_trans (hz i hi) (by decide))
        have X6 : Hd c (fxC scope (Da + 1) fx) ⟨vars, []⟩ kc im4 h6 := X5.other ⟨kcD, mD5, hDm⟩ fun b o hb e => (hs6.2 b hb).trans e
        refine ⟨xs.length + 1 - (i + 1), by omega, i + 1, im4, h6, tk4, rfl, rfl, hlt, ?_, X6, le1.trans ex4.le, new5, mI5, mD5, vs ++ [v4], m0 + 1, by simpa using hD6, ?_⟩
        · refine T.W.frame _ _ _ S5 fun b hb o e => (hs6.2 b fun w => ?_).trans e
          subst w
          rcases T.foot _ hb with w | ⟨o', w⟩
          · exact hID w.symm
          · rw [imD0] at w; cases w
        · rw [ho]; exact (hr.mono ex4.le).append (.one r4)
      unfold Wc at tr
      match ifs, tr with
      | [], tr =>
        refine tests_nil ?_
        simp only [if_true]
        refine tr A _ im' _ _ _ hA X3 fun v4 d4 im4 h4 tk4 ex4 X4 r4 k4 => ?_
        exact fin X4 ex4.at r4 k4
      | [t], tr =>
        refine tests_one (tr A _ im' _ _ _ hA X3 fun b im4 h4 tk4 ex4 X4 kb => ?_)
        cases b with
        | true =>
          simp only [if_true]
          have kb : We c n (fxC scope (Da + 1) fx) ⟨(x, dv) :: vars, []⟩ elt fun d => out (i + 1) = out i ++ [d] := by simpa using kb
          refine kb A _ im4 { s₂ with heap := h4, toks := tk4 } _ _ hA X4 fun v5 d5 im5 h5 tk5 ex5 X5 r5 k5 => ?_
          exact fin X5 (ex4.trans ex5).at r5 k5
        | false =>
          simp only [Bool.false_eq_true, if_false]
          have kb : out (i + 1) = out i ++ [] := by simpa using kb
          obtain ⟨X5, S5, mI5, mD5, new5, hD5⟩ := back X4 rfl hstep ex4.at
          exact ⟨xs.length + 1 - (i + 1), by omega, i + 1, im4, h4, tk4, rfl, rfl, hlt, S5, X5, le1.trans ex4.le, new5, mI5, mD5, vs, m0, hD5, by rw [kb, List.append_nil]; exact hr.mono ex4.le⟩
    · have hi' : i = xs.length := by omega
      subst hi'
      refine T.W.done _ _ _ hS fun h2 tk2 hk2 => ?_
      have hk2' : ∀ b o, b ≠ I → h'.get? b = some o → h2.get? b = some o := fun b ob hb e => hk2 b ob (by simpa using hb) e
      have X2 : Hd c (fxC scope (Da + 1) fx) ⟨vars, []⟩ kc im' h2 := X'.other ⟨kcI, mI, hIm⟩ hk2'
      refine hRR Da (Da + 1) im' h2 tk2 ⟨le1, new1, mI, fun a o hne e => ?_, X2.hg.iin, ⟨vs, m0, hk2' _ _ hID.symm hDl, hr⟩, mD, gD, gC, ?_, Nat.ne_of_lt (Nat.lt_succ_self _), ?_⟩
      · refine X2.kin a o ?_
        rw [← hkc]; simp [hne, e]
      · exact (X2.off (Da + 1) (.head _)).2.1
      · obtain ⟨m, hm, _⟩ := X2.ns; exact ⟨m, hm⟩
  exact codeAny_compStart_list loop (T.W.self 0 _ _ _ S1 loop)
end
section
variable {c : Cx} {n : Nat} {fx : Fx} {σ : St} {kp im : Im} {h h' : Heap}
theorem CompEnd.hd {g : Heap} {I Da C : Addr} {im' : Im} {ds : List D} {h' h'' : Heap} (Z : CompEnd c g I im ds Da C im' h') (X : Hd c fx σ kp im g) (hI : Fresh fx σ kp im I) (hs : Heap.SameBut C h' h'') :
    Hd c fx σ kp im' h'' ∧ Fresh fx σ kp im' Da ∧ (∀ b, Ext kp im g im' b) ∧ ∃ vs m, h''.get? Da = some (lo vs m) ∧ Reps im' vs ds := by
  have keep : ∀ a o, a ≠ I → g.get? a = some o → h''.get? a = some o := fun a o hne e => (hs.2 a fun w => by rw [w, Z.newC] at e; cases e).trans (Z.keep a o hne e)
  have iin : ∀ a o, im' a = some o → h''.get? a = some o := fun a o e => (hs.2 a fun w => by rw [w, Z.imC] at e; cases e).trans (Z.iin a o e)
  have hn : ∀ a ∈ muts fx σ, im' a = none := fun a ha => by
    obtain ⟨_, z2, o, z3⟩ := X.off a ha
    cases q : im' a with
    | none => rfl
    | some ob =>
      rcases Z.new a ob q with w | w
      · rw [z2] at w; cases w
      · rw [z3] at w; cases w
  refine ⟨(X.other ⟨hI.2.1, hI.1, hI.2.2⟩ keep).more Z.le iin hn, ⟨Z.imD, ?_, fun q => ?_⟩, fun b => ⟨Z.le, fun a o e => (Z.new a o e).imp id fun w => ?_⟩, ?_⟩
  · cases q : kp Da with
    | none => rfl
    | some o => have := X.kin _ _ q; rw [Z.newD] at this; cases this
  · obtain ⟨_, _, o, z⟩ := X.off Da q
    rw [Z.newD] at z; cases z
  · cases q : kp a with
    | none => rfl
    | some o => have := X.kin _ _ q; rw [w] at this; cases this
  · obtain ⟨vs, m, e, r⟩ := Z.lst
    exact ⟨vs, m, (hs.2 Da Z.ne).trans e, r⟩
/-- what a comprehension over one source asks -/
def CompK (c : Cx) (n : Nat) (fx : Fx) (σ : St) (scope : Scope) (x : Str) (ifs : List Expr) (elt : Expr) (d : D) (k : List D → Prop) : Prop :=
  ∃ (xs : List D) (vars : List (Str × D)) (out : Nat → List D), itemsOf d xs ∧ SubC fx scope (fun x => σ.vars.lookup x) vars ∧ vars.lookup x = none ∧ out 0 = [] ∧ (∀ i, i ≤ xs.length → (out i).length ≤ 1000000) ∧
    (∀ C i d, xs[i]? = some d → Wc c n (fxC scope C fx) ⟨(x, d) :: vars, []⟩ ifs elt fun o => out (i + 1) = out i ++ o) ∧ k (out xs.length)
theorem Wf_comp {elt iter : Expr} {ifs : List Expr} {x : Str} {px pos : Pos} {scope : Scope} {k : List D → Prop} (hsc : scC fx scope = true) (hx : ∀ C, Storable (fxC scope C fx) x)
    (h : We c n fx σ iter fun d => CompK c n fx σ scope x ifs elt d k) (hs : ∀ x, foldedSetIterable iter fx.env x = pure x := by intro _; rfl) : Wf c n fx σ (.ListComp elt [⟨.Name x px, iter, ifs, 0⟩] scope pos) k := by
  intro A kp im s Q E hA X hQ
  obtain ⟨hk, hnames, hnd, hfree⟩ := scC_of hsc
  rw [eval_ListComp]
  refine wpAny_comprehension_free (use := none) rfl hs (closureFor_clo hfree) hk hnames (h A kp im s _ E hA X fun v d im1 h1 tk1 ex1 X1 r1 k1 => ?_)
  obtain ⟨xs, vars, out, hit, hv, hxn, h0, hz, turn, kk⟩ := k1
  refine iter_any hA X1 r1 hit fun I fp P S o T hI S0 => ?_
  have fr : Fresh fx σ kp im1 I := Fresh.of X1 (hI ▸ size_none _)
  have X2 : Hd c fx σ kp im1 (h1.push o) := X1.push0 o
  refine comp_core (RR := fun acc C => compPost c.M A E none Q acc C) hA X2 T S0 fr (by rw [hI, Heap.size_push]; exact Nat.lt_succ_self _) hsc hv hx hxn h0 hz turn fun D C im' h' tk' Z => ?_
  obtain ⟨m, hm⟩ := Z.ns
  refine ⟨m, hm, fun h'' hs'' => ?_⟩
  obtain ⟨X3, F3, ex3, vs, m3, e3, r3⟩ := Z.hd X2 fr hs''
  exact hQ D vs m3 _ im' h'' tk' (ex1.trans (ex3 h'').at) X3 e3 r3 F3 kk
theorem Ws_assign_comp {elt iter : Expr} {ifs : List Expr} {x y : Str} {px py pos spos : Pos} {scope : Scope} {kn : St → Prop} {kr : St → D → Prop} (hy : fx.env.kindOf y = some .local) (hsc : scC fx scope = true) (hx : ∀ C, Storable (fxC scope C fx) x)
    (h : We c n fx σ iter fun d => CompK c n fx σ scope x ifs elt d fun ds => kn (σ.set y (.lst ds))) (hs : ∀ x, foldedSetIterable iter fx.env x = pure x := by intro _; rfl)
    (hsw : swapsWith (.ListComp elt [⟨.Name x px, iter, ifs, 0⟩] scope pos) (some (.Name y py)) spos.line fx.env = pure true := by rfl) :
    Ws c n fx σ (.Assign [.Name y py] (.ListComp elt [⟨.Name x px, iter, ifs, 0⟩] scope pos) spos) kn kr := by
  intro A kp im s Q E hA X q1 q2
  obtain ⟨hk, hnames, hnd, hfree⟩ := scC_of hsc
  rw [exec_Assign_Name_used _ _ _ _ hsw]
  refine wpAny_bind (wpAny_standAt (wpAny_bind ?_))
  show wpAny _ A (do let _ ← comprehension (.ListComp elt [⟨.Name x px, iter, ifs, 0⟩] scope pos) scope fx.env _ (newList []) false (eval iter fx.env) (some (assign (.Name y py) fx.env))) _ _ s
  refine wpAny_bind (wpAny_mono (wpAny_comprehension_free (use := some (assign (.Name y py) fx.env)) (Q := fun _ s' => Q .next s') rfl hs (closureFor_clo hfree) hk hnames (h A kp im s _ E hA X fun v d im1 h1 tk1 ex1 X1 r1 k1 => ?_))
    (fun _ s' hq => wpAny_pure (wpAny_pure hq)) fun _ _ e => e)
  obtain ⟨xs, vars, out, hit, hv, hxn, h0, hz, turn, kk⟩ := k1
  refine iter_any hA X1 r1 hit fun I fp P S o T hI S0 => ?_
  have fr : Fresh fx σ kp im1 I := Fresh.of X1 (hI ▸ size_none _)
  have X2 : Hd c fx σ kp im1 (h1.push o) := X1.push0 o
  refine comp_core (RR := fun acc C => compPost c.M A E (some (assign (.Name y py) fx.env)) (fun _ s' => Q .next s') acc C) hA X2 T S0 fr (by rw [hI, Heap.size_push]; exact Nat.lt_succ_self _) hsc hv hx hxn h0 hz turn fun D C im' h' tk' Z => ?_
  obtain ⟨X3, F3, ex3, vs, m3, e3, r3⟩ := Z.hd X2 fr (Heap.SameBut.refl C h')
  have X4 := X3.put e3 F3.1 F3.2.2
  have le : Le im' (im'.put D (lo vs m3)) := Le.put F3.1
  have r4 : Rep (im'.put D (lo vs m3)) (.ref D) (.lst (out xs.length)) := .lst (Im.put_self _ _ _) rfl rfl (r3.mono le)
  -- the block's names stand apart
  obtain ⟨m, hm⟩ := Z.ns
  obtain ⟨oC, esC, epC, hoC, restC⟩ := id hm
  have kC : kp C = none := by
    cases q : kp C with
    | none => rfl
    | some o => have := X2.kin _ _ q; rw [Z.newC] at this; cases this
  have mC : C ∉ muts fx σ := fun q => by obtain ⟨_, _, o, z⟩ := X2.off C q; rw [Z.newC] at z; cases z
  have iC : (im'.put D (lo vs m3)) C = none := by rw [Im.put_ne _ _ Z.ne.symm]; exact Z.imC
  have X5 := X4.guard hoC mC kC
  show wpAny _ A (assign (.Name y py) fx.env (.ref D)) _ _ _
  refine wpAny_assign_Name (store_any X5 r4 (.inl hy) fun h6 tk6 X6 => ?_)
  refine ⟨m, ⟨oC, esC, epC, X6.kin C oC (Im.put_self _ _ _), restC⟩, fun h7 hs7 => ?_⟩
  have X6' := X6.unguard (Le.put kC) X.gk X.cel
  refine q1 _ _ h7 tk6 ((ex1.trans (ex3 h').at).trans (h' := h') ⟨le, fun a o e => ?_⟩) (X6'.other ⟨kC, iC, mC⟩ fun b o hb e => (hs7.2 b hb).trans e) kk
  unfold Im.put at e
  split at e
  · rename_i q; subst q; exact .inr F3.2.1
  · exact .inl e
end
def natL (m : Nat) : List D := (List.range m).map fun i => .int (i : Nat)
theorem natL_len (m : Nat) : (natL m).length = m := by simp [natL]
theorem natL_get {m i : Nat} {d : D} (h : (natL m)[i]? = some d) : i < m ∧ d = .int (i : Nat) := by
  have hi : i < m := by
    have := (List.getElem?_eq_some_iff.mp h).1
    rwa [natL_len] at this
  refine ⟨hi, ?_⟩
  unfold natL at h
  simp [hi] at h
  exact h.symm
theorem small_of {a b z : Int} (ha : -1000 ≤ a) (ha' : a ≤ 1000) (hb : -1000 ≤ b) (hb' : b ≤ 1000) (hz : z = 1 ∨ z = -1) : Builtin.Range.small a b z = true := by
  have q : Builtin.Range.rangeSize a b z ≤ 2000 ∧ 0 ≤ Builtin.Range.rangeSize a b z := by
    unfold Builtin.Range.rangeSize
    rcases hz with rfl | rfl
    · simp only [show (1 : Int) > 0 by decide, if_true]
      split <;> simp <;> omega
    · simp only [show ¬ ((-1 : Int) > 0) by decide, if_false]
      split <;> simp <;> omega
  unfold Builtin.Range.small Builtin.Range.rangeFitsLong
  rcases hz with rfl | rfl <;> simp <;> omega
theorem items_nat {m : Nat} (hm : m ≤ 1000) : itemsOf (.rng 0 (m : Int) 1) (natL m) := by
  refine ⟨small_of (by omega) (by omega) (by omega) (by omega) (.inl rfl), m, ?_, ?_⟩
  · unfold Builtin.Range.rangeSize; simp only [show (1 : Int) > 0 by decide, if_true]; split
    · rw [Int.ediv_one]; omega
    · omega
  · unfold rngD natL; congr 1; funext i; simp
section
variable {c : Cx} {n : Nat} {fx : Fx} {σ : St} {kp im : Im} {h h' : Heap}
/-! for, with a state told turn by turn -/
theorem Ws_forL {x : Str} {p pos : Pos} {it : Expr} {body rest : List Stmt} {kn : St → Prop} {kr : St → D → Prop} (xs : List D) (F : Nat → List (Str × D)) (O : Nat → Own) (hx : Storable fx x)
    (h0 : SubV (fun x => σ.vars.lookup x) (F 0)) (ho : σ.own = O 0) (hn : ∀ i, ((F i).map (·.1)).contains x = false)
    (hit : We c n fx σ it fun d => itemsOf d xs)
    (turn : ∀ i d, xs[i]? = some d → Wx c n fx ⟨(x, d) :: F i, O i⟩ body (fun σ' => SubV (fun x => σ'.vars.lookup x) (F (i + 1)) ∧ σ'.own = O (i + 1)) kr)
    (done : Wx c n fx ⟨F xs.length, O xs.length⟩ rest kn kr)
    (hs : ∀ x, foldedSetIterable it fx.env x = pure x := by intro _; rfl) : Ws c n fx σ (.For (.Name x p) it body [] pos) (fun σ' => Wx c n fx σ' rest kn kr) kr := by
  refine Ws_for hx (We.mono hit fun d hd => ⟨xs, hd, fun i σ' => SubV (fun x => σ'.vars.lookup x) (F i) ∧ σ'.own = O i, ⟨h0, ho⟩, fun i d σ' hd ⟨hv, hw⟩ => ?_, fun σ' ⟨hv, hw⟩ => ?_⟩) hs
  · have := Wx_weaken (c := c) (n := n) (fx := fx) (σ := σ'.set x d) (ss := body) (kn := fun σ' => SubV (fun x => σ'.vars.lookup x) (F (i + 1)) ∧ σ'.own = O (i + 1)) (kr := kr) ((x, d) :: F i) ?_ ?_
    · exact this
    · refine ⟨?_, ?_⟩
      · show List.lookup x ((x, d) :: σ'.vars) = some d
        rw [List.lookup_cons, beq_self_eq_true]
      · have hn := hn i
        generalize F i = l at hv hn
        induction l with
        | nil => trivial
        | cons q r ih =>
          obtain ⟨y, e⟩ := q
          obtain ⟨z1, z2⟩ := hv
          rw [List.map_cons, List.contains_cons, Bool.or_eq_false_iff] at hn
          refine ⟨?_, ih z2 hn.2⟩
          show List.lookup y ((x, d) :: σ'.vars) = some e
          rw [List.lookup_cons]
          have : (y == x) = false := by
            cases w : y == x with
            | false => rfl
            | true => rw [beq_iff_eq.mp w] at hn; simp at hn
          rw [this]; exact z1
    · show Wx c n fx ⟨(x, d) :: F i, σ'.own⟩ _ _ _
      rw [hw]; exact turn i d hd
  · refine Wx_weaken (F xs.length) hv ?_
    rw [hw]; exact done
theorem Ws_forN {x : Str} {p pos : Pos} {it : Expr} {body rest : List Stmt} {kn : St → Prop} {kr : St → D → Prop} (m : Nat) (F : Nat → List (Str × D)) (O : Nat → Own) (hx : Storable fx x) (hm : m ≤ 1000)
    (h0 : SubV (fun x => σ.vars.lookup x) (F 0)) (ho : σ.own = O 0) (hn : ∀ i, ((F i).map (·.1)).contains x = false)
    (hit : We c n fx σ it fun d => d = .rng 0 (m : Int) 1)
    (turn : ∀ i, i < m → Wx c n fx ⟨(x, .int (i : Nat)) :: F i, O i⟩ body (fun σ' => SubV (fun x => σ'.vars.lookup x) (F (i + 1)) ∧ σ'.own = O (i + 1)) kr)
    (done : Wx c n fx ⟨F m, O m⟩ rest kn kr)
    (hs : ∀ x, foldedSetIterable it fx.env x = pure x := by intro _; rfl) : Ws c n fx σ (.For (.Name x p) it body [] pos) (fun σ' => Wx c n fx σ' rest kn kr) kr := by
  refine Ws_forL (natL m) F O hx h0 ho hn (We.mono hit fun d hd => hd ▸ items_nat hm) (fun i d hd => ?_) ?_ hs
  · obtain ⟨hi, rfl⟩ := natL_get hd
    exact turn i hi
  · rw [natL_len]; exact done
/-! for, turn after turn -/
def forU (c : Cx) (n : Nat) (fx : Fx) (x : Str) (body : List Stmt) (kr : St → D → Prop) : List D → (St → Prop) → St → Prop
  | [], kn, σ => kn σ
  | d :: ds, kn, σ => Wx c n fx (σ.set x d) body (fun σ' => forU c n fx x body kr ds kn σ') kr
theorem Ws_forU {x : Str} {p pos : Pos} {it : Expr} {body : List Stmt} {kn : St → Prop} {kr : St → D → Prop} (hx : Storable fx x)
    (h : We c n fx σ it fun d => ∃ xs, itemsOf d xs ∧ forU c n fx x body kr xs kn σ)
    (hs : ∀ x, foldedSetIterable it fx.env x = pure x := by intro _; rfl) : Ws c n fx σ (.For (.Name x p) it body [] pos) kn kr := by
  refine Ws_for hx (We.mono h fun d ⟨xs, hi, hd⟩ => ⟨xs, hi, fun i σ' => forU c n fx x body kr (xs.drop i) kn σ', by simpa using hd, fun i d σ' hd hst => ?_, fun σ' hst => ?_⟩) hs
  · obtain ⟨hl, he⟩ := List.getElem?_eq_some_iff.mp hd
    dsimp only at hst ⊢
    rw [List.drop_eq_getElem_cons hl, he] at hst
    exact hst
  · simpa [forU] using hst
/-! comprehensions -/
theorem Wf_compF {elt iter : Expr} {ifs : List Expr} {x : Str} {px pos : Pos} {scope : Scope} {k : List D → Prop} (xs : List D) (vars : List (Str × D)) (g : Nat → List D) (hsc : scC fx scope = true) (hx : ∀ C, Storable (fxC scope C fx) x)
    (hv : SubC fx scope (fun x => σ.vars.lookup x) vars) (hxn : vars.lookup x = none) (hit : We c n fx σ iter fun d => itemsOf d xs) (hl : ∀ i, (g i).length ≤ 1) (hxl : xs.length ≤ 1000)
    (turn : ∀ C i d, xs[i]? = some d → Wc c n (fxC scope C fx) ⟨(x, d) :: vars, []⟩ ifs elt fun o => o = g i) (hk : k ((List.range xs.length).flatMap g))
    (hs : ∀ x, foldedSetIterable iter fx.env x = pure x := by intro _; rfl) : Wf c n fx σ (.ListComp elt [⟨.Name x px, iter, ifs, 0⟩] scope pos) k := by
  refine Wf_comp hsc hx (We.mono hit fun d hd => ⟨xs, vars, fun i => (List.range i).flatMap g, hd, hv, hxn, by simp, fun i hi => ?_, fun C i d hd => ?_, hk⟩) hs
  · have : ((List.range i).flatMap g).length ≤ i := by
      clear hi
      induction i with
      | zero => simp
      | succ i ih => rw [List.range_succ, List.flatMap_append]; simp only [List.flatMap_cons, List.flatMap_nil, List.append_nil, List.length_append]; have := hl i; omega
    dsimp only
    omega
  · have := turn C i d hd
    unfold Wc at this ⊢
    have e : ∀ o, o = g i → (List.range (i + 1)).flatMap g = (List.range i).flatMap g ++ o := fun o ho => by rw [List.range_succ, List.flatMap_append, ho]; simp
    match ifs, this with
    | [], this => exact We.mono this fun d hd => e _ hd
    | [t], this =>
      refine Wt.mono this fun b hb => ?_
      cases b with
      | true =>
        have hb : We c n (fxC scope C fx) ⟨(x, d) :: vars, []⟩ elt fun d => [d] = g i := by simpa using hb
        simpa using We.mono hb fun d hd => e _ hd
      | false =>
        have hb : [] = g i := by simpa using hb
        simpa using e _ hb
theorem Wf_compM {elt iter : Expr} {x : Str} {px pos : Pos} {scope : Scope} {k : List D → Prop} (xs : List D) (vars : List (Str × D)) (g : Nat → D) (hsc : scC fx scope = true) (hx : ∀ C, Storable (fxC scope C fx) x)
    (hv : SubC fx scope (fun x => σ.vars.lookup x) vars) (hxn : vars.lookup x = none) (hit : We c n fx σ iter fun d => itemsOf d xs) (hxl : xs.length ≤ 1000)
    (turn : ∀ C i d, xs[i]? = some d → We c n (fxC scope C fx) ⟨(x, d) :: vars, []⟩ elt fun o => o = g i) (hk : k ((List.range xs.length).map g))
    (hs : ∀ x, foldedSetIterable iter fx.env x = pure x := by intro _; rfl) : Wf c n fx σ (.ListComp elt [⟨.Name x px, iter, [], 0⟩] scope pos) k := by
  refine Wf_compF xs vars (fun i => [g i]) hsc hx hv hxn hit (fun i => by simp) hxl (fun C i d hd => We.mono (turn C i d hd) fun d hd => by rw [hd]) ?_ hs
  have e : (List.range xs.length).flatMap (fun i => [g i]) = (List.range xs.length).map g := by
    generalize List.range xs.length = l
    induction l with
    | nil => rfl
    | cons a l ih => rw [List.flatMap_cons, List.map_cons, ih]; rfl
  rw [e]; exact hk
theorem Wf_compN {elt iter : Expr} {x : Str} {px pos : Pos} {scope : Scope} {k : List D → Prop} (m : Nat) (vars : List (Str × D)) (g : Nat → D) (hsc : scC fx scope = true) (hx : ∀ C, Storable (fxC scope C fx) x)
    (hv : SubC fx scope (fun x => σ.vars.lookup x) vars) (hxn : vars.lookup x = none) (hm : m ≤ 1000) (hit : We c n fx σ iter fun d => d = .rng 0 (m : Int) 1)
    (turn : ∀ C i, i < m → We c n (fxC scope C fx) ⟨(x, .int (i : Nat)) :: vars, []⟩ elt fun o => o = g i) (hk : k ((List.range m).map g))
    (hs : ∀ x, foldedSetIterable iter fx.env x = pure x := by intro _; rfl) : Wf c n fx σ (.ListComp elt [⟨.Name x px, iter, [], 0⟩] scope pos) k := by
  refine Wf_compM (natL m) vars g hsc hx hv hxn (We.mono hit fun d hd => hd ▸ items_nat hm) (by rw [natL_len]; exact hm) (fun C i d hd => ?_) (by rw [natL_len]; exact hk) hs
  obtain ⟨hi, rfl⟩ := natL_get hd
  exact turn C i hi
end
/-- objects handed over for good, with the ground that is kept -/
structure Hf (c : Cx) (own : Own) (kp im : Im) (h : Heap) : Prop where
  hg : Hg c im h
  gk : ∀ a o, c.G.get? a = some o → kp a = some o
  kin : ∀ a o, kp a = some o → h.get? a = some o
  nodup : own.addrs.Nodup
  off : ∀ a ∈ own.addrs, kp a = none ∧ im a = none ∧ ∃ o, h.get? a = some o
  ats : ∀ p ∈ own, OwnAt im h p.1 p.2
def Fo (c : Cx) (n : Nat) (f : Addr) (own : Own) (ds : List D) (k : Own → D → Prop) : Prop :=
  ∀ (A : Around) (kp im : Im) (s : Shared) (R : Result → Shared → Prop) (vs : List Value), AOk n A → Hf c own kp im s.heap → Reps im vs ds →
    (∀ v d own' im' h' tk', Ext kp im s.heap im' h' → Hf c own' kp im' h' → Rep im' v d → k own' d → R (.ok (.ret v)) { s with heap := h', toks := tk' }) →
    codeAny c.M A (.call (.ref f) ⟨vs, []⟩) R s
def Wo (c : Cx) (n : Nat) (fx : Fx) (σ : St) (e : Expr) (k : Own → D → Prop) : Prop :=
  ∀ (A : Around) (kp im : Im) (s : Shared) (Q : Value → Shared → Prop) (E : Value → Shared → Prop), AOk n A → Hd c fx σ kp im s.heap →
    (∀ v d own' im' h' tk', Ext kp im s.heap im' h' → Hd c fx ⟨σ.vars, own'⟩ kp im' h' → Rep im' v d → k own' d → Q v { s with heap := h', toks := tk' }) → wpAny c.M A (eval e fx.env) Q E s
theorem addrs_app (a b : Own) : Own.addrs (a ++ b) = a.addrs ++ b.addrs := by simp [Own.addrs]
section
variable {c : Cx} {n : Nat} {fx : Fx} {σ : St} {kp im im' : Im} {h h' : Heap}
theorem Hd.hf (X : Hd c fx σ kp im h) : Hf c σ.own kp im h := by
  have nd := X.nodup
  rw [List.nodup_cons, List.nodup_append] at nd
  exact ⟨X.hg, X.gk, X.kin, nd.2.2.1, fun a ha => X.off a (.tail _ (List.mem_append_right _ ha)), X.own⟩
def less (mv : Own) (h : Heap) : Im := fun a => if a ∈ mv.addrs then none else h.get? a
theorem less_some {mv : Own} {a : Addr} {o : Obj} (e : less mv h a = some o) : a ∉ mv.addrs ∧ h.get? a = some o := by
  unfold less at e
  split at e
  · cases e
  · exact ⟨‹_›, e⟩
theorem less_of {mv : Own} {a : Addr} {o : Obj} (hn : a ∉ mv.addrs) (e : h.get? a = some o) : less mv h a = some o := by
  unfold less; rw [if_neg hn]; exact e
theorem Hd.lend {vars : List (Str × D)} {mv rest : Own} (X : Hd c fx ⟨vars, mv ++ rest⟩ kp im h) : Hf c mv (less mv h) im h := by
  have nd := X.nodup
  have e : Own.addrs (mv ++ rest) = mv.addrs ++ rest.addrs := addrs_app mv rest
  have e' : (⟨vars, mv ++ rest⟩ : St).own.addrs = mv.addrs ++ rest.addrs := e
  rw [e', List.nodup_cons, List.nodup_append, List.nodup_append] at nd
  have off : ∀ a ∈ mv.addrs, kp a = none ∧ im a = none ∧ ∃ o, h.get? a = some o := fun a ha => X.off a (.tail _ (List.mem_append_right _ (by rw [e']; exact List.mem_append_left _ ha)))
  refine ⟨X.hg, fun a o z => less_of (fun q => ?_) (X.kin _ _ (X.gk a o z)), fun a o z => (less_some z).2, nd.2.2.1.1, fun a ha => ?_, fun p hp => X.own p (List.mem_append_left _ hp)⟩
  · have := (off a q).1; rw [X.gk a o z] at this; cases this
  · exact ⟨by unfold less; rw [if_pos ha], (off a ha).2⟩
theorem Hd.unlend {vars : List (Str × D)} {mv own' rest : Own} (X : Hd c fx ⟨vars, mv ++ rest⟩ kp im h) (ex : Ext (less mv h) im h im' h') (F : Hf c own' (less mv h) im' h') : Hd c fx ⟨vars, own' ++ rest⟩ kp im' h' ∧ Ext kp im h im' h' := by
  have nd := X.nodup
  have e' : (⟨vars, mv ++ rest⟩ : St).own.addrs = mv.addrs ++ rest.addrs := addrs_app mv rest
  have e2 : (⟨vars, own' ++ rest⟩ : St).own.addrs = own'.addrs ++ rest.addrs := addrs_app own' rest
  rw [e', List.nodup_cons, List.nodup_append, List.nodup_append] at nd
  have moff : ∀ a ∈ mv.addrs, kp a = none := fun a ha => (X.off a (.tail _ (List.mem_append_right _ (by rw [e']; exact List.mem_append_left _ ha)))).1
  have le : Le kp (less mv h) := fun a o z => less_of (fun q => by rw [moff a q] at z; cases z) (X.kin a o z)
  have Lm : fx.env.locals ∉ mv.addrs := fun q => nd.1 (List.mem_append_right _ (List.mem_append_left _ q))
  have Wm : ∀ a ∈ fx.wr, a ∉ mv.addrs := fun a ha q => nd.2.2.2 a ha a (List.mem_append_left _ q) rfl
  have Rm : ∀ a ∈ rest.addrs, a ∉ mv.addrs := fun a ha q => nd.2.2.1.2.2 a q a ha rfl
  have keep : ∀ a o, a ∉ mv.addrs → h.get? a = some o → h'.get? a = some o := fun a o q z => F.kin a o (less_of q z)
  have newo : ∀ a ∈ own'.addrs, a ∈ mv.addrs ∨ h.get? a = none := fun a ha => by
    by_cases q : a ∈ mv.addrs
    · exact .inl q
    · have := (F.off a ha).1; unfold less at this; rw [if_neg q] at this; exact .inr this
  have stay : ∀ a o, a ∉ mv.addrs → im a = none → h.get? a = some o → im' a = none := fun a o q z w => by
    cases y : im' a with
    | none => rfl
    | some ob =>
      rcases ex.new a ob y with t | t
      · rw [z] at t; cases t
      · unfold less at t; rw [if_neg q, w] at t; cases t
  have keepm : ∀ a, (a = fx.env.locals ∨ a ∈ fx.wr ∨ a ∈ rest.addrs) → a ∉ mv.addrs ∧ a ∈ muts fx ⟨vars, mv ++ rest⟩ := fun a ha => by
    rcases ha with rfl | ha | ha
    · exact ⟨Lm, .head _⟩
    · exact ⟨Wm a ha, .tail _ (List.mem_append_left _ ha)⟩
    · exact ⟨Rm a ha, .tail _ (List.mem_append_right _ (by rw [e']; exact List.mem_append_right _ ha))⟩
  have disj : ∀ a, (a = fx.env.locals ∨ a ∈ fx.wr ∨ a ∈ rest.addrs) → a ∉ own'.addrs := fun a ha q => by
    obtain ⟨z1, z2⟩ := keepm a ha
    obtain ⟨_, _, o, z3⟩ := X.off a z2
    rcases newo a q with t | t
    · exact z1 t
    · rw [z3] at t; cases t
  have ckeep : ∀ a v₀, (a ∈ fx.wr ∨ ∃ o, kp a = some o) → h.IsCell a v₀ → h'.IsCell a v₀ := fun a v₀ ha ⟨o, z1, z2⟩ => ⟨o, keep a o (fun q => by
    rcases ha with ha | ⟨o', ha⟩
    · exact Wm a ha q
    · rw [moff a q] at ha; cases ha) z1, z2⟩
  refine ⟨⟨X.kind, X.cap, X.cel, X.glob, X.blt, F.hg, X.gk, fun a o z => F.kin a o (le a o z), ?_, ?_, fun a ha => ?_, fun p hp => ?_, fun a ha => ?_⟩, ex.weak le⟩
  · obtain ⟨m, hn, hv⟩ := X.ns
    refine ⟨m, hn.at' fun o z => keep _ o Lm z, fun y e hy => ?_⟩
    rcases hv y e hy with ⟨k1, v', k2, k3⟩ | ⟨k1, b, v', k2, k3, k4⟩
    · exact .inl ⟨k1, v', k2, k3.mono ex.le⟩
    · exact .inr ⟨k1, b, v', k2, ckeep b _ (X.cel _ _ k2) k3, k4.mono ex.le⟩
  · rw [e2, List.nodup_cons, List.nodup_append, List.nodup_append]
    refine ⟨fun q => ?_, nd.2.1, ⟨F.nodup, nd.2.2.1.2.1, fun a ha b hb q => disj b (.inr (.inr hb)) (q ▸ ha)⟩, fun a ha b hb q => ?_⟩
    · rcases List.mem_append.mp q with q | q
      · exact nd.1 (List.mem_append_left _ q)
      · rcases List.mem_append.mp q with q | q
        · exact disj _ (.inl rfl) q
        · exact nd.1 (List.mem_append_right _ (List.mem_append_right _ q))
    · subst q
      rcases List.mem_append.mp hb with hb | hb
      · exact disj _ (.inr (.inl ha)) hb
      · exact nd.2.2.2 a ha a (List.mem_append_right _ hb) rfl
  · have ha : a = fx.env.locals ∨ a ∈ fx.wr ∨ a ∈ own'.addrs ∨ a ∈ rest.addrs := by
      rw [e2] at ha
      rcases List.mem_cons.mp ha with q | q
      · exact .inl q
      · rcases List.mem_append.mp q with q | q
        · exact .inr (.inl q)
        · exact .inr (.inr (List.mem_append.mp q))
    have old : (a = fx.env.locals ∨ a ∈ fx.wr ∨ a ∈ rest.addrs) → kp a = none ∧ im' a = none ∧ ∃ o, h'.get? a = some o := fun hb => by
      obtain ⟨z1, z2⟩ := keepm a hb
      obtain ⟨w1, w2, o, w3⟩ := X.off a z2
      exact ⟨w1, stay a o z1 w2 w3, o, keep a o z1 w3⟩
    rcases ha with ha | ha | ha | ha
    · exact old (.inl ha)
    · exact old (.inr (.inl ha))
    · obtain ⟨w1, w2, w3⟩ := F.off a ha
      refine ⟨?_, w2, w3⟩
      cases q : kp a with
      | none => rfl
      | some o => rw [le a o q] at w1; cases w1
    · exact old (.inr (.inr ha))
  · rcases List.mem_append.mp hp with hp | hp
    · exact F.ats p hp
    · exact (X.own p (List.mem_append_right _ hp)).mono ex.le fun b hb ob z => keep b ob (Rm b (List.mem_flatMap.mpr ⟨p, hp, hb⟩)) z
  · obtain ⟨v₀, z⟩ := X.wrc a ha
    exact ⟨v₀, ckeep a _ (.inl ha) z⟩
theorem Wo_call {x : Str} {p pos : Pos} {e : Expr} {es : List Expr} {f : Addr} {vars : List (Str × D)} {mv rest : Own} {k : Own → D → Prop} (hx : fx.env.kindOf x = some .globalImplicit) (hf : nsIn c.K mainGlobals x = some (some (.ref f))) (hk : keepIn c.K (.ref f) = true)
    (h : Wes c n fx ⟨vars, mv ++ rest⟩ pos (e :: es) fun ds => Fo c n f mv ds fun own' d => k (own' ++ rest) d) (he : starEach (e :: es) fx.env = (false, eval e fx.env) :: starEach es fx.env := by rfl) (hplain : (backTo pos (starEach es fx.env)).any (·.1) = false := by rfl)
    (hd : (x == ("__debug__" : Str)) = false := by decide) :
    Wo c n fx ⟨vars, mv ++ rest⟩ (.Call (.Name x p) (e :: es) [] pos) k := by
  intro A kp im s Q E hA X hQ
  refine Call_ (We_globRaw (k := fun d => d = .raw (.ref f)) hx hf rfl hd A kp im s _ E hA X fun v d im1 h1 tk1 ex1 X1 r1 k1 => ?_)
  subst k1
  cases r1
  refine callWith_K (h₀ := c.G) (K := c.K) c.X hk (h A kp im1 _ _ E hA X1 fun vs ds im2 h2 tk2 ex2 X2 r2 k2 => ?_) he hplain
  refine ⟨c.X.keeps X2.hg.gd, ?_⟩
  refine wpAny_call (k2 A _ im2 _ _ vs hA X2.lend r2 fun v d own' im3 h3 tk3 ex3 F3 r3 k3 => by
  obtain ⟨X3, ex4⟩ := X2.unlend ex3 F3
  exact hQ v d _ im3 h3 tk3 ((ex1.trans ex2).trans ex4) X3 r3 k3)
theorem Ws_assignO {x : Str} {p pos : Pos} {e : Expr} {kn : St → Prop} {kr : St → D → Prop} (hx : Storable fx x) (h : Wo c n fx σ e fun own' d => kn ⟨(x, d) :: σ.vars, own'⟩)
    (hs : swapsWith e (some (.Name x p)) pos.line fx.env = pure false := by rfl) : Ws c n fx σ (.Assign [.Name x p] e pos) kn kr := by
  intro A kp im s Q E hA X q1 q2
  refine wpAny_Assign_Name (h A kp im s _ E hA X fun v d own' im' h' tk' ex X' r k => ?_) hs
  exact store_any X' r hx fun h2 tk2 X2 => q1 _ im' h2 tk2 (ex.trans Ext.same) X2 k
/-! fresh lists as arguments -/
def Wos (c : Cx) (n : Nat) (fx : Fx) (σ : St) (pos : Pos) (es : List Expr) (k : Own → List D → Prop) : Prop :=
  ∀ (A : Around) (kp im : Im) (s : Shared) (Q : List Value → Shared → Prop) (E : Value → Shared → Prop), AOk n A → Hd c fx σ kp im s.heap →
    (∀ vs ds own' im' h' tk', Ext kp im s.heap im' h' → Hd c fx ⟨σ.vars, own'⟩ kp im' h' → Reps im' vs ds → k own' ds → Q vs { s with heap := h', toks := tk' }) → wpAny c.M A (spliced (backTo pos (starEach es fx.env))) Q E s
theorem Wos_nil {pos : Pos} {k : Own → List D → Prop} (h : k σ.own []) : Wos c n fx σ pos [] k := fun A kp im s Q E hA X hQ => wpAny_items_nil (hQ _ _ σ.own im s.heap s.toks (Ext.refl _ _ _) X .nil h)
theorem Wos_fresh {pos : Pos} {e : Expr} {es : List Expr} {k : Own → List D → Prop} (h : Wf c n fx σ e fun ds => ∀ a, Wos c n fx ⟨σ.vars, (a, .lst ds) :: σ.own⟩ pos es fun own' ds' => k own' (.raw (.ref a) :: ds'))
    (he : starEach (e :: es) fx.env = (false, eval e fx.env) :: starEach es fx.env := by rfl) : Wos c n fx σ pos (e :: es) k := by
  intro A kp im s Q E hA X hQ
  refine wpAny_items_cons (h A kp im s _ E hA X fun a vs m ds im1 h1 tk1 ex1 X1 ho r1 hf k1 => ?_) he
  exact k1 a A kp im1 _ _ E hA (X1.adopt ho r1 hf) fun vs ds own' im2 h2 tk2 ex2 X2 r2 k2 => hQ _ _ _ im2 h2 tk2 (ex1.trans ex2) X2 (.cons (.raw _) r2) k2
theorem enter_defO {A : Around} {s : Shared} {kp im : Im} {own : Own} {name qual : Str} {params : Arguments} {body : List Stmt} {scope : Scope} {dV kV doc pm cdv ct oc : Value} {an od : Option Addr} {osl : Array (Option Value)} {f : Addr} {vs ws : List Value} {xs : List Str} {es : List D}
    {R : Result → Shared → Prop} {kn : St → Prop} {kr : St → D → Prop}
    (ho : c.K.lookup f = some ⟨oc, od, .func (fnOf name qual params body scope dV kV doc pm an cdv ct), osl⟩) (hcd : codeIn c.K cdv qual = true)
    (hA : AOk (n + 1) A) (hf : Hf c own kp im s.heap) (hb : BindsTo s (fnOf name qual params body scope dV kV doc pm an cdv ct) ⟨vs, []⟩ (xs.zip ws)) (hr : Reps im ws es) (hlen : xs.length = es.length) (hnx : xs.Nodup)
    (hkx : ∀ x ∈ xs, scope.names.lookup x = some .local ∨ scope.names.lookup x = some .cell) (hnn : (scope.names.map (·.1)).Nodup) (hk : scope.kind = .function) (hco : scope.isCoroutine = false) (hgen : scope.isGenerator = false)
    (h : ∀ L, Wx c n (fxOf qual scope L f cdv) ⟨xs.zip es, own⟩ body kn kr)
    (hR : ∀ v d σ' L im' h' tk', Ext kp im s.heap im' h' → Hd c (fxOf qual scope L f cdv) σ' kp im' h' → Rep im' v d → ((v = .none ∧ d = .none ∧ kn σ') ∨ kr σ' d) → R (.ok (.ret v)) { s with heap := h', toks := tk' }) :
    codeAny c.M A (.call (.ref f) ⟨vs, []⟩) R s := by
  have hg := hf.hg
  have hoh : s.heap.get? f = some ⟨oc, od, .func (fnOf name qual params body scope dV kV doc pm an cdv ct), osl⟩ := hg.gd _ _ (c.X _ _ ho)
  have cn : ((cellsFrom 0 scope.names []).map (·.1)).Nodup := by
    have : ∀ (names : List (Str × NameKind)) (k : Nat) (acc : List (Str × Addr)), (names.map (·.1)).Nodup → (acc.map (·.1)).Nodup → (∀ x ∈ names.map (·.1), x ∉ acc.map (·.1)) → ((cellsFrom k names acc).map (·.1)).Nodup := by
      intro names
      induction names with
      | nil => intro k acc _ h2 _; exact h2
      | cons p r ih =>
        intro k acc h1 h2 h3
        obtain ⟨y, kd⟩ := p
        simp only [List.map_cons, List.nodup_cons] at h1
        unfold cellsFrom
        split
        · refine ih _ _ h1.2 ?_ fun x hx => ?_
          · simp only [List.map_cons, List.nodup_cons]; exact ⟨h3 y (by simp), h2⟩
          · simp only [List.map_cons, List.mem_cons, not_or]
            exact ⟨fun q => h1.1 (q ▸ hx), h3 x (by simp at hx ⊢; exact .inr hx)⟩
        · exact ih _ _ h1.2 h2 fun x hx => h3 x (by simp at hx ⊢; exact .inr hx)
    exact this _ _ _ hnn (by simp) (by simp)
  have cmem : ∀ k, ∀ x, scope.names.lookup x = some .cell → ((cellsFrom k scope.names []).lookup x).isSome = true := by
    intro k x hx
    have : ∀ (names : List (Str × NameKind)) (k : Nat) (acc : List (Str × Addr)), ((acc.lookup x).isSome = true ∨ names.lookup x = some .cell) → ((cellsFrom k names acc).lookup x).isSome = true := by
      intro names
      induction names with
      | nil => intro k acc h; rcases h with h | h; exact h; simp at h
      | cons p r ih =>
        intro k acc h
        obtain ⟨y, kd⟩ := p
        unfold cellsFrom
        have hl : List.lookup x ((y, kd) :: r) = if x == y then some kd else r.lookup x := by rw [List.lookup_cons]; cases x == y <;> rfl
        rw [hl] at h
        split
        · refine ih _ _ ?_
          rw [List.lookup_cons]
          cases e : x == y with
          | true => exact .inl rfl
          | false => rw [e] at h; simpa using h
        · rename_i hkd
          refine ih _ _ ?_
          rcases h with h | h
          · exact .inl h
          · cases e : x == y with
            | true => rw [e] at h; simp at h; subst h; simp at hkd
            | false => rw [e] at h; exact .inr (by simpa using h)
    exact this _ _ _ (.inr hx)
  have hnames := zip_names (xs := xs) hr hlen
  have hin : ∀ y ∈ xs.zip ws, y.1 ∈ xs := fun y hy => by
    have : y.1 ∈ (xs.zip ws).map (·.1) := List.mem_map_of_mem hy
    rwa [hnames] at this
  have hbk : ∀ k, ∀ y ∈ xs.zip ws, scope.names.lookup y.1 = some .local ∨ (scope.names.lookup y.1 = some .cell ∧ ((cellsFrom k scope.names []).lookup y.1).isSome = true) := fun k y hy =>
    (hkx _ (hin y hy)).imp id fun e => ⟨e, cmem k _ e⟩
  refine codeAny_call_function (body := body) (by have := hA.2.1; omega) hoh rfl hco hgen rfl (codeRec_of (c.X.keeps hg.gd) hcd) (hb _ _ _ _ ?_)
  refine wpAny_newFunctionEnv_cells hk (hbk _) fun env' he s' x => ?_
  subst he
  refine ⟨(c.lim.keeps hg.gd).keeps x.toInCall.keep, codeAny_func ?_⟩
  obtain ⟨h₁, tk, rfl, hk₁⟩ := x.done
  have hL : s.heap.get? s.heap.objs.size = none := size_none _
  have lt_none : ∀ a, s.heap.objs.size ≤ a → s.heap.get? a = none := fun a ha => by
    cases q : s.heap.get? a with
    | none => rfl
    | some o => exact absurd (Heap.lt_size q) (Nat.not_lt.mpr ha)
  have inone : ∀ a, s.heap.objs.size ≤ a → im a = none := fun a ha => by
    cases q : im a with
    | none => rfl
    | some o => have := hg.iin _ _ q; rw [lt_none a ha] at this; cases this
  have ccell : ∀ nm a, (nm, a) ∈ cellsFrom (s.heap.objs.size + 1) scope.names [] → ∃ v₀, h₁.IsCell a v₀ := fun nm a hm =>
    ⟨_, x.cell nm a (lookup_of_mem_nodup (cellsFrom_names scope.names 0 (s.heap.objs.size + 1) [] [] rfl ▸ cn) hm)⟩
  have cabove : ∀ nm a, (nm, a) ∈ cellsFrom (s.heap.objs.size + 1) scope.names [] → s.heap.objs.size < a := fun nm a hm => x.above nm a hm
  have X : Hd c (fxOf qual scope s.heap.objs.size f cdv) ⟨xs.zip es, own⟩ kp im h₁ := by
    have lt_none' : ∀ a, s.heap.objs.size ≤ a → kp a = none := fun a ha => by
      cases q : kp a with
      | none => rfl
      | some o => have := hf.kin _ _ q; rw [lt_none a ha] at this; cases this
    have ownlt : ∀ a ∈ own.addrs, a < s.heap.objs.size := fun a ha => by obtain ⟨_, _, o, e⟩ := hf.off a ha; exact Heap.lt_size e
    have wrgt : ∀ a ∈ (fxOf qual scope s.heap.objs.size f cdv).wr, s.heap.objs.size < a := fun a ha => by
      obtain ⟨⟨nm, b⟩, hm, rfl⟩ := List.mem_map.mp ha; exact cabove nm b hm
    refine ⟨hk, fun y y' a h1 h2 => name_of_addr x.apart (mem_of_lookup h1) (mem_of_lookup h2), fun y a e => .inl (List.mem_map.mpr ⟨(y, a), mem_of_lookup e, rfl⟩), rfl, rfl,
      ⟨fun a o e => hk₁ _ _ (hg.gd a o e), hg.imK, fun a o e => hk₁ _ _ (hg.iin a o e)⟩, hf.gk, fun a o e => hk₁ _ _ (hf.kin a o e), ⟨_, x.toInCall.ns, fun y d hd => ?_⟩, ?_, fun a ha => ?_, fun p hp => (hf.ats p hp).mono (Le.refl _) fun b _ ob e => hk₁ b ob e, fun a ha => ?_⟩
    · obtain ⟨v, hm, rv⟩ := zip_lookup hr hd
      have nd : ((xs.zip ws).map (·.1)).Nodup := by rw [hnames]; exact hnx
      by_cases hl : scope.names.lookup y = some .local
      · exact .inl ⟨hl, v, bindL_mem (kindOf := (envOfC qual scope s.heap.objs.size f cdv).kindOf) hl _ _ nd hm, rv⟩
      · have hc : scope.names.lookup y = some .cell := (hkx y (hin _ hm)).resolve_left hl
        obtain ⟨a, ha⟩ := Option.isSome_iff_exists.mp (cmem (s.heap.objs.size + 1) y hc)
        refine .inr ⟨.inl hc, a, v, ha, ?_, rv⟩
        have := x.cell y a ha
        rw [bindC_mem (x := y) (v := v) hl _ _ nd hm] at this
        exact this
    · refine List.nodup_cons.mpr ⟨fun q => ?_, List.nodup_append.mpr ⟨List.pairwise_map.mpr x.apart, hf.nodup, fun a ha b hb q => ?_⟩⟩
      · rcases List.mem_append.mp q with q | q
        · exact absurd (wrgt _ q) (Nat.lt_irrefl _)
        · exact absurd (ownlt _ q) (Nat.lt_irrefl _)
      · subst q; exact absurd (ownlt _ hb) (Nat.not_lt.mpr (Nat.le_of_lt (wrgt _ ha)))
    · rcases List.mem_cons.mp ha with rfl | ha
      · obtain ⟨o, _, _, ho', _⟩ := x.toInCall.ns
        exact ⟨lt_none' _ (Nat.le_refl _), inone _ (Nat.le_refl _), o, ho'⟩
      · rcases List.mem_append.mp ha with ha | ha
        · have hab := Nat.le_of_lt (wrgt _ ha)
          obtain ⟨⟨nm, b⟩, hm, rfl⟩ := List.mem_map.mp ha
          obtain ⟨v₀, o, ho', _⟩ := ccell nm b hm
          exact ⟨lt_none' _ hab, inone _ hab, o, ho'⟩
        · obtain ⟨z1, z2, o, z3⟩ := hf.off a ha
          exact ⟨z1, z2, o, hk₁ _ _ z3⟩
    · obtain ⟨⟨nm, b⟩, hm, rfl⟩ := List.mem_map.mp ha
      exact ccell nm b hm
  have hA' : AOk n (A.deeper (envOfC qual scope s.heap.objs.size f cdv)) := ⟨hA.1, by have := hA.2.1; show A.depth + 1 + n < _; omega, by have := hA.2.2; show A.units + 3 + 20 * n < _; omega⟩
  refine h s.heap.objs.size _ _ im { s with heap := h₁, toks := tk } _ _ hA' X (fun σ' im' h' tk' ex X' k => ?_) fun v d σ' im' h' tk' ex X' r k => ?_
  · exact hR _ .none σ' _ im' h' tk' ex.at X' .none (.inl ⟨rfl, rfl, k⟩)
  · exact hR _ d σ' _ im' h' tk' ex.at X' r (.inr k)
theorem Fo_of {name qual : Str} {params : Arguments} {body : List Stmt} {scope : Scope} {dV kV doc pm cdv ct oc : Value} {an od : Option Addr} {osl : Array (Option Value)} {f : Addr} {own : Own} {ds es : List D} (xs : List Str) {k : Own → D → Prop}
    (ho : c.K.lookup f = some ⟨oc, od, .func (fnOf name qual params body scope dV kV doc pm an cdv ct), osl⟩) (hcd : codeIn c.K cdv qual = true) (hsc : scOk xs scope = true)
    (hb : ∀ im s vs, c.K.In s.heap → Reps im vs ds → ∃ ws, BindsTo s (fnOf name qual params body scope dV kV doc pm an cdv ct) ⟨vs, []⟩ (xs.zip ws) ∧ Reps im ws es) (hlen : xs.length = es.length)
    (h : ∀ L, Wx c n (fxOf qual scope L f cdv) ⟨xs.zip es, own⟩ body (fun σ' => k σ'.own .none) fun σ' d => k σ'.own d) :
    Fo c (n + 1) f own ds k := by
  obtain ⟨hnx, hkx, hnn, hk, hco, hgen⟩ := scOk_of hsc
  intro A kp im s R vs hA hg hr hQ
  obtain ⟨ws, hbs, hrs⟩ := hb im s vs (c.X.keeps hg.hg.gd) hr
  refine enter_defO ho hcd hA hg hbs hrs hlen hnx hkx hnn hk hco hgen h fun v d σ' L im' h' tk' ex X' r hkk => ?_
  refine hQ v d _ im' h' tk' ex X'.hf r ?_
  rcases hkk with ⟨_, rfl, z⟩ | z
  · exact z
  · exact z
theorem Fo1 {name qual : Str} {params : Arguments} {body : List Stmt} {scope : Scope} {dV kV doc pm cdv ct oc : Value} {an od : Option Addr} {osl : Array (Option Value)} {f : Addr} {own : Own} {d1 : D} (x1 : Str) {k : Own → D → Prop}
    (ho : c.K.lookup f = some ⟨oc, od, .func (fnOf name qual params body scope dV kV doc pm an cdv ct), osl⟩) (hcd : codeIn c.K cdv qual = true) (hsc : scOk [x1] scope = true)
    (hb : ∀ v1, bindArgs (fnOf name qual params body scope dV kV doc pm an cdv ct) ⟨[v1], []⟩ = pure [(x1, v1)])
    (h : ∀ L, Wx c n (fxOf qual scope L f cdv) ⟨[(x1, d1)], own⟩ body (fun σ' => k σ'.own .none) fun σ' d => k σ'.own d) : Fo c (n + 1) f own [d1] k :=
  Fo_of [x1] ho hcd hsc (fun im s vs _ r => ⟨vs, by obtain ⟨v1, rfl, _⟩ := r.l1; exact BindsTo.of_eq (hb v1), r⟩) rfl h
theorem Fo2 {name qual : Str} {params : Arguments} {body : List Stmt} {scope : Scope} {dV kV doc pm cdv ct oc : Value} {an od : Option Addr} {osl : Array (Option Value)} {f : Addr} {own : Own} {d1 d2 : D} (x1 x2 : Str) {k : Own → D → Prop}
    (ho : c.K.lookup f = some ⟨oc, od, .func (fnOf name qual params body scope dV kV doc pm an cdv ct), osl⟩) (hcd : codeIn c.K cdv qual = true) (hsc : scOk [x1, x2] scope = true)
    (hb : ∀ v1 v2, bindArgs (fnOf name qual params body scope dV kV doc pm an cdv ct) ⟨[v1, v2], []⟩ = pure [(x1, v1), (x2, v2)])
    (h : ∀ L, Wx c n (fxOf qual scope L f cdv) ⟨[(x1, d1), (x2, d2)], own⟩ body (fun σ' => k σ'.own .none) fun σ' d => k σ'.own d) : Fo c (n + 1) f own [d1, d2] k :=
  Fo_of [x1, x2] ho hcd hsc (fun im s vs _ r => ⟨vs, by obtain ⟨v1, v2, rfl, _⟩ := r.l2; exact BindsTo.of_eq (hb v1 v2), r⟩) rfl h
end
section
variable {c : Cx} {n : Nat} {fx : Fx} {σ : St} {kp im im' : Im} {h h' : Heap}
theorem AOk.under {A : Around} (hA : AOk (n + 1) A) (C : Addr) (rest : List Value) : AOk n (A.under (.builtin "type.__call__" ⟨.ref C :: rest, []⟩)) := by
  have w : Code.weight (.builtin "type.__call__" ⟨.ref C :: rest, []⟩) = 1 := by kernel_rfl
  have u : Code.cUnits (.builtin "type.__call__" ⟨.ref C :: rest, []⟩) = 1 := by kernel_rfl
  refine ⟨hA.1, ?_, ?_⟩
  · have := hA.2.1; show A.depth + Code.weight _ + n < _; rw [w]; omega
  · have := hA.2.2; show A.units + Code.cUnits _ + 20 * n < _; rw [u]; omega
/-- an object of the program's class, made from new lists -/
theorem Wo_make {x : Str} {p pos : Pos} {e : Expr} {es : List Expr} {f : Addr} {k : Own → D → Prop} (hx : fx.env.kindOf x = some .globalImplicit) (hC : nsIn c.K mainGlobals x = some (some (.ref CF))) (hk : keepIn c.K (.ref CF) = true)
    (hm : makesIn c.K CF = true) (hi : findIn c.K (.ref CF) "__init__" = some (some (.ref f))) (hf : typeIn c.K (.ref f) = some (.type "function"))
    (h : Wos c (n + 1) fx σ pos (e :: es) fun own ds => ∃ mv rest, own = mv ++ rest ∧ ∀ a dx, Fo c n f ((a, .obj dx []) :: mv) (.raw (.ref a) :: ds) fun own' d => d = .none ∧ k (own' ++ rest) (.raw (.ref a)))
    (he : starEach (e :: es) fx.env = (false, eval e fx.env) :: starEach es fx.env := by rfl) (hplain : (backTo pos (starEach es fx.env)).any (·.1) = false := by rfl)
    (hd : (x == ("__debug__" : Str)) = false := by decide) : Wo c (n + 1) fx σ (.Call (.Name x p) (e :: es) [] pos) k := by
  intro A kp im s Q E hA X hQ
  refine Call_ (We_globRaw (k := fun d => d = .raw (.ref CF)) hx hC rfl hd A kp im s _ E hA X fun v d im1 h1 tk1 ex1 X1 r1 k1 => ?_)
  subst k1
  cases r1
  refine callWith_K (h₀ := c.G) (K := c.K) c.X hk (h A kp im1 _ _ E hA X1 fun vs ds own im2 h2 tk2 ex2 X2 r2 k2 => ?_) he hplain
  refine ⟨c.X.keeps X2.hg.gd, ?_⟩
  obtain ⟨mv, rest, rfl, k2⟩ := k2
  have XK := c.X.keeps X2.hg.gd
  refine wpAny_call (make_core (makes_of XK hm) (looks_findIn XK hi) (fun self => bind_fn XK self hf) (.inl rfl) ?_)
  have F2 := X2.lend
  have keep : ∀ a o, h2.get? a = some o → ((h2.push emptyDict).push (instObj CF h2.objs.size)).get? a = some o := fun a o z => Heap.get?_push_of_some _ (Heap.get?_push_of_some _ z)
  have hxo : ((h2.push emptyDict).push (instObj CF h2.objs.size)).get? (h2.objs.size + 1) = some (instObj CF h2.objs.size) := by
    have := Heap.get?_push_size (h2.push emptyDict) (o := instObj CF h2.objs.size) rfl
    rwa [Heap.size_push] at this
  have hdo : ((h2.push emptyDict).push (instObj CF h2.objs.size)).get? h2.objs.size = some emptyDict := Heap.get?_push_of_some _ (Heap.get?_push_size _ rfl)
  have none2 : ∀ a, h2.objs.size ≤ a → h2.get? a = none := fun a ha => by
    cases q : h2.get? a with
    | none => rfl
    | some o => exact absurd (Heap.lt_size q) (Nat.not_lt.mpr ha)
  have inone : ∀ a, h2.objs.size ≤ a → im2 a = none := fun a ha => by
    cases q : im2 a with
    | none => rfl
    | some o => have := X2.hg.iin _ _ q; rw [none2 a ha] at this; cases this
  have lnone : ∀ a, h2.objs.size ≤ a → less mv h2 a = none := fun a ha => by unfold less; rw [none2 a ha]; split <;> rfl
  have mlt : ∀ a ∈ mv.addrs, a < h2.objs.size := fun a ha => by obtain ⟨_, _, o, z⟩ := F2.off a ha; exact Heap.lt_size z
  have F3 : Hf c ((h2.objs.size + 1, .obj h2.objs.size []) :: mv) (less mv h2) im2 ((h2.push emptyDict).push (instObj CF h2.objs.size)) := by
    refine ⟨⟨fun a o z => keep a o (F2.hg.gd a o z), F2.hg.imK, fun a o z => keep a o (F2.hg.iin a o z)⟩, F2.gk, fun a o z => keep a o (F2.kin a o z), ?_, fun a ha => ?_, fun p hp => ?_⟩
    · show ((h2.objs.size + 1) :: h2.objs.size :: mv.addrs).Nodup
      simp only [List.nodup_cons, List.mem_cons, not_or]
      refine ⟨⟨by omega, fun q => ?_⟩, fun q => ?_, F2.nodup⟩
      · exact absurd (mlt _ q) (Nat.not_lt.mpr (Nat.le_succ _))
      · exact absurd (mlt _ q) (Nat.lt_irrefl _)
    · have ha : a ∈ (h2.objs.size + 1) :: h2.objs.size :: mv.addrs := ha
      simp only [List.mem_cons] at ha
      rcases ha with rfl | rfl | ha
      · exact ⟨lnone _ (by omega), inone _ (by omega), _, hxo⟩
      · exact ⟨lnone _ (by omega), inone _ (by omega), _, hdo⟩
      · obtain ⟨z1, z2, o, z3⟩ := F2.off a ha
        exact ⟨z1, z2, o, keep a o z3⟩
    · rcases List.mem_cons.mp hp with rfl | hp
      · exact ⟨#[], [], 0, hxo, hdo, .nil⟩
      · exact (F2.ats p hp).mono (Le.refl _) fun b _ ob z => keep b ob z
  refine k2 _ _ (A.under _) (less mv h2) im2 _ _ _ (hA.under _ _) F3 (.cons (.raw _) r2) fun v d own' im3 h3 tk3 ex3 F4 r3 k3 => ?_
  obtain ⟨rfl, k3⟩ := k3
  cases r3
  obtain ⟨X3, ex4⟩ := X2.unlend (h' := h3) ex3.at F4
  exact ⟨rfl, hQ _ _ _ im3 h3 tk3 ((ex1.trans ex2).trans ex4) X3 (.raw _) k3⟩
/-- an object of the frame's own is kept from now on -/
theorem Hd.freezeObj {vars vars' : List (Str × D)} {pre post : Own} {a dx : Addr} {fs : List (Str × D)} (X : Hd c fx ⟨vars, pre ++ (a, .obj dx fs) :: post⟩ kp im h) (hv : ∀ x d', vars'.lookup x = some d' → ∃ d, vars.lookup x = some d ∧ (d' = d ∨ (d = .raw (.ref a) ∧ d' = .obj fs))) :
    ∃ im', Hd c fx ⟨vars', pre ++ post⟩ kp im' h ∧ Ext kp im h im' h := by
  have hm : (a, AO.obj dx fs) ∈ (⟨vars, pre ++ (a, .obj dx fs) :: post⟩ : St).own := by simp
  obtain ⟨sl, es, m, e, ed, r⟩ := X.own _ hm
  have ham : ∀ b, b = a ∨ b = dx → b ∈ muts fx ⟨vars, pre ++ (a, .obj dx fs) :: post⟩ := fun b hb => .tail _ (List.mem_append_right _ (List.mem_flatMap.mpr ⟨_, hm, by rcases hb with rfl | rfl <;> simp [AO.addrs]⟩))
  obtain ⟨ka, ia, _⟩ := X.off a (ham a (.inl rfl))
  obtain ⟨kd, id', _⟩ := X.off dx (ham dx (.inr rfl))
  have nd := X.nodup
  have nd3 : (fx.env.locals :: (fx.wr ++ (List.flatMap (fun p => p.2.addrs p.1) pre ++ (a :: dx :: List.flatMap (fun p => p.2.addrs p.1) post)))).Nodup := by
    simp only [Own.addrs, List.flatMap_append, List.flatMap_cons, AO.addrs] at nd
    exact nd
  simp only [List.nodup_cons, List.nodup_append, List.mem_append, List.mem_cons, not_or] at nd3
  have hne : dx ≠ a := fun q => nd3.2.2.1.2.1.1.1 q.symm
  have le1 : Le im (im.put dx (dco es m)) := Le.put id'
  have le2 : Le (im.put dx (dco es m)) ((im.put dx (dco es m)).put a (ino CF dx sl)) := Le.put (by rw [Im.put_ne _ _ hne.symm]; exact ia)
  have le := le1.trans le2
  have ra : Rep ((im.put dx (dco es m)).put a (ino CF dx sl)) (.ref a) (.obj fs) := .obj (Im.put_self _ _ _) (le2 _ _ (Im.put_self _ _ _)) (r.mono le)
  have at' : ∀ b o, ((im.put dx (dco es m)).put a (ino CF dx sl)) b = some o → (b = a ∧ o = ino CF dx sl) ∨ (b = dx ∧ o = dco es m) ∨ im b = some o := fun b o z => by
    unfold Im.put at z
    split at z
    · rename_i q; cases z; exact .inl ⟨q, rfl⟩
    · split at z
      · rename_i q; cases z; exact .inr (.inl ⟨q, rfl⟩)
      · exact .inr (.inr z)
  have hsub : ∀ b, b ∈ Own.addrs (pre ++ post) → b ∈ Own.addrs (pre ++ (a, AO.obj dx fs) :: post) := fun b hb => by
    simp only [Own.addrs, List.flatMap_append, List.flatMap_cons, List.mem_append] at hb ⊢
    exact hb.imp id .inr
  refine ⟨(im.put dx (dco es m)).put a (ino CF dx sl), ⟨X.kind, X.cap, X.cel, X.glob, X.blt, ⟨X.hg.gd, fun b o z => le _ _ (X.hg.imK b o z), fun b o z => ?_⟩, X.gk, X.kin, ?_, ?_, fun b hb => ?_, fun p hp => ?_, X.wrc⟩, le, fun b o z => ?_⟩
  · rcases at' b o z with ⟨rfl, rfl⟩ | ⟨rfl, rfl⟩ | z
    · exact e
    · exact ed
    · exact X.hg.iin _ _ z
  · obtain ⟨mm, hn, hvs⟩ := X.ns
    refine ⟨mm, hn, fun y d' hy => ?_⟩
    obtain ⟨d, hd, z⟩ := hv y d' hy
    have rr : ∀ v, Rep im v d → Rep ((im.put dx (dco es m)).put a (ino CF dx sl)) v d' := fun v k => by
      rcases z with rfl | ⟨rfl, rfl⟩
      · exact k.mono le
      · cases k; exact ra
    rcases hvs y d hd with ⟨k1, v, k2, k3⟩ | ⟨k1, b, v, k2, k3, k4⟩
    · exact .inl ⟨k1, v, k2, rr v k3⟩
    · exact .inr ⟨k1, b, v, k2, k3, rr v k4⟩
  · have sl : (Own.addrs (pre ++ post)).Sublist (Own.addrs (pre ++ (a, AO.obj dx fs) :: post)) := by
      simp only [Own.addrs, List.flatMap_append, List.flatMap_cons]
      exact (List.Sublist.refl _).append (List.sublist_append_right _ _)
    exact nd.sublist (((List.Sublist.refl fx.wr).append sl).cons_cons _)
  · have hb : b ∈ fx.env.locals :: (fx.wr ++ Own.addrs (pre ++ post)) := hb
    have hb' : b ∈ muts fx ⟨vars, pre ++ (a, .obj dx fs) :: post⟩ := by
      rcases List.mem_cons.mp hb with rfl | hb
      · exact .head _
      · rcases List.mem_append.mp hb with hb | hb
        · exact .tail _ (List.mem_append_left _ hb)
        · exact .tail _ (List.mem_append_right _ (hsub b hb))
    obtain ⟨z1, z2, z3⟩ := X.off b hb'
    refine ⟨z1, ?_, z3⟩
    simp only [Own.addrs, List.flatMap_append, List.mem_cons, List.mem_append] at hb
    have n1 : b ≠ a := by
      rintro rfl
      rcases hb with hb | hb | hb | hb
      · exact nd3.1.2.2.1 hb.symm
      · exact nd3.2.2.2 b hb b (.inr (.inl rfl)) rfl
      · exact nd3.2.2.1.2.2 b hb b (.inl rfl) rfl
      · exact nd3.2.2.1.2.1.1.2 hb
    have n2 : b ≠ dx := by
      rintro rfl
      rcases hb with hb | hb | hb | hb
      · exact nd3.1.2.2.2.1 hb.symm
      · exact nd3.2.2.2 b hb b (.inr (.inr (.inl rfl))) rfl
      · exact nd3.2.2.1.2.2 b hb b (.inr (.inl rfl)) rfl
      · exact nd3.2.2.1.2.1.2.1 hb
    rw [Im.put_ne _ _ n1, Im.put_ne _ _ n2]; exact z2
  · refine (X.own p ?_).mono le fun _ _ _ z => z
    rcases List.mem_append.mp hp with hp | hp
    · exact List.mem_append_left _ hp
    · exact List.mem_append_right _ (.tail _ hp)
  · rcases at' b o z with ⟨rfl, rfl⟩ | ⟨rfl, rfl⟩ | z
    · exact .inr ka
    · exact .inr kd
    · exact .inl z
theorem Wx_freezeObj {ss : List Stmt} {kn : St → Prop} {kr : St → D → Prop} {vars : List (Str × D)} {pre post : Own} {a dx : Addr} {fs : List (Str × D)} (vars' : List (Str × D)) (hv : ∀ x d', vars'.lookup x = some d' → ∃ d, vars.lookup x = some d ∧ (d' = d ∨ (d = .raw (.ref a) ∧ d' = .obj fs)))
    (h : Wx c n fx ⟨vars', pre ++ post⟩ ss kn kr) : Wx c n fx ⟨vars, pre ++ (a, .obj dx fs) :: post⟩ ss kn kr := by
  intro A kp im s Q E hA X q1 q2
  obtain ⟨im', X', ex⟩ := X.freezeObj hv
  exact h A kp im' s Q E hA X' (fun σ2 im2 h2 tk2 ex2 X2 k2 => q1 σ2 im2 h2 tk2 (ex.trans ex2) X2 k2) fun v d σ2 im2 h2 tk2 ex2 X2 r k2 => q2 v d σ2 im2 h2 tk2 (ex.trans ex2) X2 r k2
end
section
variable {c : Cx} {n : Nat} {fx : Fx} {σ : St} {kp im im' : Im} {h h' : Heap}
theorem We_neg {x : Expr} {pos : Pos} {k : D → Prop} (h : We c n fx σ x fun d => ∃ i, d = .int i ∧ k (.int (-i))) : We c n fx σ (.UnaryOp .USub x pos) k := by
  intro A kp im s Q E hA X hQ
  refine wpAny_UnaryOp (h A kp im s _ E hA X fun v d im1 h1 tk1 ex1 X1 r1 k1 => ?_)
  obtain ⟨i, rfl, kk⟩ := k1
  cases r1
  exact PySem.P.neg_int (hQ _ _ im1 h1 _ ex1 X1 (.int _ _) kk)
theorem rep_fold (v : Value) : ∀ (n : Nat) (a : Array Value), List.foldl (fun x1 x2 => x1 ++ x2) a (List.replicate n #[v]) = a ++ (List.replicate n v).toArray
  | 0, a => by simp
  | n + 1, a => by
    rw [List.replicate_succ, List.foldl_cons, rep_fold v n]
    rw [List.replicate_succ]
    apply Array.ext'
    simp
theorem mul_listX {prog : Program} {w : World} {A : Around} {E : Value → Shared → Prop} {s : Shared} {l : Addr} {items : Array Value} {k : Nat} {x : Int} {u : Tok} {Q : Value → Shared → Prop}
    (hl : s.heap.get? l = some { cls := .type "list", dict := none, data := .seq items k, slots := #[] })
    (hlo : -(2 ^ 63 : Int) ≤ x) (hhi : x < 2 ^ 63) (hsz : items.size * x.toNat ≤ 2 ^ 24)
    (h : Q (.ref s.heap.objs.size) { s with heap := s.heap.push { cls := .type "list", data := .seq (List.foldl (fun x1 x2 => x1 ++ x2) #[] (List.replicate (if items.isEmpty = true then 0 else x.toNat) items)) } }) :
    wpAny (model prog w) A (binaryOp .Mult (.ref l) (.int x u)) Q E s :=
  wpAny_binaryOp_repeat_ref (T := "list") (U := "int") (by decide) ⟨_, hl, rfl⟩ (fun s' => typeIs_int s' x u) noFill_list_mul F.fills_int_mul F.slot_int_rmul repeat_list F.slot_int_index.lookup
    (call_meets F.slot_int_rmul (typeIs_int s x u) F.entry_int_rmul (F.args_int_rmul_2 _ _) (int___rmul___int_list x u l items k)
      ⟨hl, rfl, ⟨_, hl, rfl⟩, call_meets F.slot_list_mul ⟨_, hl, rfl⟩ F.entry_list_mul (F.args_list_mul_2 _ _)
        (AutoListH.list___mul___list_int_3 l items k x u (by simp [Builtin.List.listFitsIndex]; omega) (by omega) (by simp [Builtin.List.listTooLong, sizeLine]; omega))
        ⟨hl, h⟩⟩)
/-- [x] * k -/
theorem Wf_rep {l r : Expr} {pos : Pos} {k : List D → Prop} (h : Wf c n fx σ l fun ds => ∃ d, ds = [d] ∧ We c n fx σ r fun d2 => ∃ i : Nat, d2 = .int (i : Nat) ∧ i ≤ 1000 ∧ k (List.replicate i d)) : Wf c n fx σ (.BinOp l .Mult r pos) k := by
  intro A kp im s Q E hA X hQ
  refine wpAny_BinOp (h A kp im s _ E hA X fun a vs m ds im1 h1 tk1 ex1 X1 ho r1 hf k1 => ?_)
  obtain ⟨d, rfl, k1⟩ := k1
  have le1 : Le im1 (im1.put a (lo vs m)) := Le.put hf.1
  have ex1' : Ext kp im s.heap (im1.put a (lo vs m)) h1 := ex1.trans ⟨le1, fun b o e => by
    unfold Im.put at e
    split at e
    · rename_i q; subst q; exact .inr hf.2.1
    · exact .inl e⟩
  refine k1 A kp _ _ _ E hA (X1.put ho hf.1 hf.2.2) fun v2 d2 im2 h2 tk2 ex2 X2 r2 k2 => ?_
  obtain ⟨i, rfl, hi, kk⟩ := k2
  have hl : h2.get? a = some (lo vs m) := X2.hg.iin _ _ (ex2.le _ _ (Im.put_self _ _ _))
  have q := r1.mono (le1.trans ex2.le)
  cases r2 with
  | int _ u =>
    cases q with
    | cons rv q2 =>
      cases q2
      rename_i v
      have fin : Q (.ref h2.objs.size) { s with heap := h2.push { cls := .type "list", data := .seq (List.foldl (fun x1 x2 => x1 ++ x2) #[] (List.replicate (if (#[v] : Array Value).isEmpty = true then 0 else (i : Int).toNat) #[v])) }, toks := tk2 } := by
        rw [show (#[v] : Array Value).isEmpty = false from rfl, if_neg Bool.false_ne_true, Int.toNat_natCast, rep_fold, Array.empty_append]
        exact hQ _ (List.replicate i v) 0 _ im2 _ _ ((ex1'.trans ex2).trans (Ext.push0 _ _)) (X2.push0 _) (Heap.get?_push_size _ rfl) (Reps.replicate rv i) (Fresh.of X2 (size_none _)) kk
      refine mul_listX (items := #[v]) (k := m) hl (by omega) (by omega) ?_ fin
      rw [show (#[v] : Array Value).size = 1 from rfl, Int.toNat_natCast, Nat.one_mul]; omega
end
abbrev two (elt : Expr) (x : Str) (px : Pos) (iter : Expr) (y : Str) (py : Pos) (iter2 : Expr) (scope : Scope) (pos : Pos) : Expr := .ListComp elt [⟨.Name x px, iter, [], 0⟩, ⟨.Name y py, iter2, [], 0⟩] scope pos
theorem compTurn_leaf (elt : Expr) (x : Str) (px : Pos) (iter : Expr) (y : Str) (py : Pos) (iter2 : Expr) (scope : Scope) (pos : Pos) (it acc : Value) (env : Env) :
    compTurn (two elt x px iter y py iter2 scope pos) 1 it acc env = (do
      standAt iter2.pos
      match ← pyNext it with
      | none => pure (.done .next)
      | some v =>
        letOwnedTupleGo (.Name y py) it v
        assign (.Name y py) env v
        let mut ok := true
        for c in ([] : List Expr) do
          if ok then ok ← isTrue c env (eval c env)
        if ok then
          (do let _ ← call (.builtin "list.append") [acc, ← eval elt env])
        again (.compLoop (two elt x px iter y py iter2 scope pos) 1 it acc env)) := by rfl
theorem compTurn_top (elt : Expr) (x : Str) (px : Pos) (iter : Expr) (y : Str) (py : Pos) (iter2 : Expr) (scope : Scope) (pos : Pos) (it acc : Value) (env : Env) :
    compTurn (two elt x px iter y py iter2 scope pos) 0 it acc env = (do
      standAt iter.pos
      match ← pyNext it with
      | none => pure (.done .next)
      | some v =>
        letOwnedTupleGo (.Name x px) it v
        assign (.Name x px) env v
        let mut ok := true
        for c in ([] : List Expr) do
          if ok then ok ← isTrue c env (eval c env)
        if ok then
          let z ← eval iter2 env
          standAt iter2.pos
          let z ← foldedSetIterable iter2 env z
          let _ ← runOwn (.compStart (two elt x px iter y py iter2 scope pos) 1 (← holding [z] (pyIter z)) acc env) env
        again (.compLoop (two elt x px iter y py iter2 scope pos) 0 it acc env)) := by rfl
section
variable {prog : Program} {w : World} {A : Around} {E : Value → Shared → Prop} {R : Result → Shared → Prop} {s : Shared}
variable {elt iter iter2 : Expr} {x y : Str} {px py pos : Pos} {scope : Scope} {it acc : Value} {env : Env}
theorem loop_leaf (I : Nat → Shared → Prop)
    (turn : ∀ n s, I n s → ∀ E : Value → Shared → Prop, wpAny (model prog w) A (pyNext it) (fun r s₁ => match r with
      | none => R (.ok .next) s₁
      | some v => wpAny (model prog w) A (assign (.Name y py) env v) (fun _ s₂ => wpAny (model prog w) A (eval elt env) (fun z s₄ =>
              wpAny (model prog w) A (call (.builtin "list.append") [acc, z]) (fun _ s₅ => ∃ m, m < n ∧ I m s₅) E s₄) E s₂) E s₁) E s)
    (n : Nat) (h : I n s) (ht : ∀ v, letOwnedTupleGo (.Name y py) it v = pure () := by intro _; rfl) :
    codeAny (model prog w) A (.compLoop (two elt x px iter y py iter2 scope pos) 1 it acc env) R s := by
  refine codeAny_loop rfl I (fun n s hI => ?_) n h
  show wpAny _ A ((compTurn (two elt x px iter y py iter2 scope pos) 1 it acc env).onRaise (fun x => do noteFrame x env; theTreesLotGoes x)) _ _ s
  refine wpAny_noted ?_
  rw [compTurn_leaf]
  refine wpAny_bind (wpAny_standAt (wpAny_bind (wpAny_mono (turn n s hI _) (fun r s₁ h₁ => ?_) fun _ _ h' => h')))
  cases r with
  | none => exact wpAny_pure h₁
  | some v =>
    refine wpAny_bind (wpAny_of_eq (ht v) ?_)
    refine wpAny_bind (wpAny_mono h₁ (fun _ s₂ h₂ => wpAny_bind (wpAny_mono (wpAny_tests_nil (Q := fun ok s => ok = true ∧ s = s₂) ⟨rfl, rfl⟩) (fun ok s₃ h₃ => ?_) fun _ _ h' => h')) fun _ _ h' => h')
    obtain ⟨rfl, rfl⟩ := h₃
    exact wpAny_bind (wpAny_bind (wpAny_mono h₂ (fun x s₄ h₄ => wpAny_bind (wpAny_mono h₄ (fun _ s₅ h₅ => wpAny_pure (wpAny_pure ⟨rfl, h₅⟩)) fun _ _ h' => h')) fun _ _ h' => h'))
theorem start_leaf (h0 : codeAny (model prog w) A (.compLoop (two elt x px iter y py iter2 scope pos) 1 it acc env) R s)
    (h : ∀ E : Value → Shared → Prop, wpAny (model prog w) A (pyIter it) (fun it' s' => codeAny (model prog w) A (.compLoop (two elt x px iter y py iter2 scope pos) 1 it' acc env) R s') E s) :
    codeAny (model prog w) A (.compStart (two elt x px iter y py iter2 scope pos) 1 it acc env) R s := by
  refine codeAny_of_tree ?_
  show wpAny _ _ ((compStart (two elt x px iter y py iter2 scope pos) 1 it acc env).onRaise (fun x => do noteFrame x env; standAt theWindowsPlace)) _ _ s
  refine wpAny_notedAt ?_
  unfold compStart
  show wpAny _ _ (ask >>= _) _ _ s
  refine wpAny_bind (wpAny_askSetting (wpAny_ite ?_))
  split
  · first
      | exact wpAny_bind (wpAny_pure (wpAny_pure (And.intro rfl h0)))
      | exact wpAny_pure (And.intro rfl h0)
  · first
      | exact wpAny_bind (wpAny_rule (wpAny_bind (wpAny_standAt (wpAny_bind (wpAny_mono (h _) (fun it' s' h' => wpAny_pure (And.intro rfl h')) fun _ _ x => x)))))
      | exact wpAny_bind (wpAny_rule (wpAny_standAt (wpAny_bind (wpAny_mono (h _) (fun it' s' h' => wpAny_pure (And.intro rfl h')) fun _ _ x => x))))
theorem loop_top (I : Nat → Shared → Prop)
    (turn : ∀ n s, I n s → ∀ E : Value → Shared → Prop, wpAny (model prog w) A (pyNext it) (fun r s₁ => match r with
      | none => R (.ok .next) s₁
      | some v => wpAny (model prog w) A (assign (.Name x px) env v) (fun _ s₂ => wpAny (model prog w) A (eval iter2 env) (fun z s₃ => wpAny (model prog w) A (pyIter z) (fun it2 s₄ =>
              codeAny (model prog w) A (.compStart (two elt x px iter y py iter2 scope pos) 1 it2 acc env) (fun r s₅ => match r with | .ok _ => ∃ m, m < n ∧ I m s₅ | .error _ => False) s₄) E s₃) E s₂) E s₁) E s)
    (n : Nat) (h : I n s) (hs : ∀ z, foldedSetIterable iter2 env z = pure z) (ht : ∀ v, letOwnedTupleGo (.Name x px) it v = pure () := by intro _; rfl) :
    codeAny (model prog w) A (.compLoop (two elt x px iter y py iter2 scope pos) 0 it acc env) R s := by
  refine codeAny_loop rfl I (fun n s hI => ?_) n h
  show wpAny _ A ((compTurn (two elt x px iter y py iter2 scope pos) 0 it acc env).onRaise (fun x => do noteFrame x env; theTreesLotGoes x)) _ _ s
  refine wpAny_noted ?_
  rw [compTurn_top]
  refine wpAny_bind (wpAny_standAt (wpAny_bind (wpAny_mono (turn n s hI _) (fun r s₁ h₁ => ?_) fun _ _ h' => h')))
  cases r with
  | none => exact wpAny_pure h₁
  | some v =>
    refine wpAny_bind (wpAny_of_eq (ht v) ?_)
    refine wpAny_bind (wpAny_mono h₁ (fun _ s₂ h₂ => wpAny_bind (wpAny_mono (wpAny_tests_nil (Q := fun ok s => ok = true ∧ s = s₂) ⟨rfl, rfl⟩) (fun ok s₃ h₃ => ?_) fun _ _ h' => h')) fun _ _ h' => h')
    obtain ⟨rfl, rfl⟩ := h₃
    refine wpAny_bind (wpAny_mono h₂ (fun z s₄ h₄ => wpAny_bind (wpAny_standAt (wpAny_bind (wpAny_of_eq (hs z) (wpAny_bind (wpAny_holding (wpAny_mono h₄ (fun it2 s₅ h₅ => ?_) fun _ _ h' => h'))))))) fun _ _ h' => h')
    refine wpAny_bind (wpAny_runOwn (codeAny_mono h₅ fun r s₆ h₆ => ?_))
    cases r with
    | ok f => exact wpAny_pure ⟨rfl, h₆⟩
    | error e => exact h₆.elim
end
section
variable {c : Cx} {n : Nat} {fx : Fx} {σ : St} {kp im : Im} {h h' : Heap}
theorem inner_any {FX : Fx} {A : Around} {s : Shared} {kc im : Im} {vars : List (Str × D)} {I Da : Addr} {fp : List Addr} {xs : List D} {P : Nat → Value → Prop} {S : Nat → Heap → Prop} {elt iter iter2 : Expr} {x y : Str} {px py pos : Pos} {scope : Scope} {vs₀ : List Value} {m₀ : Nat} {ds₀ : List D} {g : Nat → D} {R : Result → Shared → Prop}
    (hA : AOk n A) (X : Hd c FX ⟨vars, []⟩ kc im s.heap) (T : Iter c.prog c.w A im I fp xs P S) (S0 : S 0 s.heap) (kcI : kc I = none) (hII : im I = none) (hIm : I ∉ muts FX ⟨vars, []⟩) (kcD : kc Da = none) (hDD : im Da = none) (hDm : Da ∉ muts FX ⟨vars, []⟩) (hID : I ≠ Da)
    (hl : s.heap.get? Da = some (lo vs₀ m₀)) (hr₀ : Reps im vs₀ ds₀) (hz₀ : ds₀.length ≤ 1000000) (hzx : xs.length ≤ 1000) (hy : Storable FX y) (hyn : vars.lookup y = none)
    (turn : ∀ i d, xs[i]? = some d → We c n FX ⟨(y, d) :: vars, []⟩ elt fun d => d = g i)
    (hR : ∀ im' h' tk' vs' m', Hd c FX ⟨vars, []⟩ kc im' h' → Ext kc im s.heap im' h' → im' Da = none → h'.get? Da = some (lo vs' m') → Reps im' vs' (ds₀ ++ (List.range xs.length).map g) → R (.ok .next) { s with heap := h', toks := tk' }) :
    codeAny c.M A (.compLoop (two elt x px iter y py iter2 scope pos) 1 (.ref I) (.ref Da) FX.env) R s := by
  refine loop_leaf (fun m s' => ∃ i im' h' tk', s' = { s with heap := h', toks := tk' } ∧ m = xs.length + 1 - i ∧ i ≤ xs.length ∧ S i h' ∧ Hd c FX ⟨vars, []⟩ kc im' h' ∧ Ext kc im s.heap im' h' ∧ im' I = none ∧ im' Da = none ∧ ∃ vs m, h'.get? Da = some (lo vs m) ∧ Reps im' vs (ds₀ ++ (List.range i).map g)) ?_ (xs.length + 1)
    ⟨0, im, s.heap, s.toks, rfl, rfl, Nat.zero_le _, S0, X, Ext.refl _ _ _, hII, hDD, vs₀, m₀, hl, by simpa using hr₀⟩
  rintro m s' ⟨i, im', h', tk', rfl, rfl, hi, hS, X', ex1, mI, mD, vs, m0, hDl, hr⟩ E'
  by_cases hlt : i < xs.length
  · refine T.W.item i _ _ _ hlt hS fun v h2 tk2 hP S2 hk2 => ?_
    have hk2' : ∀ b o, b ≠ I → h'.get? b = some o → h2.get? b = some o := fun b ob hb e => hk2 b ob (by simpa using hb) e
    have X2 : Hd c FX ⟨vars, []⟩ kc im' h2 := X'.other ⟨kcI, mI, hIm⟩ hk2'
    obtain ⟨dv, hd, rv⟩ := T.item i v hlt hP
    obtain ⟨oI, hoI⟩ := T.live _ _ S2
    have hoD : h2.get? Da = some (lo vs m0) := hk2' _ _ hID.symm hDl
    have XI := X2.guard hoI hIm kcI
    have kcD' : (Im.put kc I oI) Da = none := by rw [Im.put_ne _ _ hID.symm]; exact kcD
    have XG := XI.guard hoD hDm kcD'
    have leI : Le kc (Im.put kc I oI) := Le.put kcI
    have leG : Le (Im.put kc I oI) (Im.put (Im.put kc I oI) Da (lo vs m0)) := Le.put kcD'
    have leA := leI.trans leG
    have kI : (Im.put (Im.put kc I oI) Da (lo vs m0)) I = some oI := by rw [Im.put_ne _ _ hID]; exact Im.put_self _ _ _
    have kD : (Im.put (Im.put kc I oI) Da (lo vs m0)) Da = some (lo vs m0) := Im.put_self _ _ _
    have hyn' : ∀ z d, vars.lookup z = some d → (z == y) = false := fun z d hz => by
      cases q : z == y with
      | false => rfl
      | true => rw [beq_iff_eq.mp q, hyn] at hz; cases hz
    refine wpAny_assign_Name (store_any XG (rv.mono ex1.le) hy fun h3 tk3 X3 => ?_)
    refine turn i dv hd A _ im' _ _ _ hA X3 fun v4 d4 im4 h4 tk4 ex4 X4 r4 k4 => ?_
    subst k4
    have X5 : Hd c FX ⟨vars, []⟩ kc im4 h4 := (X4.weaken (vars := vars) fun z d hz => by
      show List.lookup z ((y, dv) :: vars) = some d
      rw [List.lookup_cons, hyn' z d hz]; exact hz).unguard leA X.gk X.cel
    have mI4 : im4 I = none := by
      cases q : im4 I with
      | none => rfl
      | some ob => rcases ex4.new I ob q with z | z
                   · rw [mI] at z; cases z
                   · rw [kI] at z; cases z
    have mD4 : im4 Da = none := by
      cases q : im4 Da with
      | none => rfl
      | some ob => rcases ex4.new Da ob q with z | z
                   · rw [mD] at z; cases z
                   · rw [kD] at z; cases z
    have S5 : S (i + 1) h4 := T.W.frame _ _ _ S2 (foot_keep T.foot (fun a ob e => X2.hg.iin _ _ (ex1.le _ _ e)) (fun a ob e => X4.hg.iin _ _ (ex4.le _ _ (ex1.le _ _ e))) hoI (X4.kin I oI kI))
    have hD5 : h4.get? Da = some (lo vs m0) := X4.kin Da _ kD
    have hlen : vs.length = ds₀.length + i := by have := hr.length; simpa using this
    refine append_at (n := m0) (its := vs.toArray) hD5 (fun h6 hs6 hD6 => ?_) (by rw [List.size_toArray, hlen]; exact Nat.le_trans (show ds₀.length + i ≤ 1001000 by omega) (by decide))
    have X6 : Hd c FX ⟨vars, []⟩ kc im4 h6 := X5.other ⟨kcD, mD4, hDm⟩ fun b o hb e => (hs6.2 b hb).trans e
    refine ⟨xs.length + 1 - (i + 1), by omega, i + 1, im4, h6, tk4, rfl, rfl, hlt, ?_, X6, ex1.trans (ex4.weak leA).at, mI4, mD4, vs ++ [v4], m0 + 1, by simpa using hD6, ?_⟩
    · refine T.W.frame _ _ _ S5 fun b hb o e => (hs6.2 b fun w => ?_).trans e
      subst w
      rcases T.foot _ hb with w | ⟨o', w⟩
      · exact hID w.symm
      · rw [hDD] at w; cases w
    · rw [List.range_succ, List.map_append, ← List.append_assoc]
      exact (hr.mono ex4.le).append (.one r4)
  · have hi' : i = xs.length := by omega
    subst hi'
    refine T.W.done _ _ _ hS fun h2 tk2 hk2 => ?_
    have hk2' : ∀ b o, b ≠ I → h'.get? b = some o → h2.get? b = some o := fun b ob hb e => hk2 b ob (by simpa using hb) e
    have X2 : Hd c FX ⟨vars, []⟩ kc im' h2 := X'.other ⟨kcI, mI, hIm⟩ hk2'
    exact hR im' h2 tk2 vs m0 X2 ex1.at mD (hk2' _ _ hID.symm hDl) hr
theorem comp2_core {A : Around} {s₂ : Shared} {I : Addr} {fp : List Addr} {xs : List D} {P : Nat → Value → Prop} {S : Nat → Heap → Prop} {elt iter iter2 : Expr} {x y : Str} {px py pos : Pos} {scope : Scope} {vars : List (Str × D)} {out : Nat → List D}
    {RR : Value → Addr → Result → Shared → Prop} {E : Value → Shared → Prop}
    (hA : AOk n A) (X : Hd c fx σ kp im s₂.heap) (T : Iter c.prog c.w A im I fp xs P S) (S0 : S 0 s₂.heap) (hI : Fresh fx σ kp im I) (hIg : I < s₂.heap.objs.size)
    (hsc : scC fx scope = true) (hv : SubC fx scope (fun x => σ.vars.lookup x) vars) (hx : ∀ C, Storable (fxC scope C fx) x) (hy : ∀ C, Storable (fxC scope C fx) y) (hxn : vars.lookup x = none) (hyn : vars.lookup y = none) (hxy : (y == x) = false) (hs2 : ∀ C z, foldedSetIterable iter2 (fxC scope C fx).env z = pure z) (h0 : out 0 = []) (hz : ∀ i, i ≤ xs.length → (out i).length ≤ 1000000)
    (turn : ∀ C i d, xs[i]? = some d → We c n (fxC scope C fx) ⟨(x, d) :: vars, []⟩ iter2 fun d2 => ∃ xs2 g, itemsOf d2 xs2 ∧ xs2.length ≤ 1000 ∧ (∀ j d', xs2[j]? = some d' → We c n (fxC scope C fx) ⟨(y, d') :: (x, d) :: vars, []⟩ elt fun o => o = g j) ∧ out (i + 1) = out i ++ (List.range xs2.length).map g)
    (hRR : ∀ D C im' h' tk', CompEnd c s₂.heap I im (out xs.length) D C im' h' → RR (.ref D) C (.ok .next) { s₂ with heap := h', toks := tk' }) :
    wpAny c.M A (newList []) (fun acc s₃ => wpAny c.M A (newFunctionEnv scope fx.env.globals (clo fx.env scope.names []) [] fx.env.qual none .none (some fx.env)) (fun cenv s₄ =>
      codeAny c.M A (.compStart (two elt x px iter y py iter2 scope pos) 0 (.ref I) acc { cenv with scope := relabel scope fx.env }) (RR acc cenv.locals) s₄) E s₃) E s₂ := by
  refine wpAny_newObj_type (newCompEnv ?_)
  have hgI : ∀ a o, c.G.get? a = some o → a ≠ I := fun a o e w => by have := X.gk a o e; rw [w, hI.2.1] at this; cases this
  have ent := enter_comp (scope := scope) (vars := vars) X hsc hv hI.1 hI.2.2 hI.2.1 hIg (lo [] 0) hgI
  dsimp only at ent
  obtain ⟨XC, keep, hD, hDm, hIm⟩ := ent
  have hD := hD rfl
  have e1 : (s₂.heap.push (lo [] 0)).objs.size = s₂.heap.objs.size + 1 := Heap.size_push ..
  rw [show ({ s₂ with heap := s₂.heap.push { cls := .type "list", dict := none, data := .seq ([] : List Value).toArray } } : Shared).heap.objs.size = s₂.heap.objs.size + 1 from e1]
  show codeAny c.M A (.compStart (two elt x px iter y py iter2 scope pos) 0 (.ref I) (.ref s₂.heap.objs.size) (fxC scope (s₂.heap.objs.size + 1) fx).env) (RR (.ref s₂.heap.objs.size) (s₂.heap.objs.size + 1))
    { s₂ with heap := pushCells ((s₂.heap.push (lo [] 0)).push { cls := .type "dict", data := .dict #[] }) scope.names }
  generalize hH : pushCells ((s₂.heap.push (lo [] 0)).push { cls := .type "dict", data := .dict #[] }) scope.names = H1 at XC keep hD ⊢
  generalize hDa : s₂.heap.objs.size = Da at XC keep hD hDm hIm ⊢
  generalize hkc : (fun a => if a = I then none else s₂.heap.get? a : Im) = kc at XC ⊢
  have gD : s₂.heap.get? Da = none := hDa ▸ size_none _
  have gC : s₂.heap.get? (Da + 1) = none := by
    cases q : s₂.heap.get? (Da + 1) with
    | none => rfl
    | some o => have := Heap.lt_size q; rw [hDa] at this; exact absurd this (Nat.not_lt.mpr (Nat.le_succ _))
  have kcI : kc I = none := by rw [← hkc]; simp
  have kcD : kc Da = none := by rw [← hkc]; simp [gD]
  have imD0 : im Da = none := by
    cases q : im Da with
    | none => rfl
    | some o => rw [X.hg.iin _ _ q] at gD; cases gD
  have hID : I ≠ Da := by rw [← hDa]; exact Nat.ne_of_lt hIg
  have S1 : S 0 H1 := T.W.frame _ _ _ S0 fun b _ o e => keep b o e
  have loop : codeAny c.M A (.compLoop (two elt x px iter y py iter2 scope pos) 0 (.ref I) (.ref Da) (fxC scope (Da + 1) fx).env) (RR (.ref Da) (Da + 1)) { s₂ with heap := H1 } := by
    refine loop_top (fun m s' => ∃ i im' h' tk', s' = { s₂ with heap := h', toks := tk' } ∧ m = xs.length + 1 - i ∧ i ≤ xs.length ∧ S i h' ∧ Hd c (fxC scope (Da + 1) fx) ⟨vars, []⟩ kc im' h' ∧ Le im im' ∧
      (∀ a o, im' a = some o → im a = some o ∨ s₂.heap.get? a = none) ∧ im' I = none ∧ im' Da = none ∧ ∃ vs m, h'.get? Da = some (lo vs m) ∧ Reps im' vs (out i)) ?_ (xs.length + 1)
      ⟨0, im, H1, _, rfl, rfl, Nat.zero_le _, S1, XC, Le.refl _, fun _ _ e => .inl e, hI.1, imD0, [], 0, hD, by rw [h0]; exact .nil⟩ (hs2 _)
    rintro m s' ⟨i, im', h', tk', rfl, rfl, hi, hS, X', le1, new1, mI, mD, vs, m0, hDl, hr⟩ E'
    by_cases hlt : i < xs.length
    · refine T.W.item i _ _ _ hlt hS fun v h2 tk2 hP S2 hk2 => ?_
      have hk2' : ∀ b o, b ≠ I → h'.get? b = some o → h2.get? b = some o := fun b ob hb e => hk2 b ob (by simpa using hb) e
      have X2 : Hd c (fxC scope (Da + 1) fx) ⟨vars, []⟩ kc im' h2 := X'.other ⟨kcI, mI, hIm⟩ hk2'
      obtain ⟨dv, hd, rv⟩ := T.item i v hlt hP
      obtain ⟨oI, hoI⟩ := T.live _ _ S2
      have hoD : h2.get? Da = some (lo vs m0) := hk2' _ _ hID.symm hDl
      have XI := X2.guard hoI hIm kcI
      have kcD' : (Im.put kc I oI) Da = none := by rw [Im.put_ne _ _ hID.symm]; exact kcD
      have XG := XI.guard hoD hDm kcD'
      have leI : Le kc (Im.put kc I oI) := Le.put kcI
      have leG : Le (Im.put kc I oI) (Im.put (Im.put kc I oI) Da (lo vs m0)) := Le.put kcD'
      have kI0 : (Im.put kc I oI) I = some oI := Im.put_self _ _ _
      have kI : (Im.put (Im.put kc I oI) Da (lo vs m0)) I = some oI := by rw [Im.put_ne _ _ hID]; exact kI0
      have kD : (Im.put (Im.put kc I oI) Da (lo vs m0)) Da = some (lo vs m0) := Im.put_self _ _ _
      have hxn' : ∀ z d, vars.lookup z = some d → (z == x) = false := fun z d hz => by
        cases q : z == x with
        | false => rfl
        | true => rw [beq_iff_eq.mp q, hxn] at hz; cases hz
      refine wpAny_assign_Name (store_any XG (rv.mono le1) (hx _) fun h3 tk3 X3 => ?_)
      refine turn (Da + 1) i dv hd A _ im' _ _ _ hA X3 fun v4 d4 im4 h4 tk4 ex4 X4 r4 k4 => ?_
      obtain ⟨xs2, g, hit2, hz2, turn2, hout⟩ := k4
      have mD4 : im4 Da = none := by
        cases q : im4 Da with
        | none => rfl
        | some ob => rcases ex4.new Da ob q with z | z
                     · rw [mD] at z; cases z
                     · rw [kD] at z; cases z
      have X4' : Hd c (fxC scope (Da + 1) fx) ⟨(x, dv) :: vars, []⟩ (Im.put kc I oI) im4 h4 := X4.unguard leG XI.gk XI.cel
      have hD4 : h4.get? Da = some (lo vs m0) := X4.kin Da _ kD
      refine iter_any hA X4' r4 hit2 fun I2 fp2 P2 S2' o2 T2 hI2 S20 => ?_
      have fr2 : Fresh (fxC scope (Da + 1) fx) ⟨(x, dv) :: vars, []⟩ (Im.put kc I oI) im4 I2 := Fresh.of X4' (hI2 ▸ size_none _)
      have hne2 : I2 ≠ Da := fun w => by
        have := Heap.lt_size hD4
        rw [← w, hI2] at this
        exact absurd this (Nat.lt_irrefl _)
      have X5 := X4'.push0 o2
      have hl5 : (h4.push o2).get? Da = some (lo vs m0) := Heap.get?_push_of_some _ hD4
      have inner : codeAny c.M A (.compLoop (two elt x px iter y py iter2 scope pos) 1 (.ref I2) (.ref Da) (fxC scope (Da + 1) fx).env) (fun r s₅ => match r with
          | .ok _ => ∃ m', m' < xs.length + 1 - i ∧ ∃ i2 im' h' tk', s₅ = { s₂ with heap := h', toks := tk' } ∧ m' = xs.length + 1 - i2 ∧ i2 ≤ xs.length ∧ S i2 h' ∧ Hd c (fxC scope (Da + 1) fx) ⟨vars, []⟩ kc im' h' ∧ Le im im' ∧
            (∀ a o, im' a = some o → im a = some o ∨ s₂.heap.get? a = none) ∧ im' I = none ∧ im' Da = none ∧ ∃ vs m, h'.get? Da = some (lo vs m) ∧ Reps im' vs (out i2)
          | .error _ => False) { s₂ with heap := h4.push o2, toks := tk4 } := by
        refine inner_any hA X5 T2 S20 fr2.2.1 fr2.1 fr2.2.2 kcD' mD4 hDm hne2 hl5 (hr.mono ex4.le) (hz i hi) hz2 (hy _) ?_ turn2 fun im6 h6 tk6 vs6 m6 X6 ex6 mD6 hD6 hr6 => ?_
        · rw [List.lookup_cons, hxy]; exact hyn
        · have X7 : Hd c (fxC scope (Da + 1) fx) ⟨vars, []⟩ kc im6 h6 := (X6.weaken (vars := vars) fun z d hz => by
            show List.lookup z ((x, dv) :: vars) = some d
            rw [List.lookup_cons, hxn' z d hz]; exact hz).unguard leI XC.gk XC.cel
          have newA : ∀ a o, im6 a = some o → im' a = some o ∨ (Im.put kc I oI) a = none := fun a o e => by
            rcases ex6.new a o e with z | z
            · rcases ex4.new a o z with w | w
              · exact .inl w
              · refine .inr ?_
                cases q : (Im.put kc I oI) a with
                | none => rfl
                | some ob => rw [leG a ob q] at w; cases w
            · exact .inr z
          refine ⟨xs.length + 1 - (i + 1), by omega, i + 1, im6, h6, tk6, rfl, rfl, hlt, ?_, X7, le1.trans (ex4.le.trans ex6.le), fun a o e => ?_, ?_, mD6, vs6, m6, hD6, by rw [hout]; exact hr6⟩
          · exact T.W.frame _ _ _ S2 (foot_keep T.foot (fun a ob e => X2.hg.iin _ _ (le1 _ _ e)) (fun a ob e => X6.hg.iin _ _ (ex6.le _ _ (ex4.le _ _ (le1 _ _ e)))) hoI (X6.kin I oI kI0))
          · rcases newA a o e with z | z
            · exact new1 a o z
            · refine .inr ?_
              by_cases w1 : a = I
              · subst w1; rw [kI0] at z; cases z
              · rw [Im.put_ne _ _ w1] at z
                rw [← hkc] at z
                simpa [w1] using z
          · cases q : im6 I with
            | none => rfl
            | some ob => rcases newA I ob q with z | z
                         · rw [mI] at z; cases z
                         · rw [kI0] at z; cases z
      exact start_leaf inner fun E'' => T2.W.self 0 _ _ _ S20 inner
    · have hi' : i = xs.length := by omega
      subst hi'
      refine T.W.done _ _ _ hS fun h2 tk2 hk2 => ?_
      have hk2' : ∀ b o, b ≠ I → h'.get? b = some o → h2.get? b = some o := fun b ob hb e => hk2 b ob (by simpa using hb) e
      have X2 : Hd c (fxC scope (Da + 1) fx) ⟨vars, []⟩ kc im' h2 := X'.other ⟨kcI, mI, hIm⟩ hk2'
      refine hRR Da (Da + 1) im' h2 tk2 ⟨le1, new1, mI, fun a o hne e => ?_, X2.hg.iin, ⟨vs, m0, hk2' _ _ hID.symm hDl, hr⟩, mD, gD, gC, ?_, Nat.ne_of_lt (Nat.lt_succ_self _), ?_⟩
      · refine X2.kin a o ?_
        rw [← hkc]; simp [hne, e]
      · exact (X2.off (Da + 1) (.head _)).2.1
      · obtain ⟨m, hm, _⟩ := X2.ns; exact ⟨m, hm⟩
  exact codeAny_compStart_list loop (T.W.self 0 _ _ _ S1 loop)
/-- a comprehension over two sources, the second told by the first -/
theorem Wf_comp2 {elt iter iter2 : Expr} {x y : Str} {px py pos : Pos} {scope : Scope} {k : List D → Prop} (xs : List D) (vars : List (Str × D)) (out : Nat → List D) (hsc : scC fx scope = true) (hx : ∀ C, Storable (fxC scope C fx) x) (hy : ∀ C, Storable (fxC scope C fx) y)
    (hv : SubC fx scope (fun x => σ.vars.lookup x) vars) (hxn : vars.lookup x = none) (hyn : vars.lookup y = none) (hxy : (y == x) = false) (h0 : out 0 = []) (hz : ∀ i, i ≤ xs.length → (out i).length ≤ 1000000)
    (h : We c n fx σ iter fun d => itemsOf d xs)
    (turn : ∀ C i d, xs[i]? = some d → We c n (fxC scope C fx) ⟨(x, d) :: vars, []⟩ iter2 fun d2 => ∃ xs2 g, itemsOf d2 xs2 ∧ xs2.length ≤ 1000 ∧ (∀ j d', xs2[j]? = some d' → We c n (fxC scope C fx) ⟨(y, d') :: (x, d) :: vars, []⟩ elt fun o => o = g j) ∧ out (i + 1) = out i ++ (List.range xs2.length).map g)
    (hk : k (out xs.length)) (hs : ∀ x, foldedSetIterable iter fx.env x = pure x := by intro _; rfl) (hs2 : ∀ C z, foldedSetIterable iter2 (fxC scope C fx).env z = pure z := by intro _ _; rfl) : Wf c n fx σ (two elt x px iter y py iter2 scope pos) k := by
  intro A kp im s Q E hA X hQ
  obtain ⟨hkk, hnames, hnd, hfree⟩ := scC_of hsc
  rw [eval_ListComp]
  refine wpAny_comprehension_free (use := none) rfl hs (closureFor_clo hfree) hkk hnames (h A kp im s _ E hA X fun v d im1 h1 tk1 ex1 X1 r1 hit => ?_)
  refine iter_any hA X1 r1 hit fun I fp P S o T hI S0 => ?_
  have fr : Fresh fx σ kp im1 I := Fresh.of X1 (hI ▸ size_none _)
  have X2 : Hd c fx σ kp im1 (h1.push o) := X1.push0 o
  refine comp2_core (RR := fun acc C => compPost c.M A E none Q acc C) hA X2 T S0 fr (by rw [hI, Heap.size_push]; exact Nat.lt_succ_self _) hsc hv hx hy hxn hyn hxy hs2 h0 hz turn fun D C im' h' tk' Z => ?_
  obtain ⟨m, hm⟩ := Z.ns
  refine ⟨m, hm, fun h'' hs'' => ?_⟩
  obtain ⟨X3, F3, ex3, vs, m3, e3, r3⟩ := Z.hd X2 fr hs''
  exact hQ D vs m3 _ im' h'' tk' (ex1.trans (ex3 h'').at) X3 e3 r3 F3 hk
end
abbrev KC (c : Cx) : Prop := c.K = Mine.heap1 c.w.params
abbrev ratD (q : Rat) : D := .tup [.int q.num, .int q.den]
/-- the text's functions by their names -/
def fns : List (Str × Addr) := [("gcd", 54), ("make", 61), ("is_na", 68), ("is_finite", 75), ("marked", 82), ("neg", 89), ("add", 96), ("sub", 103), ("mul", 110), ("div", 117), ("weighted", 145), ("dot", 152), ("less_multiple", 157), ("check_finite", 164),
  ("check_weights", 171), ("orthogonal", 178), ("back_coefficients", 185), ("used_rows", 190), ("fit", 196), ("rss", 203), ("step_square", 210), ("anova_rows", 217), ("inverse_shares", 224), ("unscaled_covariance", 231),
  ("_law_pull", 238), ("_law_entry", 245), ("_law_told", 252), ("_law_sums", 257)]
theorem fns_ok (P : Params) : ∀ p ∈ fns, nsIn (Mine.heap1 P) mainGlobals p.1 = some (some (.ref p.2)) ∧ keepIn (Mine.heap1 P) (.ref p.2) = true := by
  intro p hp
  simp only [fns, List.mem_cons, List.not_mem_nil, or_false] at hp
  rcases hp with rfl | rfl | rfl | rfl | rfl | rfl | rfl | rfl | rfl | rfl | rfl | rfl | rfl | rfl | rfl | rfl | rfl | rfl | rfl | rfl | rfl | rfl | rfl | rfl | rfl | rfl | rfl | rfl <;> exact ⟨by kernel_rfl, by kernel_rfl⟩
def blts : List (Str × Value) := [("len", .builtin "len"), ("abs", .builtin "abs"), ("max", .builtin "max"), ("range", .type "range"), ("list", .type "list")]
theorem blts_ok (P : Params) : ∀ p ∈ blts, nsIn (Mine.heap1 P) mainGlobals p.1 = some none ∧ bootBuiltins p.1 = some p.2 ∧ p.1 ≠ "__name__" := by
  intro p hp
  simp only [blts, List.mem_cons, List.not_mem_nil, or_false] at hp
  rcases hp with rfl | rfl | rfl | rfl | rfl <;> exact ⟨by kernel_rfl, by kernel_rfl, by decide⟩
def consts : List (Str × Addr × Int × Int) := [("NAN", 47, 0, 0), ("ZERO", 118, 0, 1), ("ONE", 119, 1, 1)]
theorem consts_ok (P : Params) : ∀ p ∈ consts, nsIn (Mine.heap1 P) mainGlobals p.1 = some (some (.ref p.2.1)) ∧ ∃ t u, (Mine.heap1 P).lookup p.2.1 = some (tu [.int p.2.2.1 t, .int p.2.2.2 u] 0) := by
  intro p hp
  simp only [consts, List.mem_cons, List.not_mem_nil, or_false] at hp
  rcases hp with rfl | rfl | rfl
  · exact ⟨by kernel_rfl, 236, 237, by kernel_rfl⟩
  · exact ⟨by kernel_rfl, 319, 320, by kernel_rfl⟩
  · exact ⟨by kernel_rfl, 322, 323, by kernel_rfl⟩
section
variable {c : Cx} {n : Nat} {fx : Fx} {σ : St}
theorem We_fn (hK : KC c) {x : Str} {p pos : Pos} {e : Expr} {es : List Expr} (f : Addr) {k : D → Prop} (hm : fns.lookup x = some f) (hx : fx.env.kindOf x = some .globalImplicit) (h : Wes c n fx σ pos (e :: es) fun ds => Fc c n f ds k)
    (he : starEach (e :: es) fx.env = (false, eval e fx.env) :: starEach es fx.env := by rfl) (hplain : (backTo pos (starEach es fx.env)).any (·.1) = false := by rfl) (hd : (x == ("__debug__" : Str)) = false := by decide) :
    We c n fx σ (.Call (.Name x p) (e :: es) [] pos) k := by
  obtain ⟨h1, h2⟩ := fns_ok c.w.params _ (mem_of_lookup hm)
  exact We_call hx (by rw [hK]; exact h1) (by rw [hK]; exact h2) h he hplain hd
theorem We_len (hK : KC c) {x : Str} {p pos : Pos} {e : Expr} {k : D → Prop} (hx : fx.env.kindOf x = some .globalImplicit) (h : We c n fx σ e fun d => ∃ ds, lstOf σ d ds ∧ (ds.length : Int) < 2 ^ 63 ∧ k (.int ds.length))
    (hxl : x = Str.ofString "len" := by rfl) (he : starEach [e] fx.env = (false, eval e fx.env) :: starEach [] fx.env := by rfl) : We c n fx σ (.Call (.Name x p) [e] [] pos) k := by
  subst hxl
  obtain ⟨h1, h2, h3⟩ := blts_ok c.w.params ("len", .builtin "len") (by simp [blts])
  refine We_bcall hx (by rw [hK]; exact h1) h2 h3 (Wes_cons (We.mono h fun d hd => Wes_nil ?_) he) he rfl
  obtain ⟨ds, a, b, e⟩ := hd
  exact Bc_len a b e
theorem We_abs (hK : KC c) {x : Str} {p pos : Pos} {e : Expr} {k : D → Prop} (hx : fx.env.kindOf x = some .globalImplicit) (h : We c n fx σ e fun d => ∃ i, d = .int i ∧ k (.int (if i < 0 then -i else i)))
    (hxl : x = Str.ofString "abs" := by rfl) (he : starEach [e] fx.env = (false, eval e fx.env) :: starEach [] fx.env := by rfl) : We c n fx σ (.Call (.Name x p) [e] [] pos) k := by
  subst hxl
  obtain ⟨h1, h2, h3⟩ := blts_ok c.w.params ("abs", .builtin "abs") (by simp [blts])
  refine We_bcall hx (by rw [hK]; exact h1) h2 h3 (Wes_cons (We.mono h fun d hd => Wes_nil ?_) he) he rfl
  obtain ⟨i, rfl, hk⟩ := hd
  exact Bc_abs hk
theorem We_max (hK : KC c) {x : Str} {p pos : Pos} {e e2 : Expr} {k : D → Prop} (hx : fx.env.kindOf x = some .globalImplicit) (h : We c n fx σ e fun d => We c n fx σ e2 fun d2 => ∃ i j, d = .int i ∧ d2 = .int j ∧ k (.int (if j > i then j else i)))
    (hxl : x = Str.ofString "max" := by rfl) (he : starEach [e, e2] fx.env = (false, eval e fx.env) :: starEach [e2] fx.env := by rfl) (he2 : starEach [e2] fx.env = (false, eval e2 fx.env) :: starEach [] fx.env := by rfl) (hp : (backTo pos (starEach [e2] fx.env)).any (·.1) = false := by rfl) : We c n fx σ (.Call (.Name x p) [e, e2] [] pos) k := by
  subst hxl
  obtain ⟨h1, h2, h3⟩ := blts_ok c.w.params ("max", .builtin "max") (by simp [blts])
  refine We_bcall hx (by rw [hK]; exact h1) h2 h3 (Wes_cons (We.mono h fun d hd => Wes_cons (We.mono hd fun d2 hd2 => Wes_nil ?_) he2) he) he hp
  obtain ⟨i, j, rfl, rfl, hk⟩ := hd2
  exact Bc_max hk
theorem We_range1 (hK : KC c) {x : Str} {p pos : Pos} {e : Expr} {k : D → Prop} (hx : fx.env.kindOf x = some .globalImplicit) (h : We c n fx σ e fun d => ∃ b, d = .int b ∧ k (.rng 0 b 1))
    (hxl : x = Str.ofString "range" := by rfl) (he : starEach [e] fx.env = (false, eval e fx.env) :: starEach [] fx.env := by rfl) : We c n fx σ (.Call (.Name x p) [e] [] pos) k := by
  subst hxl
  obtain ⟨h1, h2, h3⟩ := blts_ok c.w.params ("range", .type "range") (by simp [blts])
  refine We_tcall hx (by rw [hK]; exact h1) h2 h3 (Wes_cons (We.mono h fun d hd => Wes_nil ?_) he) he rfl
  obtain ⟨i, rfl, hk⟩ := hd
  exact Bc_range1 hk
theorem We_range2 (hK : KC c) {x : Str} {p pos : Pos} {e e2 : Expr} {k : D → Prop} (hx : fx.env.kindOf x = some .globalImplicit) (h : We c n fx σ e fun d => We c n fx σ e2 fun d2 => ∃ i j, d = .int i ∧ d2 = .int j ∧ k (.rng i j 1))
    (hxl : x = Str.ofString "range" := by rfl) (he : starEach [e, e2] fx.env = (false, eval e fx.env) :: starEach [e2] fx.env := by rfl) (he2 : starEach [e2] fx.env = (false, eval e2 fx.env) :: starEach [] fx.env := by rfl) (hp : (backTo pos (starEach [e2] fx.env)).any (·.1) = false := by rfl) : We c n fx σ (.Call (.Name x p) [e, e2] [] pos) k := by
  subst hxl
  obtain ⟨h1, h2, h3⟩ := blts_ok c.w.params ("range", .type "range") (by simp [blts])
  refine We_tcall hx (by rw [hK]; exact h1) h2 h3 (Wes_cons (We.mono h fun d hd => Wes_cons (We.mono hd fun d2 hd2 => Wes_nil ?_) he2) he) he hp
  obtain ⟨i, j, rfl, rfl, hk⟩ := hd2
  exact Bc_range2 hk
theorem We_range3 (hK : KC c) {x : Str} {p pos : Pos} {e e2 e3 : Expr} {k : D → Prop} (hx : fx.env.kindOf x = some .globalImplicit) (h : We c n fx σ e fun d => We c n fx σ e2 fun d2 => We c n fx σ e3 fun d3 => ∃ i j z, d = .int i ∧ d2 = .int j ∧ d3 = .int z ∧ z ≠ 0 ∧ Builtin.divisionGoesByPylong (j - i) z = false ∧ k (.rng i j z))
    (hxl : x = Str.ofString "range" := by rfl) (he : starEach [e, e2, e3] fx.env = (false, eval e fx.env) :: starEach [e2, e3] fx.env := by rfl) (he2 : starEach [e2, e3] fx.env = (false, eval e2 fx.env) :: starEach [e3] fx.env := by rfl) (he3 : starEach [e3] fx.env = (false, eval e3 fx.env) :: starEach [] fx.env := by rfl) (hp : (backTo pos (starEach [e2, e3] fx.env)).any (·.1) = false := by rfl) : We c n fx σ (.Call (.Name x p) [e, e2, e3] [] pos) k := by
  subst hxl
  obtain ⟨h1, h2, h3⟩ := blts_ok c.w.params ("range", .type "range") (by simp [blts])
  refine We_tcall hx (by rw [hK]; exact h1) h2 h3 (Wes_cons (We.mono h fun d hd => Wes_cons (We.mono hd fun d2 hd2 => Wes_cons (We.mono hd2 fun d3 hd3 => Wes_nil ?_) he3) he2) he) he hp
  obtain ⟨i, j, z, rfl, rfl, rfl, hz, hp, hk⟩ := hd3
  exact Bc_range3 hz hp hk
theorem Wf_listOf (hK : KC c) {x : Str} {p pos : Pos} {e : Expr} {k : List D → Prop} (hx : fx.env.kindOf x = some .globalImplicit) (h : We c n fx σ e fun d => ∃ ds, lstOf σ d ds ∧ ds.length ≤ sizeLine ∧ k ds)
    (hxl : x = Str.ofString "list" := by rfl) (he : starEach [e] fx.env = (false, eval e fx.env) :: starEach [] fx.env := by rfl) : Wf c n fx σ (.Call (.Name x p) [e] [] pos) k := by
  subst hxl
  obtain ⟨h1, h2, h3⟩ := blts_ok c.w.params ("list", .type "list") (by simp [blts])
  exact Wf_copy hx (by rw [hK]; exact h1) h2 h3 h he
theorem We_const (hK : KC c) {x : Str} {pos : Pos} {a : Addr} (i j : Int) {k : D → Prop} (hm : consts.lookup x = some (a, i, j)) (hx : fx.env.kindOf x = some .globalImplicit) (hk : k (.tup [.int i, .int j])) (hd : (x == ("__debug__" : Str)) = false := by decide) : We c n fx σ (.Name x pos) k := by
  obtain ⟨h1, t, u, h2⟩ := consts_ok c.w.params _ (mem_of_lookup hm)
  exact We_glob hx (by rw [hK]; exact h1) (fun im him => .tup (him _ _ (by rw [hK]; exact h2)) (.cons (.int _ _) (.cons (.int _ _) .nil))) hk hd
end
/-! sizes -/
def Sz (k : Nat) (x : Int) : Prop := x.natAbs < 2 ^ k
theorem Sz.mono {k l : Nat} {x : Int} (h : Sz k x) (hl : k ≤ l) : Sz l x := Nat.lt_of_lt_of_le h (Nat.pow_le_pow_right (by decide) hl)
theorem Sz.mul {k l : Nat} {x y : Int} (h1 : Sz k x) (h2 : Sz l y) : Sz (k + l) (x * y) := by
  unfold Sz at *
  rw [Int.natAbs_mul, Nat.pow_add]
  exact Nat.mul_lt_mul'' h1 h2
theorem Sz.add {k : Nat} {x y : Int} (h1 : Sz k x) (h2 : Sz k y) : Sz (k + 1) (x + y) := by
  unfold Sz at *
  rw [Nat.pow_succ]
  omega
theorem Sz.neg {k : Nat} {x : Int} (h : Sz k x) : Sz k (-x) := by unfold Sz at *; rwa [Int.natAbs_neg]
theorem Sz.log {k : Nat} {x : Int} (h : Sz k x) (hk : 0 < k) : x.natAbs.log2 < k := by
  rcases Nat.eq_zero_or_pos x.natAbs with h0 | hp
  · rw [h0]; exact hk
  · exact (Nat.log2_lt (Nat.ne_of_gt hp)).mpr h
theorem Sz.bits {k : Nat} {x : Int} (h : Sz k x) (hk : 0 < k) : Builtin.Int.intBits x ≤ k := by
  unfold Builtin.Int.intBits
  split
  · exact Nat.zero_le _
  · exact h.log hk
theorem mulOk {k l : Nat} {x y : Int} (h1 : Sz k x) (h2 : Sz l y) (hk : 0 < k) (hl : 0 < l) (h : k + l ≤ 100000000) : IntMulOk x y := by
  unfold IntMulOk
  have b1 := h1.bits hk
  have b2 := h2.bits hl
  intro q
  simp only [Bool.and_eq_true, decide_eq_true_eq, Builtin.Int.intTooBig, bitsLine] at q
  have q2 := of_decide_eq_true q.2
  have q3 : ((2 ^ 27 : Nat) : Int) = 134217728 := by decide
  omega
theorem noPy {k : Nat} {x y : Int} (h : Sz k y) (hk : 0 < k) (hl : k ≤ 9000) : Builtin.divisionGoesByPylong x y = false := PyProof.noPylong_of_log2 (Nat.lt_of_lt_of_le (h.log hk) hl)
/-! the ways of a comparison, for the walk -/
theorem c_is_f {d : D} {k : Bool → Prop} (h : isNone d = some false) (hk : k false) : cmpK .Is d .none k := ⟨_, h, hk⟩
theorem c_is_t {k : Bool → Prop} (hk : k true) : cmpK .Is .none .none k := ⟨_, rfl, hk⟩
theorem c_isn_t {d : D} {k : Bool → Prop} (h : isNone d = some false) (hk : k true) : cmpK .IsNot d .none k := ⟨_, h, hk⟩
theorem c_isn_f {k : Bool → Prop} (hk : k false) : cmpK .IsNot .none .none k := ⟨_, rfl, hk⟩
theorem c_eq_t {a b : Int} {k : Bool → Prop} (h : a = b) (hk : k true) : cmpK .Eq (.int a) (.int b) k := by show k _; rw [show (a == b) = true from beq_iff_eq.mpr h]; exact hk
theorem c_eq_f {a b : Int} {k : Bool → Prop} (h : a ≠ b) (hk : k false) : cmpK .Eq (.int a) (.int b) k := by show k _; rw [show (a == b) = false from beq_eq_false_iff_ne.mpr h]; exact hk
theorem c_ne_f {a b : Int} {k : Bool → Prop} (h : a = b) (hk : k false) : cmpK .NotEq (.int a) (.int b) k := by show k _; rw [show (a != b) = false by simp [h]]; exact hk
theorem c_ne_t {a b : Int} {k : Bool → Prop} (h : a ≠ b) (hk : k true) : cmpK .NotEq (.int a) (.int b) k := by show k _; rw [show (a != b) = true by simp [h]]; exact hk
theorem c_lt_t {a b : Int} {k : Bool → Prop} (h : a < b) (hk : k true) : cmpK .Lt (.int a) (.int b) k := by show k _; rw [decide_eq_true h]; exact hk
theorem c_lt_f {a b : Int} {k : Bool → Prop} (h : ¬ a < b) (hk : k false) : cmpK .Lt (.int a) (.int b) k := by show k _; rw [decide_eq_false h]; exact hk
theorem c_gt_t {a b : Int} {k : Bool → Prop} (h : a > b) (hk : k true) : cmpK .Gt (.int a) (.int b) k := by show k _; rw [decide_eq_true h]; exact hk
theorem c_gt_f {a b : Int} {k : Bool → Prop} (h : ¬ a > b) (hk : k false) : cmpK .Gt (.int a) (.int b) k := by show k _; rw [decide_eq_false h]; exact hk
theorem if_t {a b : Prop} (h : a) : if true = true then a else b := by simpa using h
theorem if_f {a b : Prop} (h : b) : if false = true then a else b := by simpa using h
theorem b_add {a b : Int} {k : D → Prop} (h : k (.int (a + b))) : binK .Add (.int a) (.int b) k := h
theorem b_sub {a b : Int} {k : D → Prop} (h : k (.int (a - b))) : binK .Sub (.int a) (.int b) k := h
theorem b_mul {a b : Int} {k : D → Prop} (h1 : IntMulOk a b) (h : k (.int (a * b))) : binK .Mult (.int a) (.int b) k := ⟨h1, h⟩
theorem b_mod {a b : Int} {k : D → Prop} (h1 : b ≠ 0) (h : k (.int (a.fmod b))) : binK .Mod (.int a) (.int b) k := ⟨h1, h⟩
theorem b_div {a b : Int} {k : D → Prop} (h1 : b ≠ 0) (h2 : Builtin.divisionGoesByPylong a b = false) (h : k (.int (a.fdiv b))) : binK .FloorDiv (.int a) (.int b) k := ⟨h1, h2, h⟩
theorem i_0 {σ : St} {a : D} {r : List D} {k : D → Prop} (hl : r.length < 1000) (h : k a) : itemK σ (.tup (a :: r)) (.int 0) k :=
  ⟨0, a, by decide, by decide, by simp [seqIndex?], rfl, h⟩
theorem i_1 {σ : St} {a b : D} {r : List D} {k : D → Prop} (hl : r.length < 1000) (h : k b) : itemK σ (.tup (a :: b :: r)) (.int 1) k :=
  ⟨1, b, by decide, by decide, by simp [seqIndex?]; omega, rfl, h⟩
theorem ex_b {b : Bool} {P : Bool → Prop} (h : P b) : ∃ b', D.bool b = .bool b' ∧ P b' := ⟨b, rfl, h⟩
theorem and_k {a b : Prop} (h1 : a) (h2 : b) : a ∧ b := ⟨h1, h2⟩
section
variable {c : Cx} {n : Nat} {fx : Fx} {σ : St}
theorem Wx_nil2 {ss : List Stmt} {kn : St → Prop} {kr kr' : St → D → Prop} (h : Wx c n fx σ ss kn kr) : Wx c n fx σ [] (fun σ' => Wx c n fx σ' ss kn kr) kr' := Wx_nil h
theorem Wx_end {kn : St → Prop} {kr : St → D → Prop} (vs : List (Str × D)) (hs : SubV (fun x => σ.vars.lookup x) vs) (h : kn ⟨vs, σ.own⟩) : Wx c n fx σ [] kn kr :=
  fun A kp im s Q E hA X q1 q2 => wpAny_execs_nil (q1 _ im s.heap s.toks (Ext.refl _ _ _) (X.weaken hs.lookup) h)
theorem Wx_post {ss : List Stmt} {kn : St → Prop} {kr : St → D → Prop} (h : Wx c n fx σ ss (fun σ2 => ∃ vs, SubV (fun x => σ2.vars.lookup x) vs ∧ kn ⟨vs, σ2.own⟩) kr) : Wx c n fx σ ss kn kr := by
  intro A kp im s Q E hA X q1 q2
  refine h A kp im s Q E hA X (fun σ' im' h' tk' ex X' k => ?_) q2
  obtain ⟨vs, hs, kk⟩ := k
  exact q1 _ im' h' tk' ex (X'.weaken hs.lookup) kk
end
/-! the rationals -/
def Bd (q : Rat) : Prop := Sz 4000 q.num ∧ Sz 4000 q.den
theorem divInt_neg2 (a b : Int) : Rat.divInt (-a) (-b) = Rat.divInt a b := by
  rw [Rat.divInt_eq_div, Rat.divInt_eq_div, Rat.intCast_neg, Rat.intCast_neg]
  by_cases h : (b : Rat) = 0
  · rw [h]; grind
  · grind
theorem num_den (q : Rat) : (q.num : Rat) / ((q.den : Int) : Rat) = q := by
  rw [← Rat.divInt_eq_div]; exact Rat.num_divInt_den q
theorem den_ne (q : Rat) : ((q.den : Int) : Rat) ≠ 0 := by
  have := q.den_nz
  intro h
  have h2 : (q.den : Int) = 0 := by exact_mod_cast h
  omega
theorem add_eq (p q : Rat) : Rat.divInt (p.num * q.den + q.num * p.den) (p.den * q.den) = p + q := by
  have h1 := den_ne p
  have h2 := den_ne q
  rw [Rat.divInt_eq_div]
  simp only [Rat.intCast_add, Rat.intCast_mul]
  conv => rhs; rw [← num_den p, ← num_den q]
  grind
theorem mul_eq (p q : Rat) : Rat.divInt (p.num * q.num) (p.den * q.den) = p * q := by
  have h1 := den_ne p
  have h2 := den_ne q
  rw [Rat.divInt_eq_div]
  simp only [Rat.intCast_mul]
  conv => rhs; rw [← num_den p, ← num_den q]
  grind
theorem div_eq (p q : Rat) (h : q ≠ 0) : Rat.divInt (p.num * q.den) (p.den * q.num) = p / q := by
  have h1 := den_ne p
  have h2 := den_ne q
  have h3 : (q.num : Rat) ≠ 0 := fun e => h (Rat.num_eq_zero.mp (by exact_mod_cast e))
  rw [Rat.divInt_eq_div]
  simp only [Rat.intCast_mul]
  conv => rhs; rw [← num_den p, ← num_den q]
  grind
theorem den_pos (q : Rat) : (0 : Int) < q.den := by have := q.den_nz; omega
/-! sizes of rationals -/
def Rd (B : Nat) (q : Rat) : Prop := ∃ (a : Int) (d : Nat), 0 < d ∧ d < 2 ^ B ∧ a.natAbs < 2 ^ B ∧ q = (a : Rat) / ((d : Int) : Rat)
def Vd (B m : Nat) (u : Nat → Rat) : Prop := ∃ d : Nat, 0 < d ∧ d < 2 ^ B ∧ ∀ r, r < m → ∃ a : Int, a.natAbs < 2 ^ B ∧ u r = (a : Rat) / ((d : Int) : Rat)
theorem ne0 {d : Nat} (h : 0 < d) : ((d : Int) : Rat) ≠ 0 := by
  intro q
  have : (d : Int) = 0 := by exact_mod_cast q
  omega
theorem p2 (k : Nat) : 0 < 2 ^ k := Nat.pow_pos (by decide)
theorem Rd.mono {A B : Nat} {q : Rat} (h : Rd A q) (l : A ≤ B) : Rd B q := by
  obtain ⟨a, d, h0, h1, h2, e⟩ := h
  have := Nat.pow_le_pow_right (n := 2) (by decide) l
  exact ⟨a, d, h0, Nat.lt_of_lt_of_le h1 this, Nat.lt_of_lt_of_le h2 this, e⟩
theorem Vd.mono {A B m : Nat} {u : Nat → Rat} (h : Vd A m u) (l : A ≤ B) : Vd B m u := by
  obtain ⟨d, h0, h1, h2⟩ := h
  have := Nat.pow_le_pow_right (n := 2) (by decide) l
  exact ⟨d, h0, Nat.lt_of_lt_of_le h1 this, fun r hr => by obtain ⟨a, z1, z2⟩ := h2 r hr; exact ⟨a, Nat.lt_of_lt_of_le z1 this, z2⟩⟩
theorem Vd.at {B m r : Nat} {u : Nat → Rat} (h : Vd B m u) (hr : r < m) : Rd B (u r) := by
  obtain ⟨d, h0, h1, h2⟩ := h
  obtain ⟨a, z1, z2⟩ := h2 r hr
  exact ⟨a, d, h0, h1, z1, z2⟩
theorem Rd.bd {B : Nat} {q : Rat} (h : Rd B q) (hB : B ≤ 4000) : Bd q := by
  obtain ⟨a, d, h0, h1, h2, e⟩ := h.mono hB
  rw [← Rat.divInt_eq_div] at e
  subst e
  refine ⟨?_, ?_⟩
  · unfold Sz
    rw [Rat.num_divInt]
    refine Nat.lt_of_le_of_lt ?_ h2
    rw [Int.sign_eq_one_of_pos (by omega), Int.one_mul]
    exact Int.natAbs_ediv_le_natAbs ..
  · unfold Sz
    rw [Rat.den_divInt, if_neg (by omega)]
    refine Nat.lt_of_le_of_lt ?_ h1
    simp only [Int.natAbs_natCast]
    exact Nat.div_le_self _ _
theorem Rd.zero {B : Nat} (h : 0 < B) : Rd B 0 := ⟨0, 1, by decide, Nat.one_lt_two_pow (by omega), p2 B, by simp [Rat.div_def]⟩
theorem Rd.one {B : Nat} (h : 0 < B) : Rd B 1 := ⟨1, 1, by decide, Nat.one_lt_two_pow (by omega), Nat.one_lt_two_pow (by omega), by have : ((1 : Nat) : Int) = 1 := rfl; rw [this]; show (1 : Rat) = ((1 : Int) : Rat) / ((1 : Int) : Rat); rw [show ((1 : Int) : Rat) = 1 from rfl]; grind⟩
theorem mulLt {a b A B : Nat} (h1 : a < 2 ^ A) (h2 : b < 2 ^ B) : a * b < 2 ^ (A + B) := by rw [Nat.pow_add]; exact Nat.mul_lt_mul'' h1 h2
theorem Rd.mul {A B : Nat} {p q : Rat} (h : Rd A p) (k : Rd B q) : Rd (A + B) (p * q) := by
  obtain ⟨a, d, h0, h1, h2, rfl⟩ := h
  obtain ⟨b, e, k0, k1, k2, rfl⟩ := k
  refine ⟨a * b, d * e, Nat.mul_pos h0 k0, mulLt h1 k1, by rw [Int.natAbs_mul]; exact mulLt h2 k2, ?_⟩
  have := ne0 h0; have := ne0 k0
  simp only [Int.natCast_mul, Rat.intCast_mul]
  grind
theorem Rd.add {A B : Nat} {p q : Rat} (h : Rd A p) (k : Rd B q) : Rd (A + B + 1) (p + q) := by
  obtain ⟨a, d, h0, h1, h2, rfl⟩ := h
  obtain ⟨b, e, k0, k1, k2, rfl⟩ := k
  refine ⟨a * e + b * d, d * e, Nat.mul_pos h0 k0, ?_, ?_, ?_⟩
  · have := mulLt h1 k1; rw [Nat.pow_succ]; omega
  · have z1 := mulLt h2 k1
    have z2 := mulLt h1 k2
    have z3 := Int.natAbs_add_le (a * e) (b * d)
    rw [Int.natAbs_mul, Int.natAbs_mul, Int.natAbs_natCast, Int.natAbs_natCast] at z3
    rw [Nat.mul_comm d b.natAbs] at z2
    rw [Nat.pow_succ]; omega
  · have := ne0 h0; have := ne0 k0
    simp only [Int.natCast_mul, Rat.intCast_mul, Rat.intCast_add]
    grind
theorem Rd.neg {A : Nat} {p : Rat} (h : Rd A p) : Rd A (-p) := by
  obtain ⟨a, d, h0, h1, h2, rfl⟩ := h
  refine ⟨-a, d, h0, h1, by simpa using h2, ?_⟩
  have := ne0 h0
  simp only [Rat.intCast_neg]
  grind
theorem Rd.sub {A B : Nat} {p q : Rat} (h : Rd A p) (k : Rd B q) : Rd (A + B + 1) (p - q) := by
  rw [Rat.sub_eq_add_neg]; exact h.add k.neg
theorem Rd.div {A B : Nat} {p q : Rat} (h : Rd A p) (k : Rd B q) (hq : q ≠ 0) : Rd (A + B) (p / q) := by
  obtain ⟨a, d, h0, h1, h2, rfl⟩ := h
  obtain ⟨b, e, k0, k1, k2, rfl⟩ := k
  have hb : b ≠ 0 := fun z => hq (by rw [z]; simp [Rat.div_def])
  have n1 := ne0 h0
  have n2 := ne0 k0
  have n3 : (b : Rat) ≠ 0 := fun z => hb (by exact_mod_cast z)
  have hn : 0 < b.natAbs := by omega
  refine ⟨b.sign * (a * e), d * b.natAbs, Nat.mul_pos h0 hn, ?_, ?_, ?_⟩
  · exact mulLt h1 k2
  · have : (b.sign * (a * e)).natAbs = a.natAbs * e := by
      rw [Int.natAbs_mul, Int.natAbs_sign_of_ne_zero hb, Nat.one_mul, Int.natAbs_mul, Int.natAbs_natCast]
    rw [this]; exact mulLt h2 k1
  · simp only [Int.natCast_mul, Rat.intCast_mul]
    have hs : ((b.natAbs : Int) : Rat) = (b.sign : Rat) * (b : Rat) := by
      rw [← Rat.intCast_mul]; congr 1
      rcases Int.lt_or_gt_of_ne hb with z | z
      · rw [Int.sign_eq_neg_one_of_neg z]; omega
      · rw [Int.sign_eq_one_of_pos z]; omega
    have hs2 : (b.sign : Rat) * (b.sign : Rat) = 1 := by
      rw [← Rat.intCast_mul]
      have : b.sign * b.sign = 1 := by
        rcases Int.lt_or_gt_of_ne hb with z | z
        · rw [Int.sign_eq_neg_one_of_neg z]; rfl
        · rw [Int.sign_eq_one_of_pos z]; rfl
      rw [this]; rfl
    have hs3 : (b.sign : Rat) ≠ 0 := fun z => by rw [z] at hs2; simp at hs2
    rw [hs]
    grind
theorem Vd.mul {A B m : Nat} {u v : Nat → Rat} (h : Vd A m u) (k : Vd B m v) : Vd (A + B) m fun r => u r * v r := by
  obtain ⟨d, h0, h1, h2⟩ := h
  obtain ⟨e, k0, k1, k2⟩ := k
  refine ⟨d * e, Nat.mul_pos h0 k0, mulLt h1 k1, fun r hr => ?_⟩
  obtain ⟨a, z1, z2⟩ := h2 r hr
  obtain ⟨b, w1, w2⟩ := k2 r hr
  refine ⟨a * b, by rw [Int.natAbs_mul]; exact mulLt z1 w1, ?_⟩
  have := ne0 h0; have := ne0 k0
  dsimp only
  rw [z2, w2]
  simp only [Int.natCast_mul, Rat.intCast_mul]
  grind
theorem Vd.less {A F B m : Nat} {u v : Nat → Rat} {f : Rat} (h : Vd A m u) (hf : Rd F f) (k : Vd B m v) : Vd (A + F + B + 1) m fun r => u r - f * v r := by
  obtain ⟨d, h0, h1, h2⟩ := h
  obtain ⟨e, k0, k1, k2⟩ := k
  obtain ⟨g, i, f0, f1, f2, rfl⟩ := hf
  refine ⟨d * i * e, Nat.mul_pos (Nat.mul_pos h0 f0) k0, ?_, fun r hr => ?_⟩
  · have := mulLt (mulLt h1 f1) k1; rw [Nat.pow_succ]; omega
  obtain ⟨a, z1, z2⟩ := h2 r hr
  obtain ⟨b, w1, w2⟩ := k2 r hr
  refine ⟨a * i * e + -(g * b * d), ?_, ?_⟩
  · have y1 := mulLt (mulLt z1 f1) k1
    have y2 := mulLt (mulLt h1 f2) w1
    have y3 := Int.natAbs_add_le (a * i * e) (-(g * b * d))
    rw [Int.natAbs_neg, Int.natAbs_mul, Int.natAbs_mul, Int.natAbs_mul, Int.natAbs_mul, Int.natAbs_natCast, Int.natAbs_natCast, Int.natAbs_natCast] at y3
    rw [show d * g.natAbs * b.natAbs = g.natAbs * b.natAbs * d by rw [Nat.mul_comm d, Nat.mul_assoc, Nat.mul_assoc, Nat.mul_comm d]] at y2
    rw [Nat.pow_succ]; omega
  · have := ne0 h0; have := ne0 k0; have := ne0 f0
    dsimp only
    rw [z2, w2]
    simp only [Int.natCast_mul, Rat.intCast_mul, Rat.intCast_add, Rat.intCast_neg]
    grind
theorem Vd.comp {B m m' : Nat} {u : Nat → Rat} (h : Vd B m u) {i : Nat → Nat} (hi : ∀ j, j < m' → i j < m) : Vd B m' fun j => u (i j) := by
  obtain ⟨d, h0, h1, h2⟩ := h
  exact ⟨d, h0, h1, fun r hr => h2 _ (hi r hr)⟩
theorem Vd.congr {B m : Nat} {u v : Nat → Rat} (h : Vd B m u) (e : ∀ r, r < m → u r = v r) : Vd B m v := by
  obtain ⟨d, h0, h1, h2⟩ := h
  exact ⟨d, h0, h1, fun r hr => by rw [← e r hr]; exact h2 r hr⟩
def psum (f : Nat → Rat) : Nat → Rat
  | 0 => 0
  | n + 1 => psum f n + f n
theorem psum_congr {f g : Nat → Rat} : ∀ {n : Nat}, (∀ r, r < n → f r = g r) → psum f n = psum g n
  | 0, _ => rfl
  | n + 1, h => by rw [psum, psum, psum_congr fun r hr => h r (Nat.lt_succ_of_lt hr), h n (Nat.lt_succ_self n)]
theorem Vd.psum {B m n : Nat} {f : Nat → Rat} (h : Vd B m f) (hn : n ≤ m) (hm : n ≤ 15) : Rd (B + 4) (psum f n) := by
  obtain ⟨d, h0, h1, h2⟩ := h
  have : ∀ n, n ≤ m → ∃ a : Int, a.natAbs ≤ n * 2 ^ B ∧ Mine.psum f n = (a : Rat) / ((d : Int) : Rat) := by
    intro n
    induction n with
    | zero => intro _; exact ⟨0, by simp, by simp [Mine.psum, Rat.div_def]⟩
    | succ n ih =>
      intro hn
      obtain ⟨a, z1, z2⟩ := ih (Nat.le_of_succ_le hn)
      obtain ⟨b, w1, w2⟩ := h2 n hn
      refine ⟨a + b, ?_, ?_⟩
      · have := Int.natAbs_add_le a b
        rw [Nat.succ_mul]; omega
      · have := ne0 h0
        rw [Mine.psum, z2, w2, Rat.intCast_add]; grind
  obtain ⟨a, z1, z2⟩ := this n hn
  have hp := p2 B
  refine ⟨a, d, h0, ?_, ?_, z2⟩
  · rw [Nat.pow_add]; omega
  · rw [Nat.pow_add]
    have : n * 2 ^ B ≤ 15 * 2 ^ B := Nat.mul_le_mul_right _ hm
    omega
/-! vectors -/
def VL (m : Nat) (u : Nat → Rat) : List D := (List.range m).map fun j => ratD (u j)
abbrev vecD (m : Nat) (u : Nat → Rat) : D := .lst (VL m u)
theorem VL_len (m : Nat) (u : Nat → Rat) : (VL m u).length = m := by simp [VL]
theorem VL_get {m j : Nat} {u : Nat → Rat} (h : j < m) : (VL m u)[j]? = some (ratD (u j)) := by simp [VL, h]
theorem VL_mem {m j : Nat} {u : Nat → Rat} {d : D} (h : (VL m u)[j]? = some d) : j < m ∧ d = ratD (u j) := by
  have hj : j < m := by have := (List.getElem?_eq_some_iff.mp h).1; rwa [VL_len] at this
  rw [VL_get hj] at h; exact ⟨hj, by cases h; rfl⟩
theorem VL_congr {m : Nat} {u v : Nat → Rat} (h : ∀ j, j < m → u j = v j) : VL m u = VL m v := by
  unfold VL; exact List.map_congr_left fun j hj => by rw [h j (List.mem_range.mp hj)]
def wD (m : Nat) : Option (Nat → Rat) → D
  | none => .none
  | some w => vecD m w
def wgt (W : Option (Nat → Rat)) (u : Nat → Rat) : Nat → Rat :=
  match W with
  | none => u
  | some w => fun r => u r * w r
def Vw (m : Nat) : Option (Nat → Rat) → Prop
  | none => True
  | some w => Vd 4 m w
theorem Vd.wgt {B m : Nat} {W : Option (Nat → Rat)} {u : Nat → Rat} (h : Vd B m u) (hw : Vw m W) : Vd (B + 4) m (wgt W u) := by
  cases W with
  | none => exact h.mono (Nat.le_add_right _ _)
  | some w => exact h.mul hw
section
variable {c : Cx} {n : Nat} {fx : Fx} {σ : St} {k : D → Prop}
def hasLen (σ : St) (d : D) (m : Nat) : Prop := ∃ ds, lstOf σ d ds ∧ ds.length = m
theorem lenv {m : Nat} {u : Nat → Rat} : hasLen σ (.lst (VL m u)) m := ⟨_, rfl, VL_len m u⟩
theorem len_v {d : D} {m : Nat} {P : Nat → Prop} (h : hasLen σ d m) (hm : m ≤ 1000000) (hk : P m) : ∃ m, hasLen σ d m ∧ m ≤ 1000000 ∧ P m := ⟨m, h, hm, hk⟩
theorem We_len2 (hK : KC c) {x : Str} {p pos : Pos} {e : Expr} (hx : fx.env.kindOf x = some .globalImplicit) (h : We c n fx σ e fun d => ∃ m : Nat, hasLen σ d m ∧ m ≤ 1000000 ∧ k (.int (m : Nat)))
    (hxl : x = Str.ofString "len" := by rfl) (he : starEach [e] fx.env = (false, eval e fx.env) :: starEach [] fx.env := by rfl) : We c n fx σ (.Call (.Name x p) [e] [] pos) k :=
  We_len hK hx (We.mono h fun d ⟨m, ⟨ds, h1, h2⟩, h3, h4⟩ => ⟨ds, h1, by omega, by rw [h2]; exact h4⟩) hxl he
theorem if_nt {a b : Prop} (h : b) : if (!true) = true then a else b := by simpa using h
theorem if_nf {a b : Prop} (h : a) : if (!false) = true then a else b := by simpa using h
theorem ex_i {i : Int} {P : Int → Prop} (h : P i) : ∃ b, D.int i = .int b ∧ P b := ⟨i, rfl, h⟩
theorem ex_i2 {i j : Int} {P : Int → Int → Prop} (h : P i j) : ∃ a b, D.int i = .int a ∧ D.int j = .int b ∧ P a b := ⟨i, j, rfl, rfl, h⟩
theorem it_l {ds : List D} {d : D} {j : Nat} (hd : ds[j]? = some d) (hj : j < 1000000) (hk : k d) : itemK σ (.lst ds) (.int (j : Nat)) k := ⟨d, by omega, by omega, by simpa using hd, hk⟩
theorem it_vec {m j : Nat} {u : Nat → Rat} (hj : j < m) (hm : m ≤ 1000) (hk : k (ratD (u j))) : itemK σ (.lst (VL m u)) (.int (j : Nat)) k := it_l (VL_get hj) (by omega) hk
end
/-! the fit as plain functions -/
def ip (m : Nat) (W : Option (Nat → Rat)) (u v : Nat → Rat) : Rat := psum (fun r => wgt W u r * v r) m
def sw (m : Nat) (W : Option (Nat → Rat)) (bs : Nat → Nat → Rat) (nr : Nat → Rat) (u : Nat → Rat) : Nat → Nat → Rat
  | 0 => u
  | t + 1 => fun r => sw m W bs nr u t r - (ip m W (sw m W bs nr u t) (bs t) / nr t) * bs t r
def fac (m : Nat) (W : Option (Nat → Rat)) (bs : Nat → Nat → Rat) (nr : Nat → Rat) (u : Nat → Rat) (t : Nat) : Rat := ip m W (sw m W bs nr u t) (bs t) / nr t
structure Og where
  n : Nat
  pv : Nat → Nat
  bs : Nat → Nat → Rat
  nr : Nat → Rat
  sh : Nat → Nat → Rat
def upd {α : Type} (f : Nat → α) (n : Nat) (x : α) : Nat → α := fun i => if i = n then x else f i
def ogStep (m : Nat) (W : Option (Nat → Rat)) (col : Nat → Rat) (place : Nat) (o : Og) : Og :=
  if ip m W (sw m W o.bs o.nr col o.n) (sw m W o.bs o.nr col o.n) = 0 then o else
    ⟨o.n + 1, upd o.pv o.n place, upd o.bs o.n (sw m W o.bs o.nr col o.n), upd o.nr o.n (ip m W (sw m W o.bs o.nr col o.n) (sw m W o.bs o.nr col o.n)), upd o.sh o.n (fac m W o.bs o.nr col)⟩
def og (m : Nat) (W : Option (Nat → Rat)) (cols : Nat → Nat → Rat) : Nat → Og
  | 0 => ⟨0, fun _ => 0, fun _ _ => 0, fun _ => 0, fun _ _ => 0⟩
  | p + 1 => ogStep m W (cols p) p (og m W cols p)
theorem og_n {m : Nat} {W : Option (Nat → Rat)} {cols : Nat → Nat → Rat} : ∀ p, (og m W cols p).n ≤ p
  | 0 => Nat.le_refl _
  | p + 1 => by
    have := og_n (m := m) (W := W) (cols := cols) p
    rw [og]; unfold ogStep
    split
    · omega
    · dsimp only; omega
theorem og_pv {m : Nat} {W : Option (Nat → Rat)} {cols : Nat → Nat → Rat} : ∀ p i, i < (og m W cols p).n → (og m W cols p).pv i < p
  | 0, i, h => by exact absurd h (Nat.not_lt_zero _)
  | p + 1, i, h => by
    have ih := og_pv (m := m) (W := W) (cols := cols) p
    rw [og] at h ⊢; unfold ogStep at h ⊢
    split
    · rename_i q; rw [if_pos q] at h; exact Nat.lt_succ_of_lt (ih i h)
    · rename_i q; rw [if_neg q] at h
      dsimp only at h ⊢
      unfold upd
      split
      · exact Nat.lt_succ_self _
      · exact Nat.lt_succ_of_lt (ih i (by omega))
def Sb : Nat → Nat
  | 0 => 3
  | t + 1 => 6 * Sb t + 17
theorem Sb_le {t : Nat} (h : t ≤ 3) : Sb t ≤ 1379 := by
  match t, h with
  | 0, _ => decide
  | 1, _ => decide
  | 2, _ => decide
  | 3, _ => decide
theorem Sb_le2 {t : Nat} (h : t ≤ 2) : Sb t ≤ 227 := by
  match t, h with
  | 0, _ => decide
  | 1, _ => decide
  | 2, _ => decide
structure OgB (m : Nat) (o : Og) : Prop where
  n3 : o.n ≤ 3
  bs : ∀ t, t < o.n → Vd (Sb t) m (o.bs t)
  nr : ∀ t, t < o.n → Rd (2 * Sb t + 8) (o.nr t)
  nz : ∀ t, t < o.n → o.nr t ≠ 0
  sh : ∀ t i, t < o.n → i < t → Rd (4 * Sb i + 16) (o.sh t i)
theorem ip_rd {m A B : Nat} {W : Option (Nat → Rat)} {u v : Nat → Rat} (hm : m ≤ 15) (hw : Vw m W) (hu : Vd A m u) (hv : Vd B m v) : Rd (A + B + 8) (ip m W u v) := by
  have := ((hu.wgt hw).mul hv).psum (Nat.le_refl m) hm
  exact this.mono (by omega)
theorem sw_vd {m : Nat} {W : Option (Nat → Rat)} {o : Og} {u : Nat → Rat} (hm : m ≤ 15) (hw : Vw m W) (ho : OgB m o) (hu : Vd 3 m u) : ∀ t, t ≤ o.n → Vd (Sb t) m (sw m W o.bs o.nr u t)
  | 0, _ => hu
  | t + 1, h => by
    have ih := sw_vd hm hw ho hu t (Nat.le_of_succ_le h)
    have h1 := ho.bs t h
    have h2 := (ip_rd hm hw ih h1).div (ho.nr t h) (ho.nz t h)
    rw [sw, Sb]
    exact (ih.less h2 h1).mono (by omega)
theorem fac_rd {m : Nat} {W : Option (Nat → Rat)} {o : Og} {u : Nat → Rat} (hm : m ≤ 15) (hw : Vw m W) (ho : OgB m o) (hu : Vd 3 m u) {t : Nat} (ht : t < o.n) : Rd (4 * Sb t + 16) (fac m W o.bs o.nr u t) :=
  ((ip_rd hm hw (sw_vd hm hw ho hu t (Nat.le_of_lt ht)) (ho.bs t ht)).div (ho.nr t ht) (ho.nz t ht)).mono (by omega)
theorem ogStep_b {m : Nat} {W : Option (Nat → Rat)} {o : Og} {u : Nat → Rat} {p : Nat} (hm : m ≤ 15) (hw : Vw m W) (ho : OgB m o) (hn : o.n ≤ 2) (hu : Vd 3 m u) : OgB m (ogStep m W u p o) := by
  unfold ogStep
  split
  · exact ho
  · rename_i q
    have hs := sw_vd hm hw ho hu o.n (Nat.le_refl _)
    refine ⟨by dsimp only; omega, fun t ht => ?_, fun t ht => ?_, fun t ht => ?_, fun t i ht hi => ?_⟩ <;> dsimp only at ht ⊢ <;> unfold upd <;> split
    · rename_i e; subst e; exact hs
    · exact ho.bs t (by omega)
    · rename_i e; subst e; exact (ip_rd hm hw hs hs).mono (by omega)
    · exact ho.nr t (by omega)
    · exact q
    · exact ho.nz t (by omega)
    · rename_i e; subst e; exact fac_rd hm hw ho hu hi
    · exact ho.sh t i (by omega) hi
theorem og_b {m : Nat} {W : Option (Nat → Rat)} {cols : Nat → Nat → Rat} (hm : m ≤ 15) (hw : Vw m W) : ∀ p, p ≤ 3 → (∀ i, i < p → Vd 3 m (cols i)) → OgB m (og m W cols p)
  | 0, _, _ => ⟨Nat.zero_le _, fun t h => absurd h (Nat.not_lt_zero _), fun t h => absurd h (Nat.not_lt_zero _), fun t h => absurd h (Nat.not_lt_zero _), fun t _ h => absurd h (Nat.not_lt_zero _)⟩
  | p + 1, h, hc => ogStep_b hm hw (og_b hm hw p (by omega) fun i hi => hc i (by omega)) (by have := og_n (m := m) (W := W) (cols := cols) p; omega) (hc p (by omega))
/-! lists of data -/
def Ls (n : Nat) (g : Nat → D) : List D := (List.range n).map g
theorem Ls_len (n : Nat) (g : Nat → D) : (Ls n g).length = n := by simp [Ls]
theorem Ls_get {n i : Nat} {g : Nat → D} (h : i < n) : (Ls n g)[i]? = some (g i) := by simp [Ls, h]
theorem Ls_mem {n i : Nat} {g : Nat → D} {d : D} (h : (Ls n g)[i]? = some d) : i < n ∧ d = g i := by
  have hj : i < n := by have := (List.getElem?_eq_some_iff.mp h).1; rwa [Ls_len] at this
  rw [Ls_get hj] at h; exact ⟨hj, by cases h; rfl⟩
theorem Ls_congr {n : Nat} {g h : Nat → D} (e : ∀ i, i < n → g i = h i) : Ls n g = Ls n h := by
  unfold Ls; exact List.map_congr_left fun j hj => e j (List.mem_range.mp hj)
theorem Ls_succ (n : Nat) (g : Nat → D) : Ls (n + 1) g = Ls n g ++ [g n] := by unfold Ls; rw [List.range_succ, List.map_append]; rfl
theorem Ls_upd {α : Type} (n : Nat) (f : Nat → α) (x : α) (g : Nat → α → D) : Ls (n + 1) (fun i => g i (upd f n x i)) = Ls n (fun i => g i (f i)) ++ [g n x] := by
  rw [Ls_succ]
  congr 1
  · exact Ls_congr fun i hi => by unfold upd; rw [if_neg (by omega)]
  · unfold upd; rw [if_pos rfl]
theorem VL_Ls (m : Nat) (u : Nat → Rat) : VL m u = Ls m fun j => ratD (u j) := rfl
theorem VL_succ (n : Nat) (u : Nat → Rat) : VL (n + 1) u = VL n u ++ [ratD (u n)] := Ls_succ n _
def pivD (o : Og) : List D := Ls o.n fun i => .int (o.pv i : Nat)
def basD (m : Nat) (o : Og) : List D := Ls o.n fun i => vecD m (o.bs i)
def norD (o : Og) : List D := Ls o.n fun i => ratD (o.nr i)
def shaD (o : Og) : List D := Ls o.n fun i => .lst (VL i (o.sh i))
def colD (m wide : Nat) (cols : Nat → Nat → Rat) : D := .lst (Ls wide fun i => vecD m (cols i))
section
variable {c : Cx} {n : Nat} {fx : Fx} {σ : St} {k : D → Prop}
theorem at_own {a dx : Addr} {fs : List (Str × D)} {e : D} {x : Str} (hm : (a, AO.obj dx fs) ∈ σ.own) (hl : fs.lookup x = some e) (hh : handedD e) (hk : k e) : attrK σ (.raw (.ref a)) x k := ⟨dx, fs, e, hm, hl, hh, hk⟩
theorem at_obj {fs : List (Str × D)} {e : D} {x : Str} (hl : fs.lookup x = some e) (hh : handedD e) (hk : k e) : attrK σ (.obj fs) x k := ⟨e, hl, hh, hk⟩
theorem it_own {a : Addr} {ds : List D} {d : D} {j : Nat} (hm : (a, AO.lst ds) ∈ σ.own) (hd : ds[j]? = some d) (hj : j < 1000000) (hk : k d) : itemK σ (.raw (.ref a)) (.int (j : Nat)) k := ⟨ds, d, hm, .inl ⟨by omega, by omega, by simpa using hd⟩, hk⟩
theorem wD_handed (m : Nat) (W : Option (Nat → Rat)) : handedD (wD m W) := by cases W <;> trivial
theorem lenCat (ds : List D) (d : D) : (ds ++ [d]).length = ds.length + 1 := by simp
theorem lt_eq {a b N : Nat} (e : a = b) (h : b < N) : a < N := e ▸ h
theorem len_own {a : Addr} {ds : List D} {m : Nat} (hm : (a, AO.lst ds) ∈ σ.own) (hl : ds.length = m) : hasLen σ (.raw (.ref a)) m := ⟨ds, hm, hl⟩
theorem lenL {n : Nat} {g : Nat → D} : hasLen σ (.lst (Ls n g)) n := ⟨_, rfl, Ls_len n g⟩
theorem We_nilList {pos : Pos} (hk : k (.lst [])) : We c n fx σ (.List [] pos) k := We_list (Wes_nil ⟨by decide, hk⟩)
theorem Ws_assignNil {x : Str} {p pos lpos : Pos} {kn : St → Prop} {kr : St → D → Prop} (hx : Storable fx x) (h : ∀ a, kn ⟨(x, .raw (.ref a)) :: σ.vars, (a, .lst []) :: σ.own⟩)
    (hs : swapsWith (.List [] lpos) (some (.Name x p)) pos.line fx.env = pure false := by rfl) : Ws c n fx σ (.Assign [.Name x p] (.List [] lpos) pos) kn kr :=
  Ws_assignOwn hx (Wf_list (Wes_nil ⟨by decide, h⟩)) hs
theorem We_zero (hK : KC c) {x : Str} {pos : Pos} (hm : x = Str.ofString "ZERO") (hx : fx.env.kindOf x = some .globalImplicit) (hk : k (ratD 0)) (hd : (x == ("__debug__" : Str)) = false := by decide) : We c n fx σ (.Name x pos) k := by
  subst hm; exact We_const hK 0 1 rfl hx hk hd
theorem We_one (hK : KC c) {x : Str} {pos : Pos} (hm : x = Str.ofString "ONE") (hx : fx.env.kindOf x = some .globalImplicit) (hk : k (ratD 1)) (hd : (x == ("__debug__" : Str)) = false := by decide) : We c n fx σ (.Name x pos) k := by
  subst hm; exact We_const hK 1 1 rfl hx hk hd
theorem We_copy (hK : KC c) {x : Str} {p pos : Pos} {e : Expr} (hx : fx.env.kindOf x = some .globalImplicit) (h : We c n fx σ e fun d => ∃ ds, lstOf σ d ds ∧ ds.length ≤ sizeLine ∧ k (.lst ds))
    (hxl : x = Str.ofString "list" := by rfl) (he : starEach [e] fx.env = (false, eval e fx.env) :: starEach [] fx.env := by rfl) : We c n fx σ (.Call (.Name x p) [e] [] pos) k := We_of_Wf (Wf_listOf hK hx h hxl he)
theorem cp_l {d : D} {ds : List D} {P : List D → Prop} (hl : lstOf σ d ds) (hs : ds.length ≤ 100000) (hk : P ds) : ∃ ds, lstOf σ d ds ∧ ds.length ≤ sizeLine ∧ P ds := ⟨ds, hl, Nat.le_trans hs (by decide), hk⟩
theorem Frozf.look {a : Addr} {ds : List D} : ∀ {vs vs' : List (Str × D)}, Frozf a ds vs vs' → ∀ x d', vs'.lookup x = some d' → ∃ d, vs.lookup x = some d ∧ Froz a ds d d'
  | _, _, .nil, x, d', h => by simp at h
  | _, _, .cons (x := y) (es := es) (es' := es') z q, x, d', h => by
    rw [List.lookup_cons] at h ⊢
    cases e : x == y with
    | true => rw [e] at h; cases h; exact ⟨_, rfl, z⟩
    | false => rw [e] at h; exact q.look x d' h
abbrev ownF (a dx ap ab an as st : Addr) (P B N S T : List D) (co fi re we : D) (ra df : Int) : Own :=
  [(st, .lst T), (a, .obj dx [(Str.ofString "pivots", .raw (.ref ap)), (Str.ofString "bases", .raw (.ref ab)), (Str.ofString "norms", .raw (.ref an)), (Str.ofString "shares", .raw (.ref as)), (Str.ofString "steps", .raw (.ref st)), (Str.ofString "coefficients", co), (Str.ofString "fitted", fi), (Str.ofString "residuals", re), (Str.ofString "weights", we), (Str.ofString "rank", .int ra), (Str.ofString "df", .int df)]),
   (as, .lst S), (an, .lst N), (ab, .lst B), (ap, .lst P)]
end
section
variable {c : Cx} {n : Nat} {fx : Fx} {σ : St} {k : D → Prop}
theorem forU_cons {x : Str} {body : List Stmt} {kr : St → D → Prop} {d : D} {ds : List D} {kn : St → Prop} (h : Wx c n fx (σ.set x d) body (fun σ' => forU c n fx x body kr ds kn σ') kr) : forU c n fx x body kr (d :: ds) kn σ := h
theorem forU_nil {x : Str} {body : List Stmt} {kr : St → D → Prop} {kn : St → Prop} (h : kn σ) : forU c n fx x body kr [] kn σ := h
theorem Wx_nilU {x : Str} {body : List Stmt} {kr kr' : St → D → Prop} {ds : List D} {kn : St → Prop} (h : forU c n fx x body kr ds kn σ) : Wx c n fx σ [] (fun σ' => forU c n fx x body kr ds kn σ') kr' := Wx_nil h
theorem it_ownI {a : Addr} {ds : List D} {d : D} {i : Int} (hm : (a, AO.lst ds) ∈ σ.own) (h0 : 0 ≤ i) (h1 : i < 2 ^ 63) (hd : ds[i.toNat]? = some d) (hk : k d) : itemK σ (.raw (.ref a)) (.int i) k := ⟨ds, d, hm, .inl ⟨h0, h1, hd⟩, hk⟩
theorem it_lI {ds : List D} {d : D} {i : Int} (h0 : 0 ≤ i) (h1 : i < 2 ^ 63) (hd : ds[i.toNat]? = some d) (hk : k d) : itemK σ (.lst ds) (.int i) k := ⟨d, h0, h1, hd, hk⟩
theorem Ws_retList {x : Str} {p pos : Pos} {a : Addr} {ds : List D} {post : Own} {kn : St → Prop} {kr : St → D → Prop} (hv : σ.vars.lookup x = some (.raw (.ref a))) (ho : σ.own = (a, .lst ds) :: post) (hk : kr ⟨[(x, .lst ds)], post⟩ (.lst ds)) (hd : (x == ("__debug__" : Str)) = false := by decide) (hc : (x == ("__classdict__" : Str)) = false := by decide) :
    Ws c n fx σ (.Return (some (.Name x p)) pos) kn kr := by
  obtain ⟨vars, own⟩ := σ
  dsimp only at hv ho
  subst ho
  intro A kp im s Q E hA X q1 q2
  have hh : ∀ y d', List.lookup y [(x, D.lst ds)] = some d' → ∃ d, vars.lookup y = some d ∧ Froz a ds d d' := by
    intro y d' h
    rw [List.lookup_cons] at h
    cases e : y == x with
    | true => rw [e] at h; cases h; rw [beq_iff_eq.mp e]; exact ⟨_, hv, .inr ⟨rfl, rfl⟩⟩
    | false => rw [e] at h; simp at h
  obtain ⟨im', X', ex⟩ := X.freeze (pre := []) (vars' := [(x, .lst ds)]) (own' := post) hh (FrozO.refl a ds post)
  exact Ws_return (kr := kr) (kn := kn) (We_var (d := .lst ds) (by simp) hk hd hc) A kp im' s Q E hA X' (fun σ2 im2 h2 tk2 ex2 X2 k2 => q1 σ2 im2 h2 tk2 (ex.trans ex2) X2 k2) fun v d σ2 im2 h2 tk2 ex2 X2 r k2 => q2 v d σ2 im2 h2 tk2 (ex.trans ex2) X2 r k2
theorem Ws_freeze {st : Stmt} {kn : St → Prop} {kr : St → D → Prop} {vars : List (Str × D)} {pre post : Own} {a : Addr} {ds : List D} (vars' : List (Str × D)) (own' : Own) (hv : ∀ x d', vars'.lookup x = some d' → ∃ d, vars.lookup x = some d ∧ Froz a ds d d') (ho : FrozO a ds (pre ++ post) own')
    (h : Ws c n fx ⟨vars', own'⟩ st kn kr) : Ws c n fx ⟨vars, pre ++ (a, .lst ds) :: post⟩ st kn kr := by
  intro A kp im s Q E hA X q1 q2
  obtain ⟨im', X', ex⟩ := X.freeze hv ho
  exact h A kp im' s Q E hA X' (fun σ2 im2 h2 tk2 ex2 X2 k2 => q1 σ2 im2 h2 tk2 (ex.trans ex2) X2 k2) fun v d σ2 im2 h2 tk2 ex2 X2 r k2 => q2 v d σ2 im2 h2 tk2 (ex.trans ex2) X2 r k2
theorem Ws_assignRep {x : Str} {p lp bp pos : Pos} {e r : Expr} {kn : St → Prop} {kr : St → D → Prop} (hx : Storable fx x)
    (h : We c n fx σ e fun d => We c n fx σ r fun d2 => ∃ i : Nat, d2 = .int (i : Nat) ∧ i ≤ 1000 ∧ ∀ a, kn ⟨(x, .raw (.ref a)) :: σ.vars, (a, .lst (List.replicate i d)) :: σ.own⟩)
    (hs : swapsWith (.BinOp (.List [e] lp) .Mult r bp) (some (.Name x p)) pos.line fx.env = pure false := by rfl) (he : starEach [e] fx.env = (false, eval e fx.env) :: starEach [] fx.env := by rfl) : Ws c n fx σ (.Assign [.Name x p] (.BinOp (.List [e] lp) .Mult r bp) pos) kn kr :=
  Ws_assignOwn hx (Wf_rep (Wf_list (Wes_cons (We.mono h fun d hd => Wes_nil ⟨Nat.le_trans (Nat.le_of_ble_eq_true rfl : 1 ≤ 100000) (by decide), d, rfl, hd⟩) he))) hs
theorem Ws_to {st : Stmt} {kn : St → Prop} {kr : St → D → Prop} (vars' : List (Str × D)) (own' : Own) (hv : SubV (fun x => σ.vars.lookup x) vars') (ho : σ.own = own') (h : Ws c n fx ⟨vars', own'⟩ st kn kr) : Ws c n fx σ st kn kr := by
  subst ho
  exact fun A kp im s Q E hA X q1 q2 => h A kp im s Q E hA (X.weaken hv.lookup) q1 q2
theorem Wx_to {ss : List Stmt} {kn : St → Prop} {kr : St → D → Prop} (vars' : List (Str × D)) (own' : Own) (hv : SubV (fun x => σ.vars.lookup x) vars') (ho : σ.own = own') (h : Wx c n fx ⟨vars', own'⟩ ss kn kr) : Wx c n fx σ ss kn kr := by
  subst ho
  exact Wx_weaken vars' hv h
theorem it_last {a : Addr} {ds : List D} {d : D} (hm : (a, AO.lst (ds ++ [d])) ∈ σ.own) (hl : ds.length < 1000000) (hk : k d) : itemK σ (.raw (.ref a)) (.int (-1)) k := by
  refine ⟨_, d, hm, .inr ⟨by decide, ?_, by decide, ?_⟩, hk⟩
  · rw [lenCat]; omega
  · rw [lenCat, show (-1 + ((ds.length + 1 : Nat) : Int)).toNat = ds.length by omega]; simp
theorem i_2 {x y d : D} {r : List D} (hl : r.length < 1000) (h : k d) : itemK σ (.tup (x :: y :: d :: r)) (.int 2) k :=
  ⟨2, d, by decide, by decide, by simp [seqIndex?]; omega, rfl, h⟩
/-- xs[-1] = e -/
theorem Ws_setLast {o i e : Expr} {p pos : Pos} {kn : St → Prop} {kr : St → D → Prop}
    (h : We c n fx σ e fun d => We c n fx σ o fun d1 => We c n fx σ i fun d2 => ∃ a pre ds x post, d1 = .raw (.ref a) ∧ d2 = .int (-1) ∧ σ.own = pre ++ (a, .lst (ds ++ [x])) :: post ∧ ds.length < 1000000 ∧ kn ⟨σ.vars, pre ++ (a, .lst (ds ++ [d])) :: post⟩)
    (hs : swapsWith e (some (.Subscript o i p)) pos.line fx.env = pure false := by rfl) : Ws c n fx σ (.Assign [.Subscript o i p] e pos) kn kr := by
  refine Ws_setitem (We.mono h fun d h => We.mono h fun d1 h => We.mono h fun d2 h => ?_) hs
  obtain ⟨a, pre, ds, x, post, h1, h2, h3, h4, h5⟩ := h
  refine ⟨a, pre, _, post, -1, ds.length, h1, h2, h3, by decide, by decide, ?_, ?_, ?_⟩
  · rw [lenCat]; simp [seqIndex?]; omega
  · rw [lenCat]; omega
  · have : (ds ++ [x]).set ds.length d = ds ++ [d] := by simp
    rw [this]; exact h5
abbrev ownC (b : Addr) (C : List D) (a dx ap ab an as st : Addr) (P B N S T : List D) (co fi re we : D) (ra df : Int) : Own := (b, .lst C) :: ownF a dx ap ab an as st P B N S T co fi re we ra df
def FV (a : Addr) (ds : List D) (f : Str → Option D) : List (Str × D) → Prop
  | [] => True
  | (x, d') :: r => (∃ d, f x = some d ∧ Froz a ds d d') ∧ FV a ds f r
theorem FV.look {a : Addr} {ds : List D} {vars : List (Str × D)} : ∀ {l : List (Str × D)}, FV a ds (fun x => vars.lookup x) l → ∀ x d', l.lookup x = some d' → ∃ d, vars.lookup x = some d ∧ Froz a ds d d'
  | [], _, _, _, h => by simp at h
  | (y, e) :: r, ⟨h1, h2⟩, x, d', h => by
    rw [List.lookup_cons] at h
    cases q : x == y with
    | true => rw [q] at h; cases h; rw [beq_iff_eq.mp q]; exact h1
    | false => rw [q] at h; exact h2.look x d' h
end
abbrev objD (P B N S T C : List D) (fi re we : D) (ra df : Int) : D :=
  .obj [(Str.ofString "pivots", .lst P), (Str.ofString "bases", .lst B), (Str.ofString "norms", .lst N), (Str.ofString "shares", .lst S), (Str.ofString "steps", .lst T), (Str.ofString "coefficients", .lst C), (Str.ofString "fitted", fi), (Str.ofString "residuals", re), (Str.ofString "weights", we), (Str.ofString "rank", .int ra), (Str.ofString "df", .int df)]
section
variable {c : Cx} {n : Nat} {fx : Fx} {σ : St} {k : D → Prop}
theorem Ws_cut {st : Stmt} {rest : List Stmt} {kn : St → Prop} {kr : St → D → Prop} (vs : List (Str × D)) (o : Own) (h : Ws c n fx σ st (fun σ' => SubV (fun x => σ'.vars.lookup x) vs ∧ σ'.own = o) kr) (hr : Wx c n fx ⟨vs, o⟩ rest kn kr) :
    Ws c n fx σ st (fun σ' => Wx c n fx σ' rest kn kr) kr := by
  intro A kp im s Q E hA X q1 q2
  refine h A kp im s Q E hA X (fun σ' im' h' tk' ex X' k => q1 σ' im' h' tk' ex X' ?_) q2
  obtain ⟨h1, h2⟩ := k
  obtain ⟨vars, own⟩ := σ'
  dsimp only at h1 h2
  subst h2
  exact Wx_weaken vs h1 hr
theorem Ws_expr {x : Str} {es : List Expr} {p q pos : Pos} {kn : St → Prop} {kr : St → D → Prop} (h : We c n fx σ (.Call (.Name x p) es [] q) fun d => d = .none ∧ kn σ) (hi : interactive fx.env = false := by rfl) (hs : swapsWith (.Call (.Name x p) es [] q) none pos.line fx.env = pure false := by rfl) : Ws c n fx σ (.Expr (.Call (.Name x p) es [] q) pos) kn kr :=
  fun A kp im s Q E hA X q1 q2 => wpAny_Expr (h A kp im s _ E hA X fun v d im' h' tk' ex X' r k => by
    obtain ⟨rfl, k⟩ := k
    cases r
    exact q1 σ im' h' tk' ex X' k) hi hs
theorem nn {P : Prop} (h : P) : D.none = .none ∧ P := ⟨rfl, h⟩
theorem We_str {x : Str} {q : Nat} {pos : Pos} (h : ∀ v, k (.raw v)) : We c n fx σ (.Constant (.str x) q pos) k :=
  fun A kp im s Q E hA X hQ => wpAny_Constant_str (hQ _ _ im s.heap _ (Ext.refl _ _ _) X (.raw _) (h _))
theorem keepV {a : Addr} {ds : List D} {vars : List (Str × D)} : ∀ x d', vars.lookup x = some d' → ∃ d, vars.lookup x = some d ∧ Froz a ds d d' := fun x d' h => ⟨d', h, .inl rfl⟩
theorem oneV {a : Addr} {fs : List (Str × D)} {y : Str} : ∀ x d', List.lookup x [(y, D.obj fs)] = some d' → ∃ d, List.lookup x [(y, D.raw (.ref a))] = some d ∧ (d' = d ∨ (d = .raw (.ref a) ∧ d' = .obj fs)) := by
  intro x d' h
  rw [List.lookup_cons] at h ⊢
  cases e : x == y with
  | true => rw [e] at h; cases h; exact ⟨_, rfl, .inr ⟨rfl, rfl⟩⟩
  | false => rw [e] at h; simp at h
theorem Ws_freezeObj {st : Stmt} {kn : St → Prop} {kr : St → D → Prop} {vars : List (Str × D)} {pre post : Own} {a dx : Addr} {fs : List (Str × D)} (vars' : List (Str × D)) (hv : ∀ x d', vars'.lookup x = some d' → ∃ d, vars.lookup x = some d ∧ (d' = d ∨ (d = .raw (.ref a) ∧ d' = .obj fs)))
    (h : Ws c n fx ⟨vars', pre ++ post⟩ st kn kr) : Ws c n fx ⟨vars, pre ++ (a, .obj dx fs) :: post⟩ st kn kr := by
  intro A kp im s Q E hA X q1 q2
  obtain ⟨im', X', ex⟩ := X.freezeObj hv
  exact h A kp im' s Q E hA X' (fun σ2 im2 h2 tk2 ex2 X2 k2 => q1 σ2 im2 h2 tk2 (ex.trans ex2) X2 k2) fun v d σ2 im2 h2 tk2 ex2 X2 r k2 => q2 v d σ2 im2 h2 tk2 (ex.trans ex2) X2 r k2
local macro_rules | `(tactic| walk_at "fro2") => `(tactic| (repeat first | exact FrozO.nil | (refine FrozO.cons (o := .lst _) (o' := .lst _) (Frozs.refl _ _ _) ?_) | (refine FrozO.cons (o := .obj _ _) (o' := .obj _ _) ⟨rfl, ?_⟩ ?_; (repeat first | exact Frozf.nil | refine Frozf.cons (Or.inl rfl) ?_ | refine Frozf.cons (Or.inr ⟨rfl, rfl⟩) ?_))))
theorem Ws_retFit {x : Str} {p pos : Pos} {kn : St → Prop} {kr : St → D → Prop} {b a dx ap ab an as st : Addr} {P B N S T C : List D} {fi re we : D} {ra df : Int} (hv : σ.vars.lookup x = some (.raw (.ref a))) (ho : σ.own = [(b, .lst C), (st, .lst T), (a, .obj dx [(Str.ofString "pivots", .raw (.ref ap)), (Str.ofString "bases", .raw (.ref ab)), (Str.ofString "norms", .raw (.ref an)), (Str.ofString "shares", .raw (.ref as)), (Str.ofString "steps", .raw (.ref st)), (Str.ofString "coefficients", .raw (.ref b)), (Str.ofString "fitted", fi), (Str.ofString "residuals", re), (Str.ofString "weights", we), (Str.ofString "rank", .int ra), (Str.ofString "df", .int df)]), (as, .lst S), (an, .lst N), (ab, .lst B), (ap, .lst P)])
    (hk : kr ⟨[(x, objD P B N S T C fi re we ra df)], []⟩ (objD P B N S T C fi re we ra df)) (hd : (x == ("__debug__" : Str)) = false := by decide) (hc : (x == ("__classdict__" : Str)) = false := by decide) : Ws c n fx σ (.Return (some (.Name x p)) pos) kn kr := by
  refine Ws_to [(x, .raw (.ref a))] _ ⟨hv, trivial⟩ ho ?_
  refine Ws_freeze (pre := []) (a := b) [(x, .raw (.ref a))] [(st, .lst T), (a, .obj dx [(Str.ofString "pivots", .raw (.ref ap)), (Str.ofString "bases", .raw (.ref ab)), (Str.ofString "norms", .raw (.ref an)), (Str.ofString "shares", .raw (.ref as)), (Str.ofString "steps", .raw (.ref st)), (Str.ofString "coefficients", .lst C), (Str.ofString "fitted", fi), (Str.ofString "residuals", re), (Str.ofString "weights", we), (Str.ofString "rank", .int ra), (Str.ofString "df", .int df)]), (as, .lst S), (an, .lst N), (ab, .lst B), (ap, .lst P)] keepV (by walk_at "fro2") ?_
  refine Ws_freeze (pre := []) (a := st) [(x, .raw (.ref a))] [(a, .obj dx [(Str.ofString "pivots", .raw (.ref ap)), (Str.ofString "bases", .raw (.ref ab)), (Str.ofString "norms", .raw (.ref an)), (Str.ofString "shares", .raw (.ref as)), (Str.ofString "steps", .lst T), (Str.ofString "coefficients", .lst C), (Str.ofString "fitted", fi), (Str.ofString "residuals", re), (Str.ofString "weights", we), (Str.ofString "rank", .int ra), (Str.ofString "df", .int df)]), (as, .lst S), (an, .lst N), (ab, .lst B), (ap, .lst P)] keepV (by walk_at "fro2") ?_
  refine Ws_freeze (pre := [_]) (a := as) [(x, .raw (.ref a))] [(a, .obj dx [(Str.ofString "pivots", .raw (.ref ap)), (Str.ofString "bases", .raw (.ref ab)), (Str.ofString "norms", .raw (.ref an)), (Str.ofString "shares", .lst S), (Str.ofString "steps", .lst T), (Str.ofString "coefficients", .lst C), (Str.ofString "fitted", fi), (Str.ofString "residuals", re), (Str.ofString "weights", we), (Str.ofString "rank", .int ra), (Str.ofString "df", .int df)]), (an, .lst N), (ab, .lst B), (ap, .lst P)] keepV (by walk_at "fro2") ?_
  refine Ws_freeze (pre := [_]) (a := an) [(x, .raw (.ref a))] [(a, .obj dx [(Str.ofString "pivots", .raw (.ref ap)), (Str.ofString "bases", .raw (.ref ab)), (Str.ofString "norms", .lst N), (Str.ofString "shares", .lst S), (Str.ofString "steps", .lst T), (Str.ofString "coefficients", .lst C), (Str.ofString "fitted", fi), (Str.ofString "residuals", re), (Str.ofString "weights", we), (Str.ofString "rank", .int ra), (Str.ofString "df", .int df)]), (ab, .lst B), (ap, .lst P)] keepV (by walk_at "fro2") ?_
  refine Ws_freeze (pre := [_]) (a := ab) [(x, .raw (.ref a))] [(a, .obj dx [(Str.ofString "pivots", .raw (.ref ap)), (Str.ofString "bases", .lst B), (Str.ofString "norms", .lst N), (Str.ofString "shares", .lst S), (Str.ofString "steps", .lst T), (Str.ofString "coefficients", .lst C), (Str.ofString "fitted", fi), (Str.ofString "residuals", re), (Str.ofString "weights", we), (Str.ofString "rank", .int ra), (Str.ofString "df", .int df)]), (ap, .lst P)] keepV (by walk_at "fro2") ?_
  refine Ws_freeze (pre := [_]) (a := ap) [(x, .raw (.ref a))] [(a, .obj dx [(Str.ofString "pivots", .lst P), (Str.ofString "bases", .lst B), (Str.ofString "norms", .lst N), (Str.ofString "shares", .lst S), (Str.ofString "steps", .lst T), (Str.ofString "coefficients", .lst C), (Str.ofString "fitted", fi), (Str.ofString "residuals", re), (Str.ofString "weights", we), (Str.ofString "rank", .int ra), (Str.ofString "df", .int df)])] keepV (by walk_at "fro2") ?_
  refine Ws_freezeObj (pre := []) (post := []) [(x, .obj _)] oneV ?_
  exact Ws_return (We_var (by simp) hk hd hc)
end
section
variable {c : Cx} {n : Nat} {fx : Fx} {σ : St} {k : D → Prop}
theorem nt_ite {a b : Prop} (h : b) : if (false || false) = true then a else b := by simpa using h
/-- x[:3] of four, whatever they are -/
theorem We_slice3x {e : Expr} {q : Nat} {pp p pos : Pos} (h : We c n fx σ e fun d => ∃ d0 d1 d2 d3, d = .lst [d0, d1, d2, d3] ∧ k (.lst [d0, d1, d2])) :
    We c n fx σ (.Subscript e (.Slice none (some (.Constant (.int 3) q pp)) none p) pos) k := by
  intro A kp im s Q E hA X hQ
  refine Subscript_ (h A kp im s _ E hA X fun v1 dd im1 h1 tk1 ex1 X1 r1 k1 => ?_)
  obtain ⟨d0, d1, d2, d3, rfl, kk⟩ := k1
  refine wpAny_Slice (wpAny_evalPart_none (wpAny_evalPart_some (wpAny_Constant_int ?_)))
  rw [evalPart_none]
  refine wpAny_pure ?_
  cases r1 with
  | lst e f g qq =>
    rename_i a o vs m
    obtain ⟨v0, v1, v2, v3, rfl, r0, r1, r2, r3⟩ := qq.l4
    · skip
      have hl : h1.IsList a #[v0, v1, v2, v3] := ⟨o, X1.hg.iin _ _ e, f, m, g⟩
      refine tail_any (hl.push _).typeIs slot_list_getitem.lookup (ops := [.ref h1.objs.size, .ref a]) (wpAny_getItem_list_slice (hl.push _) (Heap.IsSliceOf.new ..) .none (.int _ _) .none (by simp) ?_ (by show (4 : Nat) ≤ sizeLine; decide)) rfl
      have ee : slicePick #[v0, v1, v2, v3] none (some 3) none = #[v0, v1, v2] := by rfl
      rw [ee]
      have X2 := X1.push0 { cls := .type "slice", data := .fields #[.none, .int 3 tk1, .none] }
      have X3 := X2.push (lo [v0, v1, v2] 0) rfl
      have := hQ (.ref (h1.push { cls := .type "slice", data := .fields #[.none, .int 3 tk1, .none] }).objs.size) (.lst [d0, d1, d2]) _ _ (tk1 + 1) (ex1.trans ((Ext.push0 (h := h1) kp { cls := .type "slice", data := .fields #[.none, .int 3 tk1, .none] }).trans (X2.ext_push (lo [v0, v1, v2] 0)))) X3 ?_ kk
      · exact this
      · have le := (X2.ext_push (lo [v0, v1, v2] 0)).le
        exact .lst (o := lo [v0, v1, v2] 0) (n := 0) (Im.put_self _ _ _) rfl rfl (.cons (r0.mono le) (.cons (r1.mono le) (.cons (r2.mono le) .nil)))
theorem s3 {a b d e : D} {P : D → D → D → Prop} (h : P a b d) : ∃ d0 d1 d2 d3, D.lst [a, b, d, e] = .lst [d0, d1, d2, d3] ∧ P d0 d1 d2 := ⟨a, b, d, e, rfl, h⟩
end
local macro_rules | `(tactic| walk_at "mem") => `(tactic| (first | exact List.Mem.head _ | exact List.Mem.tail _ (List.Mem.head _) | exact List.Mem.tail _ (List.Mem.tail _ (List.Mem.head _)) | exact List.Mem.tail _ (List.Mem.tail _ (List.Mem.tail _ (List.Mem.head _))) | exact List.Mem.tail _ (List.Mem.tail _ (List.Mem.tail _ (List.Mem.tail _ (List.Mem.head _)))) | exact List.Mem.tail _ (List.Mem.tail _ (List.Mem.tail _ (List.Mem.tail _ (List.Mem.tail _ (List.Mem.head _))))) | exact List.Mem.tail _ (List.Mem.tail _ (List.Mem.tail _ (List.Mem.tail _ (List.Mem.tail _ (List.Mem.tail _ (List.Mem.head _)))))) | exact List.Mem.tail _ (List.Mem.tail _ (List.Mem.tail _ (List.Mem.tail _ (List.Mem.tail _ (List.Mem.tail _ (List.Mem.tail _ (List.Mem.head _))))))) | exact List.Mem.tail _ (List.Mem.tail _ (List.Mem.tail _ (List.Mem.tail _ (List.Mem.tail _ (List.Mem.tail _ (List.Mem.tail _ (List.Mem.tail _ (List.Mem.head _))))))))))
local macro_rules | `(tactic| walk_at "sub") => `(tactic| ((repeat (refine And.intro rfl ?_)); exact trivial))
local macro_rules | `(tactic| walk_at "for") => `(tactic| ((case hx => exact Or.inl rfl); (case h0 => walk_at "sub"); (case ho => rfl); (case hn => intro i; rfl); (case hs => intro _; rfl); (try (case hm => omega))))
local macro_rules | `(tactic| walk_at "turned") => `(tactic| (refine Wx_nil ⟨?_, rfl⟩; walk_at "sub"))
local macro_rules | `(tactic| walk_at "sa") => `(tactic| ((refine Ws_setattr (by with_unfolding_all decide) ?_); (repeat walk_at "ee"); (first | refine ⟨_, _, [], _, _, rfl, rfl, Nat.le_of_ble_eq_true rfl, ?_⟩ | refine ⟨_, _, [_], _, _, rfl, rfl, Nat.le_of_ble_eq_true rfl, ?_⟩ | refine ⟨_, _, [_, _], _, _, rfl, rfl, Nat.le_of_ble_eq_true rfl, ?_⟩)))
local macro_rules | `(tactic| walk_at "ap") => `(tactic| ((refine Ws_append ?_); (repeat walk_at "ee"); (refine ⟨_, rfl, ⟨_, by walk_at "mem"⟩, ?_⟩); (repeat walk_at "ee"); (first | refine ⟨[], _, _, rfl, ?lt, ?_⟩ | refine ⟨[_], _, _, rfl, ?lt, ?_⟩ | refine ⟨[_, _], _, _, rfl, ?lt, ?_⟩ | refine ⟨[_, _, _], _, _, rfl, ?lt, ?_⟩ | refine ⟨[_, _, _, _], _, _, rfl, ?lt, ?_⟩ | refine ⟨[_, _, _, _, _], _, _, rfl, ?lt, ?_⟩ | refine ⟨[_, _, _, _, _, _], _, _, rfl, ?lt, ?_⟩); (case lt => first | exact Nat.le_of_ble_eq_true rfl | (rw [VL_len]; omega) | (refine lt_eq (lenCat _ _) ?_; omega) | (refine lt_eq (Ls_len _ _) ?_; omega) | (refine lt_eq List.length_nil ?_; omega))))
local macro_rules | `(tactic| walk_at "fv") => `(tactic| (refine FV.look ?_; (repeat first | exact trivial | (refine And.intro ⟨_, rfl, Or.inl rfl⟩ ?_) | (refine And.intro ⟨_, rfl, Or.inr ⟨rfl, rfl⟩⟩ ?_))))
local macro_rules | `(tactic| walk_at "si") => `(tactic| ((refine Ws_setitem ?_); (repeat walk_at "ee"); (first | refine ⟨_, [], _, _, _, _, rfl, rfl, rfl, by decide, by decide, rfl, Nat.le_of_ble_eq_true rfl, ?_⟩ | refine ⟨_, [_], _, _, _, _, rfl, rfl, rfl, by decide, by decide, rfl, Nat.le_of_ble_eq_true rfl, ?_⟩ | refine ⟨_, [_, _], _, _, _, _, rfl, rfl, rfl, by decide, by decide, rfl, Nat.le_of_ble_eq_true rfl, ?_⟩ | refine ⟨_, [_, _, _], _, _, _, _, rfl, rfl, rfl, by decide, by decide, rfl, Nat.le_of_ble_eq_true rfl, ?_⟩)))
local macro_rules | `(tactic| walk_at "fro") => `(tactic| (repeat first | exact FrozO.nil | refine FrozO.cons (o' := .lst _) (show Frozs _ _ _ _ from (by repeat first | exact Frozs.nil | refine Frozs.cons (Or.inr ⟨rfl, rfl⟩) ?_ | refine Frozs.cons (Or.inl rfl) ?_)) ?_))
local macro_rules | `(tactic| walk_at "froz") => `(tactic| (repeat first | exact Frozf.nil | refine Frozf.cons (Or.inl rfl) ?_ | refine Frozf.cons (Or.inr ⟨rfl, rfl⟩) ?_))
local macro_rules | `(tactic| walk_at "comp") => `(tactic| ((case hsc => with_unfolding_all exact rfl); (case hx => intro C; exact Or.inl rfl); (case hv => exact ⟨rfl, rfl, Or.inl rfl, rfl, rfl, Or.inl rfl, trivial⟩); (case hxn => with_unfolding_all exact rfl); (case hs => intro _; rfl)))
local macro_rules | `(tactic| walk_at "subc") => `(tactic| ((repeat (refine ⟨rfl, rfl, ?_, ?_⟩; first | exact Or.inl rfl | exact Or.inr rfl)); exact trivial))
local macro_rules | `(tactic| walk_at "in1") => `(tactic| ((case ho => rw [‹KC _›]; with_unfolding_all exact rfl); (case hcd => rw [‹KC _›]; with_unfolding_all exact rfl); (case hb => intro _; with_unfolding_all exact rfl); (case hsc => with_unfolding_all exact rfl); intro L))
local macro_rules | `(tactic| walk_at "in2") => `(tactic| ((case ho => rw [‹KC _›]; with_unfolding_all exact rfl); (case hcd => rw [‹KC _›]; with_unfolding_all exact rfl); (case hb => intro _ _; with_unfolding_all exact rfl); (case hsc => with_unfolding_all exact rfl); intro L))
local macro_rules | `(tactic| walk_at "in3") => `(tactic| ((case ho => rw [‹KC _›]; with_unfolding_all exact rfl); (case hcd => rw [‹KC _›]; with_unfolding_all exact rfl); (case hb => intro _ _ _; with_unfolding_all exact rfl); (case hsc => with_unfolding_all exact rfl); intro L))
local macro_rules | `(tactic| walk_at "in4") => `(tactic| ((case ho => rw [‹KC _›]; with_unfolding_all exact rfl); (case hcd => rw [‹KC _›]; with_unfolding_all exact rfl); (case hb => intro _ _ _ _; with_unfolding_all exact rfl); (case hsc => with_unfolding_all exact rfl); intro L))
local macro_rules | `(tactic| walk_at "eb") => `(tactic| first
  | ((with_reducible refine' Ws_assignNil ?h1 ?_ ?h2); (case h1 => exact Or.inl rfl); (case h2 => rfl))
  | ((with_reducible refine' We_nilList ?_))
  | ((with_reducible refine' We_zero ‹KC _› ?h1 ?h2 ?_ ?h3); (case h1 => rfl); (case h2 => rfl); (case h3 => decide))
  | ((with_reducible refine' We_one ‹KC _› ?h1 ?h2 ?_ ?h3); (case h1 => rfl); (case h2 => rfl); (case h3 => decide))
  | ((with_reducible refine' We_copy ‹KC _› ?h2 ?_ ?h3 ?h4); (case h2 => rfl); (case h3 => rfl); (case h4 => rfl))
  | ((with_reducible refine' cp_l ?h1 ?h2 ?_); (case h1 => first | exact rfl | walk_at "mem"); (case h2 => first | (rw [VL_len]; omega) | (rw [Ls_len]; omega) | omega | exact Nat.le_of_ble_eq_true rfl))
  | ((with_reducible refine' We_var ?h1 ?_ ?h2 ?h3); (case h1 => rfl); (case h2 => decide); (case h3 => decide))
  | ((with_reducible refine' We_int ?_))
  | ((with_reducible refine' We_none ?_))
  | ((with_reducible refine' We_bool ?_))
  | ((with_reducible refine' We_bin ?_))
  | ((with_reducible refine' We_item ?_ ?h1); (case h1 => intro _ _; rfl))
  | ((with_reducible refine' We_tuple ?_))
  | ((with_reducible refine' Wes_cons ?_ ?h1); (case h1 => rfl))
  | ((with_reducible refine' Wes_nil ?_))
  | ((with_reducible refine' Wt_cmp ?_ ?h1); (case h1 => with_unfolding_all rfl))
  | ((with_reducible refine' We_cmp ?_ ?h1); (case h1 => with_unfolding_all rfl))
  | ((with_reducible refine' Wt_boolop ?_))
  | ((with_reducible refine' Wta_or ?_))
  | ((with_reducible refine' Wta_and ?_))
  | ((with_reducible refine' Wta_or_nil ?_))
  | ((with_reducible refine' Wta_and_nil ?_))
  | ((with_reducible refine' Wt_not ?_))
  | ((with_reducible refine' We_or2 ?_))
  | ((with_reducible refine' We_and2 ?_))
  | ((with_reducible refine' We_ifexp ?_))
  | ((with_reducible refine' Wx_cons ?_))
  | ((with_reducible refine' Wx_nil2 ?_))
  | ((with_reducible refine' Ws_if ?_))
  | ((with_reducible refine' Ws_assign ?h1 ?_ ?h2); (case h1 => first | exact Or.inl rfl | exact Or.inr ⟨rfl, _, rfl, by walk_at "mem"⟩); (case h2 => rfl))
  | ((with_reducible refine' if_t ?_))
  | ((with_reducible refine' if_f ?_))
  | ((with_reducible refine' b_add ?_))
  | ((with_reducible refine' b_sub ?_))
  | ((with_reducible refine' i_0 ?h1 ?_); (case h1 => exact Nat.le_of_ble_eq_true rfl))
  | ((with_reducible refine' i_1 ?h1 ?_); (case h1 => exact Nat.le_of_ble_eq_true rfl))
  | ((with_reducible refine' ex_b ?_))
  | ((with_reducible refine' c_is_f ?h1 ?_); (case h1 => rfl))
  | ((with_reducible refine' c_is_t ?_))
  | ((with_reducible refine' c_isn_t ?h1 ?_); (case h1 => rfl))
  | ((with_reducible refine' c_isn_f ?_))
  | ((with_reducible refine' c_eq_f ?h1 ?_); (case h1 => omega))
  | ((with_reducible refine' c_eq_t ?h1 ?_); (case h1 => omega))
  | ((with_reducible refine' c_ne_f ?h1 ?_); (case h1 => omega))
  | ((with_reducible refine' c_ne_t ?h1 ?_); (case h1 => omega))
  | ((with_reducible refine' c_lt_t ?h1 ?_); (case h1 => omega))
  | ((with_reducible refine' c_lt_f ?h1 ?_); (case h1 => omega))
  | ((with_reducible refine' c_gt_t ?h1 ?_); (case h1 => omega))
  | ((with_reducible refine' c_gt_f ?h1 ?_); (case h1 => omega))
  | ((with_reducible refine' We_abs ‹KC _› ?h2 ?_ ?h3 ?h4); (case h2 => rfl); (case h3 => rfl); (case h4 => rfl))
  | ((with_reducible refine' We_range1 ‹KC _› ?h2 ?_ ?h3 ?h4); (case h2 => rfl); (case h3 => rfl); (case h4 => rfl))
  | ((with_reducible refine' We_range2 ‹KC _› ?h2 ?_ ?h3 ?h4 ?h5 ?h6); (case h2 => rfl); (case h3 => rfl); (case h4 => rfl); (case h5 => rfl); (case h6 => rfl))
  | ((with_reducible refine' We_range3 ‹KC _› ?h2 ?_ ?h3 ?h4 ?h5 ?h6 ?h7); (case h2 => rfl); (case h3 => rfl); (case h4 => rfl); (case h5 => rfl); (case h6 => rfl); (case h7 => rfl))
  | ((with_reducible refine' We_fn ‹KC _› _ ?h1 ?h2 ?_ ?h3 ?h4 ?h5); (case h1 => rfl); (case h2 => rfl); (case h3 => rfl); (case h4 => rfl); (case h5 => decide))
  | ((with_reducible refine' We_const ‹KC _› _ _ ?h1 ?h2 ?_ ?h3); (case h1 => rfl); (case h2 => rfl); (case h3 => decide))
  | ((with_reducible refine' and_k (a := List.length _ ≤ _) ?h1 ?_); (case h1 => exact Nat.le_of_ble_eq_true rfl))
  | ((with_reducible refine' We_attr ?h1 ?_); (case h1 => with_unfolding_all decide))
  | ((with_reducible refine' if_nt ?_))
  | ((with_reducible refine' if_nf ?_))
  | ((with_reducible refine' We_len2 ‹KC _› ?h2 ?_ ?h3 ?h4); (case h2 => rfl); (case h3 => rfl); (case h4 => rfl))
  | ((with_reducible refine' len_v ?h1 ?h2 ?_); (case h1 => first | exact lenv | exact lenL | (refine' len_own ?m1 ?m2; (case m1 => walk_at "mem"); (case m2 => first | exact Ls_len _ _ | exact VL_len _ _ | exact List.length_nil | exact lenCat _ _ | rfl)) | assumption); (case h2 => first | assumption | omega))
  | ((with_reducible refine' ex_i ?_))
  | ((with_reducible refine' it_vec ?h1 ?h2 ?_); (case h1 => first | assumption | omega); (case h2 => first | assumption | omega))
  | ((with_reducible refine' ex_i2 ?_))
  | ((with_reducible refine' at_own ?h1 ?h2 ?h3 ?_); (case h1 => walk_at "mem"); (case h2 => rfl); (case h3 => first | trivial | exact wD_handed _ _))
  | ((with_reducible refine' at_obj ?h2 ?h3 ?_); (case h2 => rfl); (case h3 => first | trivial | exact wD_handed _ _))
  | ((with_reducible refine' it_own ?h1 ?h2 ?h3 ?_); (case h1 => walk_at "mem"); (case h2 => first | exact Ls_get (by assumption) | exact VL_get (by assumption) | exact Ls_get (by omega) | exact VL_get (by omega)); (case h3 => first | assumption | omega))
  | ((with_reducible refine' it_l ?h1 ?h2 ?_); (case h1 => first | exact Ls_get (by assumption) | exact VL_get (by assumption) | exact Ls_get (by omega) | exact VL_get (by omega)); (case h2 => first | assumption | omega))
  | ((with_reducible refine' Wt_val ?_ ?h1); (case h1 => rfl)))
local macro_rules | `(tactic| walk_at "er") => `(tactic| first | walk_at "eb" | ((with_reducible refine' Ws_return ?_)))
section
variable {c : Cx} {n : Nat} {k : D → Prop}
set_option maxHeartbeats 2000000
theorem f_neg (hK : KC c) {q : Rat} (hk : k (ratD (-q))) : Fc c (n + 5) 89 [ratD q] k := by
  refine' Fc1 (Str.ofString "x") ?ho ?hcd ?hsc ?hb ?h
  walk_at "in1"
  repeat walk_at "er"
  have e : ratD (-q) = .tup [.int (0 - q.num), .int q.den] := by simp [ratD, Rat.neg_num, Rat.neg_den]
  rw [e] at hk
  exact hk
theorem f_is_na (hK : KC c) {q : Rat} (hk : k (.bool false)) : Fc c (n + 5) 68 [ratD q] k := by
  have hq := den_pos q
  refine' Fc1 (Str.ofString "x") ?ho ?hcd ?hsc ?hb ?h
  walk_at "in1"
  by_cases h0 : q.num = 0
  · repeat walk_at "er"
    exact hk
  · repeat walk_at "er"
    exact hk
theorem f_is_finite (hK : KC c) {q : Rat} (hk : k (.bool true)) : Fc c (n + 5) 75 [ratD q] k := by
  have hq := den_pos q
  refine' Fc1 (Str.ofString "x") ?ho ?hcd ?hsc ?hb ?h
  walk_at "in1"
  repeat walk_at "er"
  exact hk
theorem f_gcd (hK : KC c) {a b : Int} (ha : 0 ≤ a) (hb : 0 ≤ b) (hk : k (.int (Int.gcd a b))) : Fc c (n + 5) 54 [.int a, .int b] k := by
  refine' Fc2 (Str.ofString "a") (Str.ofString "b") ?ho ?hcd ?hsc ?hb ?h
  walk_at "in2"
  refine Wx_cons (Ws_while (fun m σ' => ∃ x y : Int, 0 ≤ x ∧ 0 ≤ y ∧ Int.gcd x y = Int.gcd a b ∧ m = y.toNat ∧ σ' = ⟨[(Str.ofString "a", .int x), (Str.ofString "b", .int y)], []⟩) b.toNat ⟨a, b, ha, hb, rfl, rfl, rfl⟩ ?_)
  rintro m σ' ⟨x, y, hx, hy, hg, rfl, rfl⟩
  by_cases h0 : y > 0
  · repeat walk_at "er"
    refine Ws_swap2 (.inl rfl) (.inl rfl) ?_
    repeat walk_at "er"
    refine b_mod (by omega) ?_
    repeat walk_at "er"
    refine ⟨_, _, rfl, ?_⟩
    refine Wx_end [(Str.ofString "a", .int y), (Str.ofString "b", .int (x.fmod y))] ⟨rfl, rfl, trivial⟩ ⟨(x.fmod y).toNat, ?_, y, x.fmod y, hy, ?_, ?_, rfl, rfl⟩
    · have h1 := Int.fmod_lt_of_pos x h0
      have h2 := Int.fmod_nonneg_of_pos x h0
      omega
    · exact Int.fmod_nonneg_of_pos x h0
    · rw [← hg, Int.fmod_eq_emod_of_nonneg _ hy]
      obtain ⟨x, rfl⟩ := Int.eq_ofNat_of_zero_le hx
      obtain ⟨y, rfl⟩ := Int.eq_ofNat_of_zero_le hy
      show Nat.gcd y (x % y) = Nat.gcd x y
      rw [Nat.gcd_comm x y, Nat.gcd_rec y x, Nat.gcd_comm]
  · repeat walk_at "er"
    have : y = 0 := by omega
    subst this
    have e : ((Int.gcd a b : Nat) : Int) = x := by rw [← hg]; simp [Int.gcd]; omega
    rw [← e]; exact hk
theorem divInt_parts {a b : Int} (hb : 0 < b) : ratD (Rat.divInt a b) = .tup [.int (a.fdiv (Int.gcd (if a < 0 then -a else a) b : Nat)), .int (b.fdiv (Int.gcd (if a < 0 then -a else a) b : Nat))] := by
  have hg : Int.gcd (if a < 0 then -a else a) b = Int.gcd b a := by
    split
    · rw [Int.gcd_comm]; simp
    · rw [Int.gcd_comm]
  have hn : (0 : Int) ≤ (Int.gcd b a : Nat) := Int.natCast_nonneg _
  rw [hg, Int.fdiv_eq_ediv_of_nonneg _ hn, Int.fdiv_eq_ediv_of_nonneg _ hn]
  unfold ratD
  rw [Rat.num_divInt, Rat.den_divInt, Int.sign_eq_one_of_pos hb, if_neg (Int.ne_of_gt hb), Int.one_mul]
  congr 3
  rw [Int.natCast_ediv, Int.natAbs_of_nonneg (Int.le_of_lt hb)]
theorem f_make (hK : KC c) {a b : Int} (hb : b ≠ 0) (sa : Sz 9000 a) (sb : Sz 9000 b) (hk : k (ratD (Rat.divInt a b))) : Fc c (n + 6) 61 [.int a, .int b] k := by
  refine' Fc2 (Str.ofString "n") (Str.ofString "d") ?ho ?hcd ?hsc ?hb ?h
  walk_at "in2"
  have tail : ∀ {x y : Int} {a b : Int}, 0 < y → Sz 9000 y → Rat.divInt x y = Rat.divInt a b → k (ratD (Rat.divInt a b)) → ∀ g : Int, g = ((Int.gcd (if x < 0 then -x else x) y : Nat) : Int) → g ≠ 0 ∧ Builtin.divisionGoesByPylong x g = false ∧ Builtin.divisionGoesByPylong y g = false ∧ k (.tup [.int (x.fdiv g), .int (y.fdiv g)]) := by
    intro x y a b hy sy e hk g hg
    subst hg
    have hle : Int.gcd (if x < 0 then -x else x) y ≤ y.natAbs := Int.gcd_le_natAbs_right _ (by omega)
    have sg : Sz 9000 ((Int.gcd (if x < 0 then -x else x) y : Nat) : Int) := Nat.lt_of_le_of_lt (by simpa using hle) sy
    refine ⟨?_, noPy sg (by decide) (by decide), noPy sg (by decide) (by decide), ?_⟩
    · have : Int.gcd (if x < 0 then -x else x) y ≠ 0 := fun q => by rw [Int.gcd_eq_zero_iff] at q; omega
      omega
    · rw [← e, divInt_parts hy] at hk; exact hk
  rcases Int.lt_or_gt_of_ne hb with h | h
  · repeat walk_at "er"
    have z := tail (x := 0 - a) (y := 0 - b) (a := a) (b := b) (by omega) (by rw [Int.zero_sub]; exact sb.neg) (by rw [Int.zero_sub, Int.zero_sub]; exact divInt_neg2 a b) hk _ rfl
    refine f_gcd hK ?_ ?_ ?_
    · split <;> omega
    · omega
    repeat walk_at "er"
    refine b_div z.1 z.2.1 ?_
    repeat walk_at "er"
    refine b_div z.1 z.2.2.1 ?_
    repeat walk_at "er"
    exact z.2.2.2
  · repeat walk_at "er"
    have z := tail (x := a) (y := b) (a := a) (b := b) (by omega) sb rfl hk _ rfl
    refine f_gcd hK ?_ ?_ ?_
    · split <;> omega
    · omega
    repeat walk_at "er"
    refine b_div z.1 z.2.1 ?_
    repeat walk_at "er"
    refine b_div z.1 z.2.2.1 ?_
    repeat walk_at "er"
    exact z.2.2.2
end
local macro_rules | `(tactic| walk_at "es") => `(tactic| first
  | ((with_reducible refine' b_mul ?h1 ?_); (case h1 => exact mulOk (k := 4000) (l := 4000) (by assumption) (by assumption) (by decide) (by decide) (by decide)))
  | ((with_reducible refine' f_is_na ‹KC _› ?_))
  | ((with_reducible refine' f_is_finite ‹KC _› ?_))
  | ((with_reducible refine' f_neg ‹KC _› ?_)))
local macro_rules | `(tactic| walk_at "e1") => `(tactic| first | walk_at "eb" | walk_at "es" | ((with_reducible refine' Ws_return ?_)))
section
variable {c : Cx} {n : Nat} {k : D → Prop}
set_option maxHeartbeats 2000000
theorem f_add (hK : KC c) {p q : Rat} (hp : Bd p) (hq : Bd q) (hk : k (ratD (p + q))) : Fc c (n + 7) 96 [ratD p, ratD q] k := by
  have d1 := den_pos p
  have d2 := den_pos q
  obtain ⟨s1, s2⟩ := hp
  obtain ⟨s3, s4⟩ := hq
  refine' Fc2 (Str.ofString "x") (Str.ofString "y") ?ho ?hcd ?hsc ?hb ?h
  walk_at "in2"
  repeat walk_at "e1"
  refine f_make hK ?_ ?_ ?_ ?_
  · exact Int.ne_of_gt (Int.mul_pos d1 d2)
  · exact ((s1.mul s4).add (s3.mul s2)).mono (by decide)
  · exact (s2.mul s4).mono (by decide)
  · rw [add_eq]; exact hk
theorem f_sub (hK : KC c) {p q : Rat} (hp : Bd p) (hq : Bd q) (hk : k (ratD (p - q))) : Fc c (n + 8) 103 [ratD p, ratD q] k := by
  have hq' : Bd (-q) := ⟨by rw [Rat.neg_num]; exact hq.1.neg, by rw [Rat.neg_den]; exact hq.2⟩
  refine' Fc2 (Str.ofString "x") (Str.ofString "y") ?ho ?hcd ?hsc ?hb ?h
  walk_at "in2"
  repeat walk_at "e1"
  refine f_add hK hp hq' ?_
  rw [← Rat.sub_eq_add_neg]; exact hk
theorem f_mul (hK : KC c) {p q : Rat} (hp : Bd p) (hq : Bd q) (hk : k (ratD (p * q))) : Fc c (n + 7) 110 [ratD p, ratD q] k := by
  have d1 := den_pos p
  have d2 := den_pos q
  obtain ⟨s1, s2⟩ := hp
  obtain ⟨s3, s4⟩ := hq
  refine' Fc2 (Str.ofString "x") (Str.ofString "y") ?ho ?hcd ?hsc ?hb ?h
  walk_at "in2"
  repeat walk_at "e1"
  refine f_make hK ?_ ?_ ?_ ?_
  · exact Int.ne_of_gt (Int.mul_pos d1 d2)
  · exact (s1.mul s3).mono (by decide)
  · exact (s2.mul s4).mono (by decide)
  · rw [mul_eq]; exact hk
theorem f_div (hK : KC c) {p q : Rat} (hp : Bd p) (hq : Bd q) (h0 : q ≠ 0) (hk : k (ratD (p / q))) : Fc c (n + 7) 117 [ratD p, ratD q] k := by
  have d1 := den_pos p
  have d2 := den_pos q
  have h1 : q.num ≠ 0 := fun e => h0 (Rat.num_eq_zero.mp e)
  obtain ⟨s1, s2⟩ := hp
  obtain ⟨s3, s4⟩ := hq
  refine' Fc2 (Str.ofString "x") (Str.ofString "y") ?ho ?hcd ?hsc ?hb ?h
  walk_at "in2"
  repeat walk_at "e1"
  refine f_make hK ?_ ?_ ?_ ?_
  · exact Int.mul_ne_zero (Int.ne_of_gt d1) h1
  · exact (s1.mul s4).mono (by decide)
  · exact (s2.mul s3).mono (by decide)
  · rw [div_eq _ _ h0]; exact hk
end
local macro_rules | `(tactic| walk_at "eu") => `(tactic| first
  | ((with_reducible refine' We_neg ?_))
  | ((with_reducible refine' We_max ‹KC _› ?h2 ?_ ?h3 ?h4 ?h5 ?h6); (case h2 => rfl); (case h3 => rfl); (case h4 => rfl); (case h5 => rfl); (case h6 => rfl))
  | ((with_reducible refine' it_last ?h1 ?h2 ?_); (case h1 => walk_at "mem"); (case h2 => first | assumption | omega))
  | ((with_reducible refine' i_2 ?h1 ?_); (case h1 => exact Nat.le_of_ble_eq_true rfl))
  | ((with_reducible refine' forU_cons ?_))
  | ((with_reducible refine' Wx_nilU ?_))
  | ((with_reducible refine' forU_nil ?_))
  | ((with_reducible refine' it_ownI ?h1 ?h2 ?h3 ?h4 ?_); (case h1 => walk_at "mem"); (case h2 => decide); (case h3 => decide); (case h4 => rfl))
  | ((with_reducible refine' it_lI ?h1 ?h2 ?h3 ?_); (case h1 => decide); (case h2 => decide); (case h3 => rfl))
  | ((with_reducible refine' f_mul ‹KC _› ?h1 ?h2 ?_); (case h1 => assumption); (case h2 => assumption))
  | ((with_reducible refine' f_add ‹KC _› ?h1 ?h2 ?_); (case h1 => assumption); (case h2 => assumption))
  | ((with_reducible refine' f_sub ‹KC _› ?h1 ?h2 ?_); (case h1 => assumption); (case h2 => assumption))
  | ((with_reducible refine' f_div ‹KC _› ?h1 ?h2 ?h3 ?_); (case h1 => assumption); (case h2 => assumption); (case h3 => assumption)))
local macro_rules | `(tactic| walk_at "ee") => `(tactic| first | walk_at "eb" | walk_at "es" | walk_at "eu")
local macro_rules | `(tactic| walk_at "e2") => `(tactic| first | walk_at "eb" | walk_at "es" | ((with_reducible refine' Ws_return ?_)))
local macro_rules | `(tactic| walk_at "e4") => `(tactic| first | ((with_reducible refine' Ws_assignRep ?h1 ?_ ?h2 ?h3); (case h1 => exact Or.inl rfl); (case h2 => rfl); (case h3 => rfl)) | ((with_reducible refine' Ws_retList ?h1 ?h2 ?_); (case h1 => rfl); (case h2 => rfl)) | ((with_reducible refine' Ws_forU ?h1 ?_ ?h2); (case h1 => exact Or.inl rfl); (case h2 => intro _; rfl)) | walk_at "ee" | ((with_reducible refine' Ws_return ?_)))
local macro_rules | `(tactic| walk_at "e5") => `(tactic| first | ((with_reducible refine' Ws_assignRep ?h1 ?_ ?h2 ?h3); (case h1 => exact Or.inl rfl); (case h2 => rfl); (case h3 => rfl)) | ((with_reducible refine' Ws_retList ?h1 ?h2 ?_); (case h1 => rfl); (case h2 => rfl)) | walk_at "ee" | ((with_reducible refine' Ws_return ?_)))
local macro_rules | `(tactic| walk_at "e6") => `(tactic| first | ((with_reducible refine' Ws_assignRep ?h1 ?_ ?h2 ?h3); (case h1 => exact Or.inl rfl); (case h2 => rfl); (case h3 => rfl)) | ((with_reducible refine' Ws_forU ?h1 ?_ ?h2); (case h1 => exact Or.inl rfl); (case h2 => intro _; rfl)) | walk_at "ee")
local macro_rules | `(tactic| walk_at "e8") => `(tactic| first | ((with_reducible refine' Ws_expr ?_ ?h1 ?h2); (case h1 => rfl); (case h2 => rfl)) | ((with_reducible refine' We_str ?_)) | ((with_reducible refine' nn ?_)) | walk_at "ee")
local macro_rules | `(tactic| walk_at "e9") => `(tactic| first | ((with_reducible refine' We_list ?_)) | ((with_reducible refine' We_str ?_)) | ((with_reducible refine' Ws_assignRep ?h1 ?_ ?h2 ?h3); (case h1 => exact Or.inl rfl); (case h2 => rfl); (case h3 => rfl)) | ((with_reducible refine' Ws_retList ?h1 ?h2 ?_); (case h1 => rfl); (case h2 => rfl)) | walk_at "ee" | ((with_reducible refine' Ws_return ?_)))
local macro_rules | `(tactic| walk_at "e10") => `(tactic| first | ((with_reducible refine' We_slice3x ?_)) | ((with_reducible refine' s3 ?_)) | ((with_reducible refine' We_list ?_)) | ((with_reducible refine' nt_ite ?_)) | ((with_reducible refine' We_str ?_)) | walk_at "ee" | ((with_reducible refine' Ws_return ?_)))
section
variable {c : Cx} {n : Nat} {k : D → Prop}
set_option maxHeartbeats 2000000
theorem f_weighted (hK : KC c) {m A : Nat} {u : Nat → Rat} {W : Option (Nat → Rat)} (hm : m ≤ 1000) (hA : A ≤ 4000) (hu : Vd A m u) (hw : Vw m W) (hk : k (vecD m (wgt W u))) : Fc c (n + 8) 145 [vecD m u, wD m W] k := by
  refine' Fc2 (Str.ofString "values") (Str.ofString "weights") ?ho ?hcd ?hsc ?hb ?h
  walk_at "in2"
  cases W with
  | none =>
    unfold wD
    repeat walk_at "e2"
    exact hk
  | some w =>
    unfold wD
    repeat walk_at "e2"
    refine' We_of_Wf (Wf_compN m [(Str.ofString "values", vecD m u), (Str.ofString "weights", vecD m w)] (fun i => ratD (u i * w i)) ?hsc ?hx ?hv ?hxn hm ?hit ?turn ?hk ?hs)
    walk_at "comp"
    case hit => repeat walk_at "e2"
                rfl
    case turn =>
      intro C i hi
      repeat walk_at "e2"
      exact f_mul hK ((hu.at hi).bd hA) ((Vd.at (show Vd 4 m w from hw) hi).bd (by decide)) rfl
    case hk => exact hk
theorem f_dot (hK : KC c) {m A B : Nat} {u v : Nat → Rat} (hm : m ≤ 15) (hAB : A + B + 5 ≤ 4000) (hu : Vd A m u) (hv : Vd B m v) (hk : k (ratD (psum (fun r => u r * v r) m))) : Fc c (n + 8) 152 [vecD m u, vecD m v] k := by
  have huv := hu.mul hv
  refine' Fc2 (Str.ofString "u") (Str.ofString "v") ?ho ?hcd ?hsc ?hb ?h
  walk_at "in2"
  repeat walk_at "e2"
  refine' Ws_forN m (fun i => [(Str.ofString "u", vecD m u), (Str.ofString "v", vecD m v), (Str.ofString "total", ratD (psum (fun r => u r * v r) i))]) (fun _ => []) ?hx ?hm ?h0 ?ho ?hn ?hit ?turn ?done ?hs
  walk_at "for"
  case hit =>
    repeat walk_at "e2"
    rfl
  case turn =>
    intro i hi
    have b1 : Bd (psum (fun r => u r * v r) i) := (huv.psum (Nat.le_of_lt hi) (by omega)).bd (by omega)
    have b2 : Bd (u i) := (hu.at hi).bd (by omega)
    have b3 : Bd (v i) := (hv.at hi).bd (by omega)
    have b4 : Bd (u i * v i) := (huv.at hi).bd (by omega)
    have z1 : (u i).num = 0 → psum (fun r => u r * v r) (i + 1) = psum (fun r => u r * v r) i := fun h => by
      have : u i = 0 := Rat.num_eq_zero.mp h
      rw [psum, this, Rat.zero_mul, Rat.add_zero]
    have z2 : (v i).num = 0 → psum (fun r => u r * v r) (i + 1) = psum (fun r => u r * v r) i := fun h => by
      have : v i = 0 := Rat.num_eq_zero.mp h
      rw [psum, this, Rat.mul_zero, Rat.add_zero]
    by_cases h1 : (u i).num = 0
    · rw [z1 h1]
      repeat walk_at "e2"
      walk_at "turned"
    · by_cases h2 : (v i).num = 0
      · rw [z2 h2]
        repeat walk_at "e2"
        walk_at "turned"
      · repeat walk_at "e2"
        refine f_mul hK b2 b3 ?_
        repeat walk_at "e2"
        refine f_add hK b1 b4 ?_
        repeat walk_at "e2"
        walk_at "turned"
  case done =>
    repeat walk_at "e2"
    exact hk
theorem f_less_multiple (hK : KC c) {m A B F : Nat} {u v : Nat → Rat} {f : Rat} (hm : m ≤ 1000) (hAB : A + F + B + 1 ≤ 4000) (hu : Vd A m u) (hf : Rd F f) (hv : Vd B m v) (hk : k (vecD m fun r => u r - f * v r)) : Fc c (n + 9) 157 [vecD m u, ratD f, vecD m v] k := by
  have bf : Bd f := hf.bd (by omega)
  refine' Fc3 (Str.ofString "u") (Str.ofString "factor") (Str.ofString "v") ?ho ?hcd ?hsc ?hb ?h
  walk_at "in3"
  by_cases h0 : f.num = 0
  · repeat walk_at "e2"
    have hz : f = 0 := Rat.num_eq_zero.mp h0
    have e : (fun r => u r - f * v r) = u := by funext r; rw [hz, Rat.zero_mul, Rat.sub_eq_add_neg, Rat.neg_zero, Rat.add_zero]
    rw [e] at hk
    exact hk
  · repeat walk_at "e2"
    refine' We_of_Wf (Wf_compN m [(Str.ofString "u", vecD m u), (Str.ofString "v", vecD m v), (Str.ofString "factor", ratD f)] (fun i => ratD (u i - f * v i)) ?hsc ?hx ?hv ?hxn hm ?hit ?turn ?hk ?hs)
    case hsc => with_unfolding_all exact rfl
    case hx => intro C; exact Or.inl rfl
    case hv => exact ⟨rfl, rfl, Or.inl rfl, rfl, rfl, Or.inl rfl, rfl, rfl, Or.inl rfl, trivial⟩
    case hxn => with_unfolding_all exact rfl
    case hs => intro _; rfl
    case hit => repeat walk_at "e2"
                rfl
    case turn =>
      intro C i hi
      repeat walk_at "e2"
      refine f_mul hK bf ((hv.at hi).bd (by omega)) ?_
      repeat walk_at "e2"
      exact f_sub hK ((hu.at hi).bd (by omega)) ((hf.mul (hv.at hi)).bd (by omega)) rfl
    case hk => exact hk
theorem f_check_finite (hK : KC c) {m : Nat} {u : Nat → Rat} {nm : D} (hm : m ≤ 1000) (hk : k .none) : Fc c (n + 8) 164 [vecD m u, nm] k := by
  refine' Fc2 (Str.ofString "column") (Str.ofString "name") ?ho ?hcd ?hsc ?hb ?h
  walk_at "in2"
  repeat walk_at "e2"
  refine' Ws_forL (VL m u) (fun i => [(Str.ofString "column", vecD m u)]) (fun _ => []) ?hx ?h0 ?ho ?hn ?hit ?turn ?done ?hs
  walk_at "for"
  case hit =>
    repeat walk_at "e2"
    rfl
  case turn =>
    intro i d hd
    obtain ⟨hi, rfl⟩ := VL_mem hd
    repeat walk_at "e2"
    walk_at "turned"
  case done => exact Wx_nil hk
theorem f_check_weights (hK : KC c) {m : Nat} {u : Nat → Rat} (hm : m ≤ 1000) (hu : ∀ r, r < m → 0 ≤ u r) (hk : k .none) : Fc c (n + 8) 171 [vecD m u, .int (m : Nat)] k := by
  refine' Fc2 (Str.ofString "weights") (Str.ofString "count") ?ho ?hcd ?hsc ?hb ?h
  walk_at "in2"
  repeat walk_at "e2"
  refine' Ws_forL (VL m u) (fun i => [(Str.ofString "weights", vecD m u)]) (fun _ => []) ?hx ?h0 ?ho ?hn ?hit ?turn ?done ?hs
  walk_at "for"
  case hit =>
    repeat walk_at "e2"
    rfl
  case turn =>
    intro i d hd
    obtain ⟨hi, rfl⟩ := VL_mem hd
    have h0 : 0 ≤ (u i).num := Rat.num_nonneg.mpr (hu i hi)
    repeat walk_at "e2"
    walk_at "turned"
  case done => exact Wx_nil hk
end
section
variable {c : Cx} {n : Nat}
set_option maxHeartbeats 2000000
theorem f_init (hK : KC c) {a dx a1 a2 a3 a4 : Addr} {k : Own → D → Prop} (hk : ∀ st, k (ownF a dx a1 a2 a3 a4 st [] [] [] [] [] (.lst []) (.lst []) (.lst []) .none 0 0) .none) :
    Fo c (n + 5) 133 [(a, .obj dx []), (a4, .lst []), (a3, .lst []), (a2, .lst []), (a1, .lst [])] [.raw (.ref a), .raw (.ref a1), .raw (.ref a2), .raw (.ref a3), .raw (.ref a4)] k := by
  refine' Fo_of [Str.ofString "self", Str.ofString "pivots", Str.ofString "bases", Str.ofString "norms", Str.ofString "shares"] ?ho ?hcd ?hsc ?hb ?hlen ?h
  case ho => rw [hK]; with_unfolding_all exact rfl
  case hcd => rw [hK]; with_unfolding_all exact rfl
  case hsc => with_unfolding_all exact rfl
  case hb =>
    intro im s vs _ r
    refine ⟨vs, ?_, r⟩
    obtain ⟨v1, v2, v3, v4, v5, rfl⟩ := r.l5
    exact BindsTo.of_eq (by with_unfolding_all exact rfl)
  case hlen => rfl
  intro L
  repeat walk_at "e2"
  walk_at "sa"
  walk_at "e2"
  walk_at "sa"
  walk_at "e2"
  walk_at "sa"
  walk_at "e2"
  walk_at "sa"
  walk_at "e2"
  refine Ws_setattrOwn (by with_unfolding_all decide) (Wf_list (Wes_nil ⟨by decide, fun st => ?_⟩)) 
  repeat walk_at "e2"
  refine ⟨_, _, [_], _, _, rfl, rfl, Nat.le_of_ble_eq_true rfl, ?_⟩
  walk_at "e2"
  walk_at "sa"
  walk_at "e2"
  walk_at "sa"
  walk_at "e2"
  walk_at "sa"
  walk_at "e2"
  walk_at "sa"
  walk_at "e2"
  walk_at "sa"
  walk_at "e2"
  walk_at "sa"
  exact Wx_nil (hk st)
end
section
variable {c : Cx} {n : Nat}
set_option maxHeartbeats 4000000
theorem f_ip (hK : KC c) {m A B : Nat} {W : Option (Nat → Rat)} {u v : Nat → Rat} {k : D → Prop} (hm : m ≤ 15) (hw : Vw m W) (hAB : A + B + 9 ≤ 4000) (hu : Vd A m u) (hv : Vd B m v) (hk : k (ratD (ip m W u v))) : Fc c (n + 8) 152 [vecD m (wgt W u), vecD m v] k :=
  f_dot hK hm (A := A + 4) (B := B) (by omega) (hu.wgt hw) hv hk
theorem ogStep_pos {m : Nat} {W : Option (Nat → Rat)} {col : Nat → Rat} {p : Nat} {o : Og} (h : (ip m W (sw m W o.bs o.nr col o.n) (sw m W o.bs o.nr col o.n)).num = 0) : ogStep m W col p o = o := if_pos (Rat.num_eq_zero.mp h)
theorem ogStep_neg {m : Nat} {W : Option (Nat → Rat)} {col : Nat → Rat} {p : Nat} {o : Og} (h : (ip m W (sw m W o.bs o.nr col o.n) (sw m W o.bs o.nr col o.n)).num ≠ 0) :
    pivD (ogStep m W col p o) = pivD o ++ [.int (p : Nat)] ∧ basD m (ogStep m W col p o) = basD m o ++ [vecD m (sw m W o.bs o.nr col o.n)] ∧ norD (ogStep m W col p o) = norD o ++ [ratD (ip m W (sw m W o.bs o.nr col o.n) (sw m W o.bs o.nr col o.n))] ∧
    shaD (ogStep m W col p o) = shaD o ++ [.lst (VL o.n (fac m W o.bs o.nr col))] := by
  have e : ogStep m W col p o = _ := if_neg fun q => h (Rat.num_eq_zero.mpr q)
  rw [e]
  exact ⟨Ls_upd _ _ _ fun _ v => .int (v : Nat), Ls_upd _ _ _ fun _ v => vecD m v, Ls_upd _ _ _ fun _ v => ratD v, Ls_upd _ _ _ fun i v => .lst (VL i v)⟩
theorem f_orthogonal (hK : KC c) {m wide : Nat} {W : Option (Nat → Rat)} {cols : Nat → Nat → Rat} {k : Own → D → Prop} (hm : m ≤ 15) (hwd : wide ≤ 3) (hw : Vw m W) (hc : ∀ i, i < wide → Vd 3 m (cols i))
    (hk : ∀ a dx ap ab an as st, k (ownF a dx ap ab an as st (pivD (og m W cols wide)) (basD m (og m W cols wide)) (norD (og m W cols wide)) (shaD (og m W cols wide)) [] (.lst []) (.lst []) (.lst []) .none ((og m W cols wide).n : Nat) 0) (.raw (.ref a))) :
    Fo c (n + 10) 178 [] [colD m wide cols, wD m W] k := by
  refine' Fo2 (Str.ofString "columns") (Str.ofString "weights") ?ho ?hcd ?hsc ?hb ?h
  walk_at "in2"
  walk_at "e2"
  refine Ws_assignO (.inl rfl) (Wo_make (f := 133) rfl (by rw [hK]; kernel_rfl) (by rw [hK]; kernel_rfl) (by rw [hK]; kernel_rfl) (by rw [hK]; kernel_rfl) (by rw [hK]; kernel_rfl) (Wos_fresh (Wf_list (Wes_nil ⟨by decide, fun a1 => Wos_fresh (Wf_list (Wes_nil ⟨by decide, fun a2 => Wos_fresh (Wf_list (Wes_nil ⟨by decide, fun a3 => Wos_fresh (Wf_list (Wes_nil ⟨by decide, fun a4 => Wos_nil ⟨_, [], (List.append_nil _).symm, fun a dx => f_init hK fun st => ⟨rfl, ?_⟩⟩⟩))⟩))⟩))⟩))))
  repeat walk_at "e2"
  refine' Ws_forN wide (fun p => [(Str.ofString "found", .raw (.ref a)), (Str.ofString "columns", colD m wide cols), (Str.ofString "weights", wD m W)])
    (fun p => ownF a dx a1 a2 a3 a4 st (pivD (og m W cols p)) (basD m (og m W cols p)) (norD (og m W cols p)) (shaD (og m W cols p)) [] (.lst []) (.lst []) (.lst []) .none 0 0) ?hx ?hm ?h0 ?ho ?hn ?hit ?turn ?done ?hs
  walk_at "for"
  case hit =>
    unfold colD
    repeat walk_at "e2"
    rfl
  case done =>
    have hn := og_n (m := m) (W := W) (cols := cols) wide
    walk_at "e2"
    walk_at "sa"
    repeat walk_at "e2"
    exact hk ..
  case turn =>
    intro p hp
    have hB : OgB m (og m W cols p) := og_b hm hw p (by omega) (fun i hi => hc i (by omega))
    have hn := og_n (m := m) (W := W) (cols := cols) p
    have hu := hc p hp
    rw [og]
    generalize og m W cols p = o at *
    have hsw := sw_vd hm hw hB hu
    have hS := fun t (h : t ≤ 2) => Sb_le2 h
    unfold colD
    repeat walk_at "e2"
    intro sh
    repeat walk_at "e2"
    refine' Ws_forN o.n (fun t => [(Str.ofString "base", vecD m (sw m W o.bs o.nr (cols p) t)), (Str.ofString "share", .raw (.ref sh)), (Str.ofString "place", .int (p : Nat)), (Str.ofString "found", .raw (.ref a)), (Str.ofString "columns", .lst (Ls wide fun i => vecD m (cols i))), (Str.ofString "weights", wD m W)])
      (fun t => (sh, .lst (VL t (fac m W o.bs o.nr (cols p)))) :: ownF a dx a1 a2 a3 a4 st (pivD o) (basD m o) (norD o) (shaD o) [] (.lst []) (.lst []) (.lst []) .none 0 0) ?hx ?hm ?h0 ?ho ?hn ?hit ?turn ?done ?hs
    walk_at "for"
    case hit =>
      repeat walk_at "e2"
      rfl
    case turn =>
      intro t ht
      have hSt := hS t (by omega)
      have z1 := hsw t (by omega)
      have z2 := hB.bs t ht
      repeat walk_at "e2"
      refine f_weighted hK (by omega) (A := Sb t) (by omega) z1 hw ?_
      repeat walk_at "e2"
      refine f_ip hK hm hw (A := Sb t) (B := Sb t) (by omega) z1 z2 ?_
      repeat walk_at "e2"
      refine f_div hK ((ip_rd hm hw z1 z2).bd (by omega)) ((hB.nr t ht).bd (by omega)) (hB.nz t ht) ?_
      repeat walk_at "e2"
      walk_at "ap"
      repeat walk_at "e2"
      refine f_less_multiple hK (by omega) (A := Sb t) (F := 4 * Sb t + 16) (B := Sb t) (by omega) z1 (fac_rd hm hw hB hu ht) z2 ?_
      refine Wx_nil ⟨?_, ?_⟩
      · walk_at "sub"
      · show _ = (sh, AO.lst (VL (t + 1) _)) :: _
        rw [VL_succ]; rfl
    case done =>
      have hSt := hS o.n (by omega)
      have z1 := hsw o.n (by omega)
      refine Wx_freeze (pre := []) [(Str.ofString "base", vecD m (sw m W o.bs o.nr (cols p) o.n)), (Str.ofString "share", .lst (VL o.n (fac m W o.bs o.nr (cols p)))), (Str.ofString "place", .int (p : Nat)), (Str.ofString "found", .raw (.ref a)), (Str.ofString "columns", .lst (Ls wide fun i => vecD m (cols i))), (Str.ofString "weights", wD m W)]
        (ownF a dx a1 a2 a3 a4 st (pivD o) (basD m o) (norD o) (shaD o) [] (.lst []) (.lst []) (.lst []) .none 0 0) (Frozf.look (by walk_at "froz")) (FrozO.refl _ _ _) ?_
      repeat walk_at "e2"
      refine f_weighted hK (by omega) (A := Sb o.n) (by omega) z1 hw ?_
      repeat walk_at "e2"
      refine f_ip hK hm hw (A := Sb o.n) (B := Sb o.n) (by omega) z1 z1 ?_
      by_cases h0 : (ip m W (sw m W o.bs o.nr (cols p) o.n) (sw m W o.bs o.nr (cols p) o.n)).num = 0
      · rw [ogStep_pos h0]
        repeat walk_at "e2"
        walk_at "turned"
      · obtain ⟨e1, e2, e3, e4⟩ := ogStep_neg (p := p) h0
        rw [e1, e2, e3, e4]
        repeat walk_at "e2"
        walk_at "ap"
        repeat walk_at "e2"
        walk_at "ap"
        repeat walk_at "e2"
        walk_at "ap"
        repeat walk_at "e2"
        walk_at "ap"
        repeat walk_at "e2"
        walk_at "turned"
end
section
variable {c : Cx} {n : Nat}
set_option maxHeartbeats 4000000
theorem f_back3 (hK : KC c) {bb : Addr} {CC : List D} {a dx ap ab an as st : Addr} {P B N : List D} {co fi re we : D} {df : Int} {t0 t1 t2 s10 s20 s21 : Rat} {k : Own → D → Prop}
    (b1 : Bd s21) (b2 : Bd t2) (b3 : Bd (s21 * t2)) (b4 : Bd t1) (b5 : Bd s10) (b6 : Bd (t1 - s21 * t2)) (b7 : Bd (s10 * (t1 - s21 * t2))) (b8 : Bd t0) (b9 : Bd (t0 - s10 * (t1 - s21 * t2))) (b10 : Bd s20) (b11 : Bd (s20 * t2))
    (hk : k (ownC bb CC a dx ap ab an as st P B N [.lst [], .lst [ratD s10], .lst [ratD s20, ratD s21]] [ratD t0, ratD t1, ratD t2] co fi re we 3 df) (.lst [ratD (t0 - s10 * (t1 - s21 * t2) - s20 * t2), ratD (t1 - s21 * t2), ratD t2])) :
    Fo c (n + 9) 185 (ownC bb CC a dx ap ab an as st P B N [.lst [], .lst [ratD s10], .lst [ratD s20, ratD s21]] [ratD t0, ratD t1, ratD t2] co fi re we 3 df) [.raw (.ref a)] k := by
  refine' Fo1 (Str.ofString "fitted") ?ho ?hcd ?hsc ?hb ?h
  walk_at "in1"
  walk_at "e4"
  refine Ws_assignOwn (.inl rfl) (Wf_listOf hK rfl ?_)
  repeat walk_at "e4"
  intro va
  walk_at "e4"
  repeat walk_at "e4"
  refine ⟨_, _, _, rfl, rfl, rfl, by decide, by decide, [.int 2, .int 1, .int 0], ⟨by decide, 3, by decide, rfl⟩, ?_⟩
  repeat walk_at "e4"
  refine ⟨[], ⟨by decide, 0, by decide, rfl⟩, ?_⟩
  repeat walk_at "e4"
  refine ⟨[.int 2], ⟨by decide, 1, by decide, rfl⟩, ?_⟩
  repeat walk_at "e4"
  walk_at "si"
  repeat walk_at "e4"
  refine ⟨[.int 1, .int 2], ⟨by decide, 2, by decide, rfl⟩, ?_⟩
  repeat walk_at "e4"
  walk_at "si"
  repeat walk_at "e4"
  walk_at "si"
  repeat walk_at "e4"
  exact hk
theorem f_back2 (hK : KC c) {bb : Addr} {CC : List D} {a dx ap ab an as st : Addr} {P B N : List D} {co fi re we : D} {df : Int} {t0 t1 s10 : Rat} {k : Own → D → Prop}
    (b4 : Bd t1) (b5 : Bd s10) (b7 : Bd (s10 * t1)) (b8 : Bd t0)
    (hk : k (ownC bb CC a dx ap ab an as st P B N [.lst [], .lst [ratD s10]] [ratD t0, ratD t1] co fi re we 2 df) (.lst [ratD (t0 - s10 * t1), ratD t1])) :
    Fo c (n + 9) 185 (ownC bb CC a dx ap ab an as st P B N [.lst [], .lst [ratD s10]] [ratD t0, ratD t1] co fi re we 2 df) [.raw (.ref a)] k := by
  refine' Fo1 (Str.ofString "fitted") ?ho ?hcd ?hsc ?hb ?h
  walk_at "in1"
  walk_at "e4"
  refine Ws_assignOwn (.inl rfl) (Wf_listOf hK rfl ?_)
  repeat walk_at "e4"
  intro va
  walk_at "e4"
  repeat walk_at "e4"
  refine ⟨_, _, _, rfl, rfl, rfl, by decide, by decide, [.int 1, .int 0], ⟨by decide, 2, by decide, rfl⟩, ?_⟩
  repeat walk_at "e4"
  refine ⟨[], ⟨by decide, 0, by decide, rfl⟩, ?_⟩
  repeat walk_at "e4"
  refine ⟨[.int 1], ⟨by decide, 1, by decide, rfl⟩, ?_⟩
  repeat walk_at "e4"
  walk_at "si"
  repeat walk_at "e4"
  exact hk
theorem f_back1 (hK : KC c) {bb : Addr} {CC : List D} {a dx ap ab an as st : Addr} {P B N : List D} {co fi re we : D} {df : Int} {t0 : Rat} {k : Own → D → Prop}
    (hk : k (ownC bb CC a dx ap ab an as st P B N [.lst []] [ratD t0] co fi re we 1 df) (.lst [ratD t0])) :
    Fo c (n + 9) 185 (ownC bb CC a dx ap ab an as st P B N [.lst []] [ratD t0] co fi re we 1 df) [.raw (.ref a)] k := by
  refine' Fo1 (Str.ofString "fitted") ?ho ?hcd ?hsc ?hb ?h
  walk_at "in1"
  walk_at "e4"
  refine Ws_assignOwn (.inl rfl) (Wf_listOf hK rfl ?_)
  repeat walk_at "e4"
  intro va
  walk_at "e4"
  repeat walk_at "e4"
  refine ⟨_, _, _, rfl, rfl, rfl, by decide, by decide, [.int 0], ⟨by decide, 1, by decide, rfl⟩, ?_⟩
  repeat walk_at "e4"
  refine ⟨[], ⟨by decide, 0, by decide, rfl⟩, ?_⟩
  repeat walk_at "e4"
  exact hk
theorem f_back0 (hK : KC c) {bb : Addr} {CC : List D} {a dx ap ab an as st : Addr} {P B N : List D} {co fi re we : D} {df : Int} {k : Own → D → Prop}
    (hk : k (ownC bb CC a dx ap ab an as st P B N [] [] co fi re we 0 df) (.lst [])) :
    Fo c (n + 9) 185 (ownC bb CC a dx ap ab an as st P B N [] [] co fi re we 0 df) [.raw (.ref a)] k := by
  refine' Fo1 (Str.ofString "fitted") ?ho ?hcd ?hsc ?hb ?h
  walk_at "in1"
  walk_at "e4"
  refine Ws_assignOwn (.inl rfl) (Wf_listOf hK rfl ?_)
  repeat walk_at "e4"
  intro va
  walk_at "e4"
  repeat walk_at "e4"
  refine ⟨_, _, _, rfl, rfl, rfl, by decide, by decide, [], ⟨by decide, 0, by decide, rfl⟩, ?_⟩
  repeat walk_at "e4"
  exact hk
def backF (n : Nat) (sh : Nat → Nat → Rat) (t : Nat → Rat) : Nat → Rat :=
  match n with
  | 2 => fun i => if i = 0 then t 0 - sh 1 0 * t 1 else t i
  | 3 => fun i => if i = 0 then t 0 - sh 1 0 * (t 1 - sh 2 1 * t 2) - sh 2 0 * t 2 else if i = 1 then t 1 - sh 2 1 * t 2 else t i
  | _ => t
theorem f_back (hK : KC c) {bb : Addr} {CC : List D} {a dx ap ab an as st : Addr} {P B N : List D} {co fi re we : D} {df : Int} {nn : Nat} {sh : Nat → Nat → Rat} {tt : Nat → Rat} {k : Own → D → Prop} (h3 : nn ≤ 3)
    (hs : ∀ t i, t < nn → i < t → Rd (4 * Sb i + 16) (sh t i)) (ht : ∀ t, t < nn → Rd (4 * Sb t + 16) (tt t))
    (hk : k (ownC bb CC a dx ap ab an as st P B N (Ls nn fun i => .lst (VL i (sh i))) (VL nn tt) co fi re we (nn : Nat) df) (.lst (VL nn (backF nn sh tt)))) :
    Fo c (n + 9) 185 (ownC bb CC a dx ap ab an as st P B N (Ls nn fun i => .lst (VL i (sh i))) (VL nn tt) co fi re we (nn : Nat) df) [.raw (.ref a)] k := by
  have e0 : 4 * Sb 0 + 16 = 28 := rfl
  have e1 : 4 * Sb 1 + 16 = 156 := rfl
  have e2 : 4 * Sb 2 + 16 = 924 := rfl
  match nn, h3 with
  | 0, _ => exact f_back0 hK hk
  | 1, _ => exact f_back1 hK hk
  | 2, _ =>
    have b1 := hs 1 0 (by decide) (by decide)
    have t0 := ht 0 (by decide)
    have t1 := ht 1 (by decide)
    rw [e0] at b1 t0
    rw [e1] at t1
    exact f_back2 hK (t1.bd (by decide)) (b1.bd (by decide)) ((b1.mul t1).bd (by decide)) (t0.bd (by decide)) hk
  | 3, _ =>
    have b1 := hs 1 0 (by decide) (by decide)
    have b2 := hs 2 0 (by decide) (by decide)
    have b3 := hs 2 1 (by decide) (by decide)
    have t0 := ht 0 (by decide)
    have t1 := ht 1 (by decide)
    have t2 := ht 2 (by decide)
    rw [e0] at b1 b2 t0
    rw [e1] at b3 t1
    rw [e2] at t2
    exact f_back3 hK (b3.bd (by decide)) (t2.bd (by decide)) ((b3.mul t2).bd (by decide)) (t1.bd (by decide)) (b1.bd (by decide)) ((t1.sub (b3.mul t2)).bd (by decide)) ((b1.mul (t1.sub (b3.mul t2))).bd (by decide)) (t0.bd (by decide)) ((t0.sub (b1.mul (t1.sub (b3.mul t2)))).bd (by decide)) (b2.bd (by decide)) ((b2.mul t2).bd (by decide)) hk
end
section
variable {c : Cx} {n : Nat}
set_option maxHeartbeats 4000000
theorem f_inv3 (hK : KC c) {P B N T C : List D} {fi re we : D} {df : Int} {s10 s20 s21 : Rat} {k : D → Prop}
    (z0 : Bd 0) (z1 : Bd 1) (b1 : Bd s10) (b2 : Bd s20) (b3 : Bd s21) (c1 : Bd (s10 * 1)) (c2 : Bd (0 + s10 * 1)) (c3 : Bd (s21 * 1)) (c4 : Bd (0 + s21 * 1)) (c5 : Bd (0 - (0 + s21 * 1))) (c6 : Bd (s10 * (0 - (0 + s21 * 1)))) (c7 : Bd (0 + s10 * (0 - (0 + s21 * 1)))) (c8 : Bd (s20 * 1)) (c9 : Bd (0 + s10 * (0 - (0 + s21 * 1)) + s20 * 1))
    (hk : k (.lst [.lst [ratD 1, ratD (0 - (0 + s10 * 1)), ratD (0 - (0 + s10 * (0 - (0 + s21 * 1)) + s20 * 1))], .lst [ratD 0, ratD 1, ratD (0 - (0 + s21 * 1))], .lst [ratD 0, ratD 0, ratD 1]])) :
    Fc c (n + 9) 224 [objD P B N [.lst [], .lst [ratD s10], .lst [ratD s20, ratD s21]] T C fi re we 3 df] k := by
  refine' Fc1 (Str.ofString "found") ?ho ?hcd ?hsc ?hb ?h
  walk_at "in1"
  repeat walk_at "e6"
  intro rows
  repeat walk_at "e6"
  refine ⟨[.int 0, .int 1, .int 2], ⟨by decide, 3, by decide, rfl⟩, ?_⟩
  repeat walk_at "e6"
  refine ⟨3, rfl, by decide, fun r0 => ?_⟩
  walk_at "e6"
  walk_at "si"
  repeat walk_at "e6"
  walk_at "ap"
  repeat walk_at "e6"
  refine ⟨3, rfl, by decide, fun r1 => ?_⟩
  walk_at "e6"
  walk_at "si"
  repeat walk_at "e6"
  walk_at "ap"
  repeat walk_at "e6"
  refine ⟨3, rfl, by decide, fun r2 => ?_⟩
  walk_at "e6"
  walk_at "si"
  repeat walk_at "e6"
  walk_at "ap"
  repeat walk_at "e6"
  refine ⟨[.int 0, .int 1, .int 2], ⟨by decide, 3, by decide, rfl⟩, ?_⟩
  repeat walk_at "e6"
  refine ⟨_, _, _, rfl, rfl, rfl, by decide, by decide, [], ⟨by decide, 0, by decide, rfl⟩, ?_⟩
  repeat walk_at "e6"
  refine ⟨_, _, _, rfl, rfl, rfl, by decide, by decide, [.int 0], ⟨by decide, 1, by decide, rfl⟩, ?_⟩
  repeat walk_at "e6"
  refine ⟨[.int 1], ⟨by decide, 1, by decide, rfl⟩, ?_⟩
  repeat walk_at "e6"
  walk_at "si"
  repeat walk_at "e6"
  refine ⟨_, _, _, rfl, rfl, rfl, by decide, by decide, [.int 1, .int 0], ⟨by decide, 2, by decide, rfl⟩, ?_⟩
  repeat walk_at "e6"
  refine ⟨[.int 2], ⟨by decide, 1, by decide, rfl⟩, ?_⟩
  repeat walk_at "e6"
  walk_at "si"
  repeat walk_at "e6"
  refine ⟨[.int 1, .int 2], ⟨by decide, 2, by decide, rfl⟩, ?_⟩
  repeat walk_at "e6"
  walk_at "si"
  repeat walk_at "e6"
  refine Ws_to [(Str.ofString "rows", .raw (.ref rows))] [(r2, .lst [ratD 0, ratD 0, ratD 1]), (r1, .lst [ratD 0, ratD 1, ratD (0 - (0 + s21 * 1))]), (r0, .lst [ratD 1, ratD (0 - (0 + s10 * 1)), ratD (0 - (0 + s10 * (0 - (0 + s21 * 1)) + s20 * 1))]), (rows, .lst [.raw (.ref r0), .raw (.ref r1), .raw (.ref r2)])] (by walk_at "sub") rfl ?_
  refine' Ws_freeze (pre := []) (a := r2) [(Str.ofString "rows", .raw (.ref rows))] [(r1, .lst [ratD 0, ratD 1, ratD (0 - (0 + s21 * 1))]), (r0, .lst [ratD 1, ratD (0 - (0 + s10 * 1)), ratD (0 - (0 + s10 * (0 - (0 + s21 * 1)) + s20 * 1))]), (rows, .lst [.raw (.ref r0), .raw (.ref r1), .lst [ratD 0, ratD 0, ratD 1]])] ?hv ?ho ?_
  case ho => walk_at "fro"
  case hv => walk_at "fv"
  refine' Ws_freeze (pre := []) (a := r1) [(Str.ofString "rows", .raw (.ref rows))] [(r0, .lst [ratD 1, ratD (0 - (0 + s10 * 1)), ratD (0 - (0 + s10 * (0 - (0 + s21 * 1)) + s20 * 1))]), (rows, .lst [.raw (.ref r0), .lst [ratD 0, ratD 1, ratD (0 - (0 + s21 * 1))], .lst [ratD 0, ratD 0, ratD 1]])] ?hv ?ho ?_
  case ho => walk_at "fro"
  case hv => walk_at "fv"
  refine' Ws_freeze (pre := []) (a := r0) [(Str.ofString "rows", .raw (.ref rows))] [(rows, .lst [.lst [ratD 1, ratD (0 - (0 + s10 * 1)), ratD (0 - (0 + s10 * (0 - (0 + s21 * 1)) + s20 * 1))], .lst [ratD 0, ratD 1, ratD (0 - (0 + s21 * 1))], .lst [ratD 0, ratD 0, ratD 1]])] ?hv ?ho ?_
  case ho => walk_at "fro"
  case hv => walk_at "fv"
  refine' Ws_retList ?h1 ?h2 ?_
  case h1 => rfl
  case h2 => rfl
  exact hk
theorem f_inv2 (hK : KC c) {P B N T C : List D} {fi re we : D} {df : Int} {s10 : Rat} {k : D → Prop}
    (z0 : Bd 0) (z1 : Bd 1) (b1 : Bd s10) (c1 : Bd (s10 * 1)) (c2 : Bd (0 + s10 * 1))
    (hk : k (.lst [.lst [ratD 1, ratD (0 - (0 + s10 * 1))], .lst [ratD 0, ratD 1]])) :
    Fc c (n + 9) 224 [objD P B N [.lst [], .lst [ratD s10]] T C fi re we 2 df] k := by
  refine' Fc1 (Str.ofString "found") ?ho ?hcd ?hsc ?hb ?h
  walk_at "in1"
  repeat walk_at "e6"
  intro rows
  repeat walk_at "e6"
  refine ⟨[.int 0, .int 1], ⟨by decide, 2, by decide, rfl⟩, ?_⟩
  repeat walk_at "e6"
  refine ⟨2, rfl, by decide, fun r0 => ?_⟩
  walk_at "e6"
  walk_at "si"
  repeat walk_at "e6"
  walk_at "ap"
  repeat walk_at "e6"
  refine ⟨2, rfl, by decide, fun r1 => ?_⟩
  walk_at "e6"
  walk_at "si"
  repeat walk_at "e6"
  walk_at "ap"
  repeat walk_at "e6"
  refine ⟨[.int 0, .int 1], ⟨by decide, 2, by decide, rfl⟩, ?_⟩
  repeat walk_at "e6"
  refine ⟨_, _, _, rfl, rfl, rfl, by decide, by decide, [], ⟨by decide, 0, by decide, rfl⟩, ?_⟩
  repeat walk_at "e6"
  refine ⟨_, _, _, rfl, rfl, rfl, by decide, by decide, [.int 0], ⟨by decide, 1, by decide, rfl⟩, ?_⟩
  repeat walk_at "e6"
  refine ⟨[.int 1], ⟨by decide, 1, by decide, rfl⟩, ?_⟩
  repeat walk_at "e6"
  walk_at "si"
  repeat walk_at "e6"
  refine Ws_to [(Str.ofString "rows", .raw (.ref rows))] [(r1, .lst [ratD 0, ratD 1]), (r0, .lst [ratD 1, ratD (0 - (0 + s10 * 1))]), (rows, .lst [.raw (.ref r0), .raw (.ref r1)])] (by walk_at "sub") rfl ?_
  refine' Ws_freeze (pre := []) (a := r1) [(Str.ofString "rows", .raw (.ref rows))] [(r0, .lst [ratD 1, ratD (0 - (0 + s10 * 1))]), (rows, .lst [.raw (.ref r0), .lst [ratD 0, ratD 1]])] ?hv ?ho ?_
  case ho => walk_at "fro"
  case hv => walk_at "fv"
  refine' Ws_freeze (pre := []) (a := r0) [(Str.ofString "rows", .raw (.ref rows))] [(rows, .lst [.lst [ratD 1, ratD (0 - (0 + s10 * 1))], .lst [ratD 0, ratD 1]])] ?hv ?ho ?_
  case ho => walk_at "fro"
  case hv => walk_at "fv"
  refine' Ws_retList ?h1 ?h2 ?_
  case h1 => rfl
  case h2 => rfl
  exact hk
theorem f_inv1 (hK : KC c) {P B N T C : List D} {fi re we : D} {df : Int} {k : D → Prop}
    (hk : k (.lst [.lst [ratD 1]])) :
    Fc c (n + 9) 224 [objD P B N [.lst []] T C fi re we 1 df] k := by
  refine' Fc1 (Str.ofString "found") ?ho ?hcd ?hsc ?hb ?h
  walk_at "in1"
  repeat walk_at "e6"
  intro rows
  repeat walk_at "e6"
  refine ⟨[.int 0], ⟨by decide, 1, by decide, rfl⟩, ?_⟩
  repeat walk_at "e6"
  refine ⟨1, rfl, by decide, fun r0 => ?_⟩
  walk_at "e6"
  walk_at "si"
  repeat walk_at "e6"
  walk_at "ap"
  repeat walk_at "e6"
  refine ⟨[.int 0], ⟨by decide, 1, by decide, rfl⟩, ?_⟩
  repeat walk_at "e6"
  refine ⟨_, _, _, rfl, rfl, rfl, by decide, by decide, [], ⟨by decide, 0, by decide, rfl⟩, ?_⟩
  repeat walk_at "e6"
  refine Ws_to [(Str.ofString "rows", .raw (.ref rows))] [(r0, .lst [ratD 1]), (rows, .lst [.raw (.ref r0)])] (by walk_at "sub") rfl ?_
  refine' Ws_freeze (pre := []) (a := r0) [(Str.ofString "rows", .raw (.ref rows))] [(rows, .lst [.lst [ratD 1]])] ?hv ?ho ?_
  case ho => walk_at "fro"
  case hv => walk_at "fv"
  refine' Ws_retList ?h1 ?h2 ?_
  case h1 => rfl
  case h2 => rfl
  exact hk
theorem f_inv0 (hK : KC c) {P B N T C : List D} {fi re we : D} {df : Int} {k : D → Prop}
    (hk : k (.lst [])) :
    Fc c (n + 9) 224 [objD P B N [] T C fi re we 0 df] k := by
  refine' Fc1 (Str.ofString "found") ?ho ?hcd ?hsc ?hb ?h
  walk_at "in1"
  repeat walk_at "e6"
  intro rows
  repeat walk_at "e6"
  refine ⟨[], ⟨by decide, 0, by decide, rfl⟩, ?_⟩
  repeat walk_at "e6"
  refine ⟨[], ⟨by decide, 0, by decide, rfl⟩, ?_⟩
  repeat walk_at "e6"
  refine' Ws_retList ?h1 ?h2 ?_
  case h1 => rfl
  case h2 => rfl
  exact hk
def invF (sh : Nat → Nat → Rat) (i j : Nat) : Rat :=
  if i = j then 1 else if j < i then 0 else if i = 1 then 0 - (0 + sh 2 1 * 1) else if j = 1 then 0 - (0 + sh 1 0 * 1) else 0 - (0 + sh 1 0 * (0 - (0 + sh 2 1 * 1)) + sh 2 0 * 1)
theorem f_inv (hK : KC c) {P B N T C : List D} {fi re we : D} {df : Int} {nn : Nat} {sh : Nat → Nat → Rat} {k : D → Prop} (h3 : nn ≤ 3)
    (hs : ∀ t i, t < nn → i < t → Rd (4 * Sb i + 16) (sh t i)) (hk : k (.lst (Ls nn fun i => .lst (VL nn (invF sh i))))) :
    Fc c (n + 9) 224 [objD P B N (Ls nn fun i => .lst (VL i (sh i))) T C fi re we (nn : Nat) df] k := by
  have e0 : 4 * Sb 0 + 16 = 28 := rfl
  have e1 : 4 * Sb 1 + 16 = 156 := rfl
  have z0 : Rd 1 0 := Rd.zero (by decide)
  have z1 : Rd 1 1 := Rd.one (by decide)
  match nn, h3 with
  | 0, _ => exact f_inv0 hK hk
  | 1, _ => exact f_inv1 hK hk
  | 2, _ =>
    have b1 := hs 1 0 (by decide) (by decide)
    rw [e0] at b1
    exact f_inv2 hK (z0.bd (by decide)) (z1.bd (by decide)) (b1.bd (by decide)) ((b1.mul z1).bd (by decide)) ((z0.add (b1.mul z1)).bd (by decide)) hk
  | 3, _ =>
    have b1 := hs 1 0 (by decide) (by decide)
    have b2 := hs 2 0 (by decide) (by decide)
    have b3 := hs 2 1 (by decide) (by decide)
    rw [e0] at b1 b2
    rw [e1] at b3
    have c4 := z0.add (b3.mul z1)
    have c5 := z0.sub c4
    have c7 := z0.add (b1.mul c5)
    exact f_inv3 hK (z0.bd (by decide)) (z1.bd (by decide)) (b1.bd (by decide)) (b2.bd (by decide)) (b3.bd (by decide)) ((b1.mul z1).bd (by decide)) ((z0.add (b1.mul z1)).bd (by decide)) ((b3.mul z1).bd (by decide)) (c4.bd (by decide)) (c5.bd (by decide)) ((b1.mul c5).bd (by decide)) (c7.bd (by decide)) ((b2.mul z1).bd (by decide)) ((c7.add (b2.mul z1)).bd (by decide)) hk
theorem invF_rd {nn : Nat} {sh : Nat → Nat → Rat} (h3 : nn ≤ 3) (hs : ∀ t i, t < nn → i < t → Rd (4 * Sb i + 16) (sh t i)) {i j : Nat} (hi : i < nn) (hj : j < nn) : Rd 300 (invF sh i j) := by
  have e0 : 4 * Sb 0 + 16 = 28 := rfl
  have e1 : 4 * Sb 1 + 16 = 156 := rfl
  have z0 : Rd 1 0 := Rd.zero (by decide)
  have z1 : Rd 1 1 := Rd.one (by decide)
  unfold invF
  split
  · exact z1.mono (by decide)
  · split
    · exact z0.mono (by decide)
    · split
      · have b3 := hs 2 1 (by omega) (by decide)
        rw [e1] at b3
        exact (z0.sub (z0.add (b3.mul z1))).mono (by decide)
      · have b1 := hs 1 0 (by omega) (by decide)
        rw [e0] at b1
        split
        · exact (z0.sub (z0.add (b1.mul z1))).mono (by decide)
        · have b2 := hs 2 0 (by omega) (by decide)
          have b3 := hs 2 1 (by omega) (by decide)
          rw [e0] at b2
          rw [e1] at b3
          exact (z0.sub ((z0.add (b1.mul (z0.sub (z0.add (b3.mul z1))))).add (b2.mul z1))).mono (by decide)
end
def usedR (m : Nat) : Option (Nat → Rat) → Nat
  | none => m
  | some w => ((List.range m).flatMap fun i => if (w i).num = 0 then [] else [ratD (w i)]).length
theorem used1 (w : Nat → Rat) (i : Nat) : (if (w i).num = 0 then ([] : List D) else [ratD (w i)]).length ≤ 1 := by split <;> simp
theorem usedR_le (m : Nat) (W : Option (Nat → Rat)) : usedR m W ≤ m := by
  cases W with
  | none => exact Nat.le_refl _
  | some w =>
    unfold usedR
    have : ∀ l : List Nat, (l.flatMap fun i => if (w i).num = 0 then ([] : List D) else [ratD (w i)]).length ≤ l.length := by
      intro l
      induction l with
      | nil => simp
      | cons a l ih => rw [List.flatMap_cons, List.length_append, List.length_cons]; have := used1 w a; omega
    simpa using this (List.range m)
abbrev arD (r : Int × Int × Rat) : D := .tup [.int r.1, .int r.2.1, ratD r.2.2]
def anS (R : List (Int × Int × Rat)) (t : Int) (s : Rat) : List (Int × Int × Rat) :=
  match R.getLast? with
  | none => [(t, 1, s)]
  | some r => if r.1 = t then R.dropLast ++ [(t, r.2.1 + 1, r.2.2 + s)] else R ++ [(t, 1, s)]
def an (pv : Nat → Nat) (asg : Nat → Int) (st nr : Nat → Rat) : Nat → List (Int × Int × Rat)
  | 0 => []
  | i + 1 => anS (an pv asg st nr i) (asg (pv i)) (st i * st i * nr i)
theorem anS_nil (t : Int) (s : Rat) : anS [] t s = [(t, 1, s)] := rfl
theorem anS_eq {R : List (Int × Int × Rat)} {r : Int × Int × Rat} {t : Int} {s : Rat} (h : r.1 = t) : anS (R ++ [r]) t s = R ++ [(t, r.2.1 + 1, r.2.2 + s)] := by
  unfold anS; simp [h]
theorem anS_ne {R : List (Int × Int × Rat)} {r : Int × Int × Rat} {t : Int} {s : Rat} (h : r.1 ≠ t) : anS (R ++ [r]) t s = R ++ [r] ++ [(t, 1, s)] := by
  unfold anS; simp [h]
theorem an_len (pv : Nat → Nat) (asg : Nat → Int) (st nr : Nat → Rat) : ∀ i, (an pv asg st nr i).length ≤ i
  | 0 => Nat.le_refl _
  | i + 1 => by
    have ih := an_len pv asg st nr i
    rw [an]
    rcases List.eq_nil_or_concat (an pv asg st nr i) with h | ⟨R, r, h⟩
    · rw [h, anS_nil]; simp
    · rw [h] at ih ⊢
      rw [List.concat_eq_append] at ih ⊢
      by_cases q : r.1 = asg (pv i)
      · rw [anS_eq q]; simp at ih ⊢; omega
      · rw [anS_ne q]; simp at ih ⊢; omega
def Tb : Nat → Nat
  | 0 => 1
  | i + 1 => Tb i + (10 * Sb i + 40) + 1
theorem Tb_le {i : Nat} (h : i ≤ 3) : Tb i ≤ 2774 := by
  match i, h with
  | 0, _ => decide
  | 1, _ => decide
  | 2, _ => decide
  | 3, _ => decide
theorem sq_rd {nn : Nat} {st nr : Nat → Rat} (hst : ∀ i, i < nn → Rd (4 * Sb i + 16) (st i)) (hnr : ∀ i, i < nn → Rd (2 * Sb i + 8) (nr i)) {i : Nat} (hi : i < nn) : Rd (10 * Sb i + 40) (st i * st i * nr i) :=
  (((hst i hi).mul (hst i hi)).mul (hnr i hi)).mono (by omega)
theorem an_rd {nn : Nat} {pv : Nat → Nat} {asg : Nat → Int} {st nr : Nat → Rat} (hst : ∀ i, i < nn → Rd (4 * Sb i + 16) (st i)) (hnr : ∀ i, i < nn → Rd (2 * Sb i + 8) (nr i)) : ∀ i, i ≤ nn → ∀ r ∈ an pv asg st nr i, Rd (Tb i) r.2.2
  | 0, _, r, hr => nomatch hr
  | i + 1, hi, r, hr => by
    have ih := an_rd (pv := pv) (asg := asg) hst hnr i (by omega)
    have hs := sq_rd hst hnr (i := i) (by omega)
    rw [an] at hr
    have e : Tb (i + 1) = Tb i + (10 * Sb i + 40) + 1 := rfl
    rcases List.eq_nil_or_concat (an pv asg st nr i) with h | ⟨R, r', h⟩
    · rw [h, anS_nil] at hr
      rw [List.mem_singleton.mp hr]; exact hs.mono (by omega)
    · rw [h] at hr ih
      rw [List.concat_eq_append] at hr ih
      by_cases q : r'.1 = asg (pv i)
      · rw [anS_eq q] at hr
        rcases List.mem_append.mp hr with hr | hr
        · exact (ih r (List.mem_append_left _ hr)).mono (by omega)
        · rw [List.mem_singleton.mp hr]; exact ((ih r' (by simp)).add hs).mono (by omega)
      · rw [anS_ne q] at hr
        rcases List.mem_append.mp hr with hr | hr
        · exact (ih r hr).mono (by omega)
        · rw [List.mem_singleton.mp hr]; exact hs.mono (by omega)
def covT (inv : Nat → Nat → Rat) (nr : Nat → Rat) (mx i j : Nat) : Nat → Rat
  | 0 => 0
  | q + 1 => covT inv nr mx i j q + inv i (mx + q) * inv j (mx + q) / nr (mx + q)
def covF (nn : Nat) (inv : Nat → Nat → Rat) (nr : Nat → Rat) (i j : Nat) : Rat := covT inv nr (max i j) i j (nn - max i j)
theorem part_rd {nn : Nat} {inv : Nat → Nat → Rat} {nr : Nat → Rat} (h3 : nn ≤ 3) (hi : ∀ i j, i < nn → j < nn → Rd 300 (inv i j)) (hnr : ∀ i, i < nn → Rd (2 * Sb i + 8) (nr i)) (hz : ∀ i, i < nn → nr i ≠ 0) {i j k : Nat} (h1 : i < nn) (h2 : j < nn) (hk : k < nn) :
    Rd 600 (inv i k * inv j k) ∧ Rd 1062 (inv i k * inv j k / nr k) ∧ Rd 462 (nr k) := by
  have := Sb_le2 (t := k) (by omega)
  have a := (hi i k h1 hk).mul (hi j k h2 hk)
  have b := (hnr k hk).mono (B := 462) (by omega)
  exact ⟨a, a.div b (hz k hk), b⟩
theorem covT_rd {nn : Nat} {inv : Nat → Nat → Rat} {nr : Nat → Rat} (h3 : nn ≤ 3) (hi : ∀ i j, i < nn → j < nn → Rd 300 (inv i j)) (hnr : ∀ i, i < nn → Rd (2 * Sb i + 8) (nr i)) (hz : ∀ i, i < nn → nr i ≠ 0) {mx i j : Nat} (h1 : i < nn) (h2 : j < nn) :
    ∀ q, mx + q ≤ nn → Rd (1 + q * 1063) (covT inv nr mx i j q)
  | 0, _ => Rd.zero (by decide)
  | q + 1, h => by
    have := (covT_rd h3 hi hnr hz (mx := mx) h1 h2 q (by omega)).add (part_rd h3 hi hnr hz h1 h2 (k := mx + q) (by omega)).2.1
    rw [covT]
    exact this.mono (by omega)
theorem items_mx {i j nn : Nat} (hi : i < nn) (hj : j < nn) (h3 : nn ≤ 3) : itemsOf (.rng (if (j : Int) > (i : Int) then (j : Int) else (i : Int)) (nn : Int) 1) (Ls (nn - max i j) fun q => .int ((max i j + q : Nat) : Int)) := by
  have e : (if (j : Int) > (i : Int) then (j : Int) else (i : Int)) = ((max i j : Nat) : Int) := by split <;> omega
  rw [e]
  have hm : max i j < nn := by omega
  refine ⟨small_of (by omega) (by omega) (by omega) (by omega) (.inl rfl), nn - max i j, ?_, ?_⟩
  · unfold Builtin.Range.rangeSize; simp only [show (1 : Int) > 0 by decide, if_true]; split
    · rw [Int.ediv_one]; omega
    · omega
  · unfold rngD Ls; congr 1; funext q; congr 1; omega
section
variable {c : Cx} {n : Nat}
set_option maxHeartbeats 4000000
theorem f_used (hK : KC c) {m : Nat} {W : Option (Nat → Rat)} {k : D → Prop} (hm : m ≤ 1000) (hk : k (.int (usedR m W : Nat))) : Fc c (n + 8) 190 [.int (m : Nat), wD m W] k := by
  refine' Fc2 (Str.ofString "count") (Str.ofString "weights") ?ho ?hcd ?hsc ?hb ?h
  walk_at "in2"
  cases W with
  | none =>
    unfold wD
    repeat walk_at "e5"
    exact hk
  | some w =>
    have hu := usedR_le m (some w)
    unfold wD
    repeat walk_at "e5"
    refine' We_of_Wf (Wf_compF (VL m w) [] (fun i => if (w i).num = 0 then [] else [ratD (w i)]) ?hsc ?hx ?hv ?hxn ?hit (used1 w) (by rw [VL_len]; exact hm) ?turn ?hk ?hs)
    case hsc => with_unfolding_all exact rfl
    case hx => intro C; exact Or.inl rfl
    case hv => exact trivial
    case hxn => rfl
    case hs => intro _; rfl
    case hit =>
      repeat walk_at "e5"
      rfl
    case turn =>
      intro C i d hd
      obtain ⟨hi, rfl⟩ := VL_mem hd
      show Wt _ _ _ _ _ _
      by_cases h0 : (w i).num = 0
      · rw [if_pos h0]
        repeat walk_at "e5"
        rfl
      · rw [if_neg h0]
        repeat walk_at "e5"
        rfl
    case hk =>
      rw [VL_len]
      exact ⟨_, ⟨_, rfl, rfl⟩, by have : ((List.range m).flatMap fun i => if (w i).num = 0 then ([] : List D) else [ratD (w i)]).length ≤ m := hu; omega, hk⟩
theorem f_rss (hK : KC c) {m : Nat} {W : Option (Nat → Rat)} {re : Nat → Rat} {P B N S T C : List D} {fi : D} {ra df : Int} {k : D → Prop} (hm : m ≤ 15) (hw : Vw m W) (hr : Vd 1379 m re) (hk : k (ratD (ip m W re re))) :
    Fc c (n + 9) 203 [objD P B N S T C fi (vecD m re) (wD m W) ra df] k := by
  refine' Fc1 (Str.ofString "found") ?ho ?hcd ?hsc ?hb ?h
  walk_at "in1"
  repeat walk_at "e5"
  refine f_weighted hK (by omega) (A := 1379) (by omega) hr hw ?_
  repeat walk_at "e5"
  exact f_ip hK hm hw (A := 1379) (B := 1379) (by omega) hr hr hk
theorem f_step_square (hK : KC c) {nn i : Nat} {nr st : Nat → Rat} {P B S C : List D} {fi re we : D} {ra df : Int} {k : D → Prop} (hi : i < nn) (h3 : nn ≤ 3) (hst : ∀ i, i < nn → Rd (4 * Sb i + 16) (st i)) (hnr : ∀ i, i < nn → Rd (2 * Sb i + 8) (nr i))
    (hk : k (ratD (st i * st i * nr i))) : Fc c (n + 8) 210 [objD P B (VL nn nr) S (VL nn st) C fi re we ra df, .int (i : Nat)] k := by
  have := Sb_le2 (t := i) (by omega)
  have b1 : Bd (st i) := (hst i hi).bd (by omega)
  have b2 : Bd (nr i) := (hnr i hi).bd (by omega)
  have b3 : Bd (st i * st i) := ((hst i hi).mul (hst i hi)).bd (by omega)
  refine' Fc2 (Str.ofString "found") (Str.ofString "k") ?ho ?hcd ?hsc ?hb ?h
  walk_at "in2"
  repeat walk_at "e5"
  exact hk
theorem f_anova (hK : KC c) {nn wide : Nat} {pv : Nat → Nat} {asg : Nat → Int} {nr st : Nat → Rat} {B S C : List D} {fi re we : D} {df : Int} {k : D → Prop} (h3 : nn ≤ 3) (hwd : wide ≤ 1000) (hpv : ∀ i, i < nn → pv i < wide)
    (hst : ∀ i, i < nn → Rd (4 * Sb i + 16) (st i)) (hnr : ∀ i, i < nn → Rd (2 * Sb i + 8) (nr i)) (hk : k (.lst ((an pv asg st nr nn).map arD))) :
    Fc c (n + 10) 217 [objD (Ls nn fun i => .int (pv i : Nat)) B (VL nn nr) S (VL nn st) C fi re we (nn : Nat) df, .lst (Ls wide fun i => .int (asg i))] k := by
  refine' Fc2 (Str.ofString "found") (Str.ofString "assign") ?ho ?hcd ?hsc ?hb ?h
  walk_at "in2"
  repeat walk_at "e5"
  intro rows
  repeat walk_at "e5"
  refine' Ws_forN nn (fun i => [(Str.ofString "rows", .raw (.ref rows)), (Str.ofString "found", objD (Ls nn fun i => .int (pv i : Nat)) B (VL nn nr) S (VL nn st) C fi re we (nn : Nat) df), (Str.ofString "assign", .lst (Ls wide fun i => .int (asg i)))])
    (fun i => [(rows, .lst ((an pv asg st nr i).map arD))]) ?hx ?hm ?h0 ?ho ?hn ?hit ?turn ?done ?hs
  walk_at "for"
  case hit =>
    repeat walk_at "e5"
    rfl
  case done =>
    repeat walk_at "e5"
    exact hk
  case turn =>
    intro i hi
    have hp := hpv i hi
    have hl := an_len pv asg st nr i
    have hr := an_rd (pv := pv) (asg := asg) hst hnr i (by omega)
    have hs := sq_rd hst hnr hi
    have hT := Tb_le (i := i) (by omega)
    have hS := Sb_le2 (t := i) (by omega)
    have bs : Bd (st i * st i * nr i) := hs.bd (by omega)
    rw [an]
    generalize an pv asg st nr i = R at *
    rcases List.eq_nil_or_concat R with h | ⟨R', r, h⟩
    · subst h
      rw [anS_nil]
      simp only [List.map_nil, List.map_cons]
      repeat walk_at "e5"
      refine f_step_square hK hi h3 hst hnr ?_
      repeat walk_at "e5"
      walk_at "ap"
      repeat walk_at "e5"
      walk_at "turned"
    · rw [List.concat_eq_append] at h
      subst h
      have br : Bd r.2.2 := (hr r (by simp)).bd (by omega)
      have hl2 : (R'.map arD).length ≤ 3 := by simp at hl ⊢; omega
      by_cases q : r.1 = asg (pv i)
      · rw [anS_eq q]
        simp only [List.map_append, List.map_nil, List.map_cons]
        repeat walk_at "e5"
        refine f_step_square hK hi h3 hst hnr ?_
        repeat walk_at "e5"
        refine Ws_setLast ?_
        repeat walk_at "e5"
        refine ⟨_, [], _, _, _, rfl, rfl, rfl, by omega, ?_⟩
        repeat walk_at "e5"
        walk_at "turned"
      · rw [anS_ne q]
        simp only [List.map_append, List.map_nil, List.map_cons]
        repeat walk_at "e5"
        refine f_step_square hK hi h3 hst hnr ?_
        repeat walk_at "e5"
        walk_at "ap"
        repeat walk_at "e5"
        walk_at "turned"
theorem f_cov (hK : KC c) {nn : Nat} {sh : Nat → Nat → Rat} {nr : Nat → Rat} {P B T C : List D} {fi re we : D} {df : Int} {k : D → Prop} (h3 : nn ≤ 3)
    (hs : ∀ t i, t < nn → i < t → Rd (4 * Sb i + 16) (sh t i)) (hnr : ∀ i, i < nn → Rd (2 * Sb i + 8) (nr i)) (hz : ∀ i, i < nn → nr i ≠ 0) (hk : k (.lst (Ls nn fun i => .lst (VL nn (covF nn (invF sh) nr i))))) :
    Fc c (n + 10) 231 [objD P B (VL nn nr) (Ls nn fun i => .lst (VL i (sh i))) T C fi re we (nn : Nat) df] k := by
  have hinv : ∀ i j, i < nn → j < nn → Rd 300 (invF sh i j) := fun i j hi hj => invF_rd h3 hs hi hj
  refine' Fc1 (Str.ofString "found") ?ho ?hcd ?hsc ?hb ?h
  walk_at "in1"
  repeat walk_at "e5"
  refine f_inv hK h3 hs ?_
  generalize invF sh = inv at *
  repeat walk_at "e5"
  intro rows
  repeat walk_at "e5"
  refine' Ws_forN nn (fun i => [(Str.ofString "rows", .raw (.ref rows)), (Str.ofString "inverse", .lst (Ls nn fun i => .lst (VL nn (inv i)))), (Str.ofString "found", objD P B (VL nn nr) (Ls nn fun i => .lst (VL i (sh i))) T C fi re we (nn : Nat) df)])
    (fun i => [(rows, .lst (Ls i fun i => .lst (VL nn (covF nn inv nr i))))]) ?hx ?hm ?h0 ?ho ?hn ?hit ?turn ?done ?hs
  walk_at "for"
  case hit =>
    repeat walk_at "e5"
    rfl
  case done =>
    repeat walk_at "e5"
    exact hk
  case turn =>
    intro i hi
    repeat walk_at "e5"
    intro row
    repeat walk_at "e5"
    refine' Ws_forN nn (fun j => [(Str.ofString "row", .raw (.ref row)), (Str.ofString "i", .int (i : Nat)), (Str.ofString "rows", .raw (.ref rows)), (Str.ofString "inverse", .lst (Ls nn fun i => .lst (VL nn (inv i)))), (Str.ofString "found", objD P B (VL nn nr) (Ls nn fun i => .lst (VL i (sh i))) T C fi re we (nn : Nat) df)])
      (fun j => [(row, .lst (VL j (covF nn inv nr i))), (rows, .lst (Ls i fun i => .lst (VL nn (covF nn inv nr i))))]) ?hx ?hm ?h0 ?ho ?hn ?hit ?turn ?done ?hs
    walk_at "for"
    case hit =>
      repeat walk_at "e5"
      rfl
    case done =>
      refine Wx_freeze (pre := []) [(Str.ofString "row", .lst (VL nn (covF nn inv nr i))), (Str.ofString "i", .int (i : Nat)), (Str.ofString "rows", .raw (.ref rows)), (Str.ofString "inverse", .lst (Ls nn fun i => .lst (VL nn (inv i)))), (Str.ofString "found", objD P B (VL nn nr) (Ls nn fun i => .lst (VL i (sh i))) T C fi re we (nn : Nat) df)]
        [(rows, .lst (Ls i fun i => .lst (VL nn (covF nn inv nr i))))] (by walk_at "fv") (FrozO.refl _ _ _) ?_
      repeat walk_at "e5"
      walk_at "ap"
      repeat walk_at "e5"
      refine Wx_nil ⟨?_, ?_⟩
      · walk_at "sub"
      · show _ = [(rows, AO.lst (Ls (i + 1) _))]
        rw [Ls_succ]; rfl
    case turn =>
      intro j hj
      repeat walk_at "e5"
      refine' Ws_forL (Ls (nn - max i j) fun q => .int ((max i j + q : Nat) : Int)) (fun q => [(Str.ofString "total", ratD (covT inv nr (max i j) i j q)), (Str.ofString "row", .raw (.ref row)), (Str.ofString "j", .int (j : Nat)), (Str.ofString "i", .int (i : Nat)), (Str.ofString "rows", .raw (.ref rows)), (Str.ofString "inverse", .lst (Ls nn fun i => .lst (VL nn (inv i)))), (Str.ofString "found", objD P B (VL nn nr) (Ls nn fun i => .lst (VL i (sh i))) T C fi re we (nn : Nat) df)])
        (fun q => [(row, .lst (VL j (covF nn inv nr i))), (rows, .lst (Ls i fun i => .lst (VL nn (covF nn inv nr i))))]) ?hx ?h0 ?ho ?hn ?hit ?turn ?done ?hs
      walk_at "for"
      case hit =>
        repeat walk_at "e5"
        exact items_mx hi hj h3
      case turn =>
        intro q d hd
        obtain ⟨hq, rfl⟩ := Ls_mem hd
        have hkk : max i j + q < nn := by omega
        obtain ⟨p1, p2, p3⟩ := part_rd h3 hinv hnr hz hi hj hkk
        have b1 : Bd (inv i (max i j + q)) := (hinv i _ hi hkk).bd (by decide)
        have b2 : Bd (inv j (max i j + q)) := (hinv j _ hj hkk).bd (by decide)
        have b3 : Bd (inv i (max i j + q) * inv j (max i j + q)) := p1.bd (by decide)
        have b4 : Bd (nr (max i j + q)) := p3.bd (by decide)
        have b5 : nr (max i j + q) ≠ 0 := hz _ hkk
        have b6 := p2.bd (by decide)
        have b7 : Bd (covT inv nr (max i j) i j q) := (covT_rd h3 hinv hnr hz hi hj q (by omega)).bd (by omega)
        have hc : covT inv nr (max i j) i j (q + 1) = covT inv nr (max i j) i j q + inv i (max i j + q) * inv j (max i j + q) / nr (max i j + q) := rfl
        rw [hc]
        generalize max i j + q = kk at *
        repeat walk_at "e5"
        walk_at "turned"
      case done =>
        rw [Ls_len]
        repeat walk_at "e5"
        walk_at "ap"
        repeat walk_at "e5"
        refine Wx_nil ⟨?_, ?_⟩
        · walk_at "sub"
        · show _ = (row, AO.lst (VL (j + 1) _)) :: _
          rw [VL_succ]; rfl
end
def cfL (wide : Nat) (pv : Nat → Nat) (v : Nat → Rat) : Nat → List D
  | 0 => List.replicate wide .none
  | t + 1 => (cfL wide pv v t).set (pv t) (ratD (v t))
theorem cfL_len (wide : Nat) (pv : Nat → Nat) (v : Nat → Rat) : ∀ t, (cfL wide pv v t).length = wide
  | 0 => by simp [cfL]
  | t + 1 => by rw [cfL, List.length_set]; exact cfL_len wide pv v t
def fitO (m : Nat) (W : Option (Nat → Rat)) (cols : Nat → Nat → Rat) (y : Nat → Rat) (wide : Nat) (o : Og) : D :=
  objD (pivD o) (basD m o) (norD o) (shaD o) (VL o.n (fac m W o.bs o.nr y)) (cfL wide o.pv (backF o.n o.sh (fac m W o.bs o.nr y)) o.n) (vecD m fun r => y r - sw m W o.bs o.nr y o.n r) (vecD m (sw m W o.bs o.nr y o.n)) (wD m W) (o.n : Nat) ((usedR m W : Nat) - (o.n : Nat))
def fitD (m : Nat) (W : Option (Nat → Rat)) (cols : Nat → Nat → Rat) (y : Nat → Rat) (wide : Nat) : D := fitO m W cols y wide (og m W cols wide)
def W0 (m : Nat) : Option (Nat → Rat) → Prop
  | none => True
  | some w => ∀ r, r < m → 0 ≤ w r
section
variable {c : Cx} {n : Nat}
set_option maxHeartbeats 8000000
theorem f_fit (hK : KC c) {m wide : Nat} {W : Option (Nat → Rat)} {cols : Nat → Nat → Rat} {y : Nat → Rat} {ds : List D} {k : D → Prop} (hm : m ≤ 15) (hwd : wide ≤ 3) (hw : Vw m W) (hw0 : W0 m W) (hc : ∀ i, i < wide → Vd 3 m (cols i)) (hy : Vd 3 m y)
    (hds : ds = [colD m wide cols, vecD m y, wD m W] ∨ (W = none ∧ ds = [colD m wide cols, vecD m y])) (hk : k (fitD m W cols y wide)) : Fc c (n + 12) 196 ds k := by
  have hB : OgB m (og m W cols wide) := og_b hm hw wide hwd hc
  have hpv := og_pv (m := m) (W := W) (cols := cols) wide
  refine' Fc_of (es := [colD m wide cols, vecD m y, wD m W]) [Str.ofString "columns", Str.ofString "y", Str.ofString "weights"] ?ho ?hcd ?hsc ?hb ?hlen ?h
  case ho => rw [hK]; with_unfolding_all exact rfl
  case hcd => rw [hK]; with_unfolding_all exact rfl
  case hsc => with_unfolding_all exact rfl
  case hb =>
    intro im s vs X r
    rw [hK] at X
    rcases hds with rfl | ⟨rfl, rfl⟩
    · refine ⟨vs, ?_, r⟩
      obtain ⟨v1, v2, v3, rfl, _⟩ := r.l3
      exact binds_K X rfl (by with_unfolding_all exact rfl) rfl (by with_unfolding_all exact rfl) (by with_unfolding_all exact rfl)
    · obtain ⟨v1, v2, rfl, r1, r2⟩ := r.l2
      exact ⟨[v1, v2, Value.none], binds_K X rfl (by with_unfolding_all exact rfl) rfl (by with_unfolding_all exact rfl) (by with_unfolding_all exact rfl), .cons r1 (.cons r2 (.cons .none .nil))⟩
  case hlen => rfl
  intro L
  repeat walk_at "e8"
  refine' Ws_forL (Ls wide fun i => vecD m (cols i)) (fun i => [(Str.ofString "columns", colD m wide cols), (Str.ofString "y", vecD m y), (Str.ofString "weights", wD m W)]) (fun _ => []) ?hx ?h0 ?ho ?hn ?hit ?turn ?done ?hs
  walk_at "for"
  case hit =>
    unfold colD
    repeat walk_at "e8"
    rfl
  case turn =>
    intro i d hd
    obtain ⟨hi, rfl⟩ := Ls_mem hd
    repeat walk_at "e8"
    intro v
    repeat walk_at "e8"
    refine f_check_finite hK (m := m) (by omega) ?_
    repeat walk_at "e8"
    walk_at "turned"
  repeat walk_at "e8"
  intro v
  repeat walk_at "e8"
  refine f_check_finite hK (m := m) (by omega) ?_
  walk_at "e8"
  walk_at "e8"
  refine Ws_cut [(Str.ofString "columns", colD m wide cols), (Str.ofString "y", vecD m y), (Str.ofString "weights", wD m W)] [] ?_ ?_
  · cases W with
    | none =>
      unfold wD
      repeat walk_at "e8"
      walk_at "turned"
    | some w =>
      unfold wD
      repeat walk_at "e8"
      refine f_check_weights hK (m := m) (by omega) hw0 ?_
      repeat walk_at "e8"
      walk_at "turned"
  walk_at "e8"
  refine Ws_assignO (.inl rfl) (Wo_call (mv := []) (rest := []) (f := 178) rfl (by rw [hK]; kernel_rfl) (by rw [hK]; kernel_rfl) ?_)
  repeat walk_at "e8"
  refine f_orthogonal hK hm hwd hw hc fun a dx ap ab an as st => ?_
  have ef : fitD m W cols y wide = fitO m W cols y wide (og m W cols wide) := rfl
  rw [ef] at hk
  generalize og m W cols wide = o at *
  have hsw := sw_vd hm hw hB hy
  have hS := fun t (h : t ≤ 2) => Sb_le2 h
  have n3 := hB.n3
  repeat walk_at "e8"
  refine' Ws_forN o.n (fun t => [(Str.ofString "rest", vecD m (sw m W o.bs o.nr y t)), (Str.ofString "found", .raw (.ref a)), (Str.ofString "columns", colD m wide cols), (Str.ofString "y", vecD m y), (Str.ofString "weights", wD m W)])
    (fun t => ownF a dx ap ab an as st (pivD o) (basD m o) (norD o) (shaD o) (VL t (fac m W o.bs o.nr y)) (.lst []) (.lst []) (.lst []) .none (o.n : Nat) 0) ?hx2 ?hm2 ?h02 ?ho2 ?hn2 ?hit2 ?turn2 ?done2 ?hs2
  case hx2 => exact Or.inl rfl
  case hm2 => omega
  case h02 => walk_at "sub"
  case ho2 => rfl
  case hn2 => intro i; rfl
  case hs2 => intro _; rfl
  case hit2 =>
    repeat walk_at "e8"
    rfl
  case turn2 =>
    intro t ht
    have hSt := hS t (by omega)
    have z1 := hsw t (by omega)
    have z2 := hB.bs t ht
    repeat walk_at "e8"
    refine f_weighted hK (by omega) (A := Sb t) (by omega) z1 hw ?_
    repeat walk_at "e8"
    refine f_ip hK hm hw (A := Sb t) (B := Sb t) (by omega) z1 z2 ?_
    repeat walk_at "e8"
    refine f_div hK ((ip_rd hm hw z1 z2).bd (by omega)) ((hB.nr t ht).bd (by omega)) (hB.nz t ht) ?_
    repeat walk_at "e8"
    walk_at "ap"
    repeat walk_at "e8"
    refine f_less_multiple hK (by omega) (A := Sb t) (F := 4 * Sb t + 16) (B := Sb t) (by omega) z1 (fac_rd hm hw hB hy ht) z2 ?_
    refine Wx_nil ⟨?_, ?_⟩
    · walk_at "sub"
    · show _ = (st, AO.lst (VL (t + 1) _)) :: _
      rw [VL_succ]; rfl
  walk_at "e8"
  refine Ws_setattrOwn (by with_unfolding_all decide) (Wf_rep (Wf_list (Wes_cons (We_none (Wes_nil ⟨Nat.le_trans (Nat.le_of_ble_eq_true rfl : 1 ≤ 100000) (by decide), _, rfl, ?_⟩)) rfl)))
  unfold colD
  repeat walk_at "e8"
  refine ⟨wide, rfl, by omega, fun b => ?_⟩
  repeat walk_at "e8"
  refine ⟨_, _, [_, _], _, _, rfl, rfl, Nat.le_of_ble_eq_true rfl, ?_⟩
  walk_at "e8"
  refine Ws_assignO (.inl rfl) (Wo_call (mv := ownC b (List.replicate wide .none) a dx ap ab an as st (pivD o) (basD m o) (norD o) (shaD o) (VL o.n (fac m W o.bs o.nr y)) (.raw (.ref b)) (.lst []) (.lst []) .none (o.n : Nat) 0) (rest := []) (f := 185) rfl (by rw [hK]; kernel_rfl) (by rw [hK]; kernel_rfl) ?_)
  repeat walk_at "e8"
  refine f_back hK n3 hB.sh (fun t ht => fac_rd hm hw hB hy ht) ?_
  repeat walk_at "e8"
  refine' Ws_forN o.n (fun t => [(Str.ofString "values", .lst (VL o.n (backF o.n o.sh (fac m W o.bs o.nr y)))), (Str.ofString "rest", vecD m (sw m W o.bs o.nr y o.n)), (Str.ofString "found", .raw (.ref a)), (Str.ofString "columns", .lst (Ls wide fun i => vecD m (cols i))), (Str.ofString "y", vecD m y), (Str.ofString "weights", wD m W)])
    (fun t => ownC b (cfL wide o.pv (backF o.n o.sh (fac m W o.bs o.nr y)) t) a dx ap ab an as st (pivD o) (basD m o) (norD o) (shaD o) (VL o.n (fac m W o.bs o.nr y)) (.raw (.ref b)) (.lst []) (.lst []) .none (o.n : Nat) 0) ?hx3 ?hm3 ?h03 ?ho3 ?hn3 ?hit3 ?turn3 ?done3 ?hs3
  case hx3 => exact Or.inl rfl
  case hm3 => omega
  case h03 => walk_at "sub"
  case ho3 => rfl
  case hn3 => intro i; rfl
  case hs3 => intro _; rfl
  case hit3 =>
    repeat walk_at "e8"
    rfl
  case turn3 =>
    intro t ht
    have hp := hpv t ht
    have hl := cfL_len wide o.pv (backF o.n o.sh (fac m W o.bs o.nr y)) t
    repeat walk_at "e8"
    refine Ws_setitem ?_
    repeat walk_at "e8"
    refine ⟨_, [], _, _, _, o.pv t, rfl, rfl, rfl, by omega, by omega, ?_, ?_, ?_⟩
    · rw [hl]; simp [seqIndex?]; omega
    · rw [hl]; exact hp
    repeat walk_at "e8"
    walk_at "turned"
  walk_at "e8"
  walk_at "sa"
  walk_at "e8"
  have hz := hsw o.n (Nat.le_refl _)
  have hSn := Sb_le n3
  refine Ws_setattr (by with_unfolding_all decide) ?_
  refine' We_of_Wf (Wf_compN m [(Str.ofString "y", vecD m y), (Str.ofString "rest", vecD m (sw m W o.bs o.nr y o.n))] (fun i => ratD (y i - sw m W o.bs o.nr y o.n i)) ?hsc4 ?hx4 ?hv4 ?hxn4 (by omega) ?hit4 ?turn4 ?hk4 ?hs4)
  case hsc4 => with_unfolding_all exact rfl
  case hx4 => intro C; exact Or.inl rfl
  case hv4 => exact ⟨rfl, rfl, Or.inl rfl, rfl, rfl, Or.inl rfl, trivial⟩
  case hxn4 => with_unfolding_all exact rfl
  case hs4 => intro _; rfl
  case hit4 =>
    repeat walk_at "e8"
    rfl
  case turn4 =>
    intro C i hi
    have b1 : Bd (y i) := (hy.at hi).bd (by decide)
    have b2 : Bd (sw m W o.bs o.nr y o.n i) := (hz.at hi).bd (by omega)
    repeat walk_at "e8"
    rfl
  repeat walk_at "e8"
  refine ⟨_, _, [_, _], _, _, rfl, rfl, Nat.le_of_ble_eq_true rfl, ?_⟩
  walk_at "e8"
  walk_at "sa"
  walk_at "e8"
  refine Ws_setattr (by with_unfolding_all decide) ?_
  repeat walk_at "e8"
  refine f_used hK (by omega) ?_
  repeat walk_at "e8"
  refine ⟨_, _, [_, _], _, _, rfl, rfl, Nat.le_of_ble_eq_true rfl, ?_⟩
  repeat walk_at "e8"
  refine' Ws_retFit ?h1 ?h2 ?_
  case h1 => rfl
  case h2 => rfl
  exact hk
end
/-! the script's readings -/
abbrev scrD (n : Nat) (v : Nat → Int) : D := .lst (Ls n fun i => .int (v i))
def pull (n : Nat) (v : Nat → Int) (s l : Nat) : Nat := ((if s < n then v s else (s : Int) * 5 + 2).fmod l).toNat
theorem pull_lt {n : Nat} {v : Nat → Int} {s l : Nat} (hl : 0 < l) : pull n v s l < l := by
  unfold pull
  have h1 := Int.fmod_lt_of_pos (if s < n then v s else (s : Int) * 5 + 2) (show (0 : Int) < l by omega)
  have h2 := Int.fmod_nonneg_of_pos (if s < n then v s else (s : Int) * 5 + 2) (show (0 : Int) < l by omega)
  omega
theorem pull_eq {n : Nat} {v : Nat → Int} {s l : Nat} (hl : 0 < l) : ((pull n v s l : Nat) : Int) = (if s < n then v s else (s : Int) * 5 + 2).fmod l := by
  unfold pull
  have h2 := Int.fmod_nonneg_of_pos (if s < n then v s else (s : Int) * 5 + 2) (show (0 : Int) < l by omega)
  omega
def entI : Nat → Int
  | 0 => 0
  | 1 => 2
  | 2 => 4
  | 3 => -2
  | 4 => 1
  | _ => 6
def ent (j : Nat) : Rat := (entI j : Rat) / ((2 : Nat) : Int)
theorem ent_vd (m : Nat) (f : Nat → Nat) : Vd 3 m fun r => ent (f r) :=
  ⟨2, by decide, by decide, fun r _ => ⟨entI (f r), by unfold entI; split <;> decide, rfl⟩⟩
theorem ent_get {j : Nat} (h : j < 6) : [D.tup [.int 0, .int 1], .tup [.int 1, .int 1], .tup [.int 2, .int 1], .tup [.int (-1), .int 1], .tup [.int 1, .int 2], .tup [.int 3, .int 1]][j]? = some (ratD (ent j)) := by
  match j, h with
  | 0, _ => have : ent 0 = 0 := by decide +kernel
            rw [this]; rfl
  | 1, _ => have : ent 1 = 1 := by decide +kernel
            rw [this]; rfl
  | 2, _ => have : ent 2 = 2 := by decide +kernel
            rw [this]; rfl
  | 3, _ => have : ent 3 = -1 := by decide +kernel
            rw [this]; rfl
  | 4, _ => have : ent 4 = ⟨1, 2, by decide, by decide⟩ := by decide +kernel
            rw [this]; rfl
  | 5, _ => have : ent 5 = 3 := by decide +kernel
            rw [this]; rfl
section
variable {c : Cx} {n : Nat}
set_option maxHeartbeats 8000000
theorem f_pull (hK : KC c) {N s l : Nat} {v : Nat → Int} {k : D → Prop} (hN : N ≤ 63) (hs : s < 1000) (hl : 0 < l) (hk : k (.int (pull N v s l : Nat))) : Fc c (n + 8) 238 [scrD N v, .int (s : Nat), .int (l : Nat)] k := by
  rw [pull_eq hl] at hk
  refine' Fc3 (Str.ofString "script") (Str.ofString "spot") (Str.ofString "limit") ?ho ?hcd ?hsc ?hb ?h
  walk_at "in3"
  by_cases h : s < N
  · rw [if_pos h] at hk
    repeat walk_at "e9"
    refine b_mod (by omega) ?_
    exact hk
  · rw [if_neg h] at hk
    repeat walk_at "e9"
    refine b_mul (mulOk (k := 20) (l := 20) (by unfold Sz; omega) (by unfold Sz; omega) (by decide) (by decide) (by decide)) ?_
    repeat walk_at "e9"
    refine b_mod (by omega) ?_
    exact hk
theorem f_entry (hK : KC c) {N s : Nat} {v : Nat → Int} {k : D → Prop} (hN : N ≤ 63) (hs : s < 1000) (hk : k (ratD (ent (pull N v s 6)))) : Fc c (n + 9) 245 [scrD N v, .int (s : Nat)] k := by
  refine' Fc2 (Str.ofString "script") (Str.ofString "spot") ?ho ?hcd ?hsc ?hb ?h
  walk_at "in2"
  repeat walk_at "e9"
  refine f_pull hK (l := 6) hN hs (by decide) ?_
  exact it_l (ent_get (pull_lt (by decide))) (by have := pull_lt (n := N) (v := v) (s := s) (l := 6) (by decide); omega) hk
theorem f_told (hK : KC c) {m : Nat} {W : Option (Nat → Rat)} {re : Nat → Rat} {P B N S T C : List D} {fi : D} {ra df : Int} {k : D → Prop} (hm : m ≤ 15) (hw : Vw m W) (hr : Vd 1379 m re) (hC : C.length ≤ 100) (hP : P.length ≤ 100)
    (hk : k (.lst [.lst C, .lst P, .int ra, ratD (ip m W re re)])) : Fc c (n + 10) 252 [objD P B N S T C fi (vecD m re) (wD m W) ra df] k := by
  refine' Fc1 (Str.ofString "found") ?ho ?hcd ?hsc ?hb ?h
  walk_at "in1"
  repeat walk_at "e9"
  refine f_rss hK hm hw hr ?_
  repeat walk_at "e9"
  exact hk
theorem f_sums (hK : KC c) {nn wide : Nat} {pv : Nat → Nat} {asg : Nat → Int} {sh : Nat → Nat → Rat} {nr st : Nat → Rat} {B C : List D} {fi re we : D} {df : Int} {k : D → Prop} (h3 : nn ≤ 3) (hwd : wide ≤ 1000) (hpv : ∀ i, i < nn → pv i < wide)
    (hst : ∀ i, i < nn → Rd (4 * Sb i + 16) (st i)) (hnr : ∀ i, i < nn → Rd (2 * Sb i + 8) (nr i)) (hs : ∀ t i, t < nn → i < t → Rd (4 * Sb i + 16) (sh t i)) (hz : ∀ i, i < nn → nr i ≠ 0)
    (hk : k (.lst [.lst ((an pv asg st nr nn).map arD), .lst (Ls nn fun i => .lst (VL nn (covF nn (invF sh) nr i)))])) :
    Fc c (n + 12) 257 [objD (Ls nn fun i => .int (pv i : Nat)) B (VL nn nr) (Ls nn fun i => .lst (VL i (sh i))) (VL nn st) C fi re we (nn : Nat) df, .lst (Ls wide fun i => .int (asg i))] k := by
  have hl := an_len pv asg st nr nn
  refine' Fc2 (Str.ofString "found") (Str.ofString "owners") ?ho ?hcd ?hsc ?hb ?h
  walk_at "in2"
  repeat walk_at "e9"
  refine f_anova hK h3 hwd hpv hst hnr ?_
  repeat walk_at "e9"
  refine cp_l rfl (by rw [List.length_map]; omega) ?_
  repeat walk_at "e9"
  refine' We_of_Wf (Wf_compM (Ls nn fun i => .lst (VL nn (covF nn (invF sh) nr i))) [] (fun i => .lst (VL nn (covF nn (invF sh) nr i))) ?hsc ?hx ?hv ?hxn ?hit (by rw [Ls_len]; omega) ?turn ?hk ?hs)
  case hsc => with_unfolding_all exact rfl
  case hx => intro C; exact Or.inl rfl
  case hv => exact trivial
  case hxn => rfl
  case hs => intro _; rfl
  case hit =>
    repeat walk_at "e9"
    exact f_cov hK h3 hs hnr hz rfl
  case turn =>
    intro C i d hd
    obtain ⟨hi, rfl⟩ := Ls_mem hd
    repeat walk_at "e9"
    rfl
  case hk =>
    rw [Ls_len]
    repeat walk_at "e9"
    exact hk
end
/-! the plain law -/
def wt (W : Option (Nat → Rat)) (r : Nat) : Rat := match W with
  | none => 1
  | some w => w r
theorem ip_wt (m : Nat) (W : Option (Nat → Rat)) (u v : Nat → Rat) : ip m W u v = psum (fun r => wt W r * (u r * v r)) m := by
  unfold ip
  refine psum_congr fun r _ => ?_
  cases W with
  | none => unfold wgt wt; dsimp only; grind
  | some w => unfold wgt wt; dsimp only; grind
/-- the one fit is the other's, its rows read through idx, all weights times cc -/
def Sim (m : Nat) (W : Option (Nat → Rat)) (m' : Nat) (W' : Option (Nat → Rat)) (idx : Nat → Nat) (cc : Rat) : Prop :=
  ∀ f : Nat → Rat, psum (fun j => wt W' j * f (idx j)) m' = cc * psum (fun r => wt W r * f r) m
def thr (idx : Nat → Nat) (u : Nat → Rat) : Nat → Rat := fun j => u (idx j)
def tr (idx : Nat → Nat) (cc : Rat) (o : Og) : Og := ⟨o.n, o.pv, fun t => thr idx (o.bs t), fun t => cc * o.nr t, o.sh⟩
section
variable {m m' : Nat} {W W' : Option (Nat → Rat)} {idx : Nat → Nat} {cc : Rat}
theorem sim_ip (H : Sim m W m' W' idx cc) (u v : Nat → Rat) : ip m' W' (thr idx u) (thr idx v) = cc * ip m W u v := by
  rw [ip_wt, ip_wt]
  exact H fun r => u r * v r
theorem div_cc (hc : cc ≠ 0) (a b : Rat) : cc * a / (cc * b) = a / b := by
  by_cases hb : b = 0
  · subst hb; simp [Rat.div_def]
  · have : cc * b ≠ 0 := fun h => by rcases Rat.mul_eq_zero.mp h with h | h <;> contradiction
    grind
theorem sim_sw (H : Sim m W m' W' idx cc) (hc : cc ≠ 0) (o : Og) (u : Nat → Rat) : ∀ t, sw m' W' (tr idx cc o).bs (tr idx cc o).nr (thr idx u) t = thr idx (sw m W o.bs o.nr u t)
  | 0 => rfl
  | t + 1 => by
    have ih := sim_sw H hc o u t
    rw [sw, ih]
    show (fun r => thr idx (sw m W o.bs o.nr u t) r - ip m' W' (thr idx (sw m W o.bs o.nr u t)) (thr idx (o.bs t)) / (cc * o.nr t) * thr idx (o.bs t) r) = _
    rw [sim_ip H, div_cc hc]
    rfl
theorem sim_fac (H : Sim m W m' W' idx cc) (hc : cc ≠ 0) (o : Og) (u : Nat → Rat) : fac m' W' (tr idx cc o).bs (tr idx cc o).nr (thr idx u) = fac m W o.bs o.nr u := by
  funext t
  unfold fac
  rw [sim_sw H hc]
  show ip m' W' (thr idx (sw m W o.bs o.nr u t)) (thr idx (o.bs t)) / (cc * o.nr t) = _
  rw [sim_ip H, div_cc hc]
theorem upd_map {α β : Type} (F : α → β) (f : Nat → α) (n : Nat) (x : α) : upd (fun t => F (f t)) n (F x) = fun t => F (upd f n x t) := by
  funext t; unfold upd; split <;> rfl
theorem sim_step (H : Sim m W m' W' idx cc) (hc : cc ≠ 0) (o : Og) (u : Nat → Rat) (p : Nat) : ogStep m' W' (thr idx u) p (tr idx cc o) = tr idx cc (ogStep m W u p o) := by
  unfold ogStep
  have e1 : sw m' W' (tr idx cc o).bs (tr idx cc o).nr (thr idx u) (tr idx cc o).n = thr idx (sw m W o.bs o.nr u o.n) := sim_sw H hc o u o.n
  rw [e1, sim_ip H, sim_fac H hc]
  by_cases h : ip m W (sw m W o.bs o.nr u o.n) (sw m W o.bs o.nr u o.n) = 0
  · rw [if_pos h, if_pos (by rw [h, Rat.mul_zero])]
  · rw [if_neg h, if_neg fun q => by rcases Rat.mul_eq_zero.mp q with q | q <;> contradiction]
    unfold tr
    dsimp only
    congr 1
    · exact upd_map (thr idx) o.bs o.n _
    · exact upd_map (fun z => cc * z) o.nr o.n _
theorem sim_og (H : Sim m W m' W' idx cc) (hc : cc ≠ 0) (cols : Nat → Nat → Rat) : ∀ p, og m' W' (fun c => thr idx (cols c)) p = tr idx cc (og m W cols p)
  | 0 => by
    rw [og, og]; unfold tr
    congr 1
    funext t
    exact (Rat.mul_zero _).symm
  | p + 1 => by rw [og, og, sim_og H hc cols p, sim_step H hc]
def toldF (m : Nat) (W : Option (Nat → Rat)) (y : Nat → Rat) (wide : Nat) (o : Og) : List D :=
  [.lst (cfL wide o.pv (backF o.n o.sh (fac m W o.bs o.nr y)) o.n), .lst (pivD o), .int (o.n : Nat), ratD (ip m W (sw m W o.bs o.nr y o.n) (sw m W o.bs o.nr y o.n))]
def sumsF (m : Nat) (W : Option (Nat → Rat)) (y : Nat → Rat) (asg : Nat → Int) (o : Og) : List D :=
  [.lst ((an o.pv asg (fac m W o.bs o.nr y) o.nr o.n).map arD), .lst (Ls o.n fun i => .lst (VL o.n (covF o.n (invF o.sh) o.nr i)))]
theorem sim_told (H : Sim m W m' W' idx 1) (y : Nat → Rat) (wide : Nat) (o : Og) : toldF m' W' (thr idx y) wide (tr idx 1 o) = toldF m W y wide o := by
  have hc : (1 : Rat) ≠ 0 := by decide
  have e1 : sw m' W' (tr idx 1 o).bs (tr idx 1 o).nr (thr idx y) (tr idx 1 o).n = thr idx (sw m W o.bs o.nr y o.n) := sim_sw H hc o y o.n
  unfold toldF
  rw [e1, sim_ip H, sim_fac H hc, Rat.one_mul]
  rfl
theorem sim_sums (H : Sim m W m' W' idx 1) (y : Nat → Rat) (asg : Nat → Int) (o : Og) : sumsF m' W' (thr idx y) asg (tr idx 1 o) = sumsF m W y asg o := by
  have hc : (1 : Rat) ≠ 0 := by decide
  have e2 : (tr idx 1 o).nr = o.nr := by funext t; exact Rat.one_mul _
  unfold sumsF
  rw [sim_fac H hc, e2]
  rfl
theorem sim_told3 (H : Sim m W m' W' idx cc) (hc : cc ≠ 0) (y : Nat → Rat) (wide : Nat) (o : Og) : toldF m' W' (thr idx y) wide (tr idx cc o) = [.lst (cfL wide o.pv (backF o.n o.sh (fac m W o.bs o.nr y)) o.n), .lst (pivD o), .int (o.n : Nat), ratD (cc * ip m W (sw m W o.bs o.nr y o.n) (sw m W o.bs o.nr y o.n))] := by
  have e1 : sw m' W' (tr idx cc o).bs (tr idx cc o).nr (thr idx y) (tr idx cc o).n = thr idx (sw m W o.bs o.nr y o.n) := sim_sw H hc o y o.n
  unfold toldF
  rw [e1, sim_ip H, sim_fac H hc]
  rfl
end
/-! rows repeated, rows left out -/
def ix (l : List Nat) (j : Nat) : Nat := (l[j]?).getD 0
theorem psum_snoc (F : Nat → Rat) (l : List Nat) (a : Nat) : psum (fun j => F (ix (l ++ [a]) j)) (l ++ [a]).length = psum (fun j => F (ix l j)) l.length + F a := by
  rw [List.length_append, List.length_singleton, psum]
  congr 1
  · refine psum_congr fun r hr => ?_
    unfold ix
    rw [List.getElem?_append_left hr]
  · unfold ix
    simp
theorem psum_rep (F : Nat → Rat) (l : List Nat) (a : Nat) : ∀ k : Nat, psum (fun j => F (ix (l ++ List.replicate k a) j)) (l ++ List.replicate k a).length = psum (fun j => F (ix l j)) l.length + (k : Rat) * F a
  | 0 => by
    simp only [List.replicate_zero, List.append_nil]
    have : ((0 : Nat) : Rat) = 0 := rfl
    rw [this]; grind
  | k + 1 => by
    rw [List.replicate_succ', ← List.append_assoc, psum_snoc, psum_rep F l a k]
    have : ((k + 1 : Nat) : Rat) = (k : Rat) + 1 := by exact_mod_cast rfl
    rw [this]; grind
def agL (cnt : Nat → Nat) : Nat → List Nat
  | 0 => []
  | r + 1 => agL cnt r ++ List.replicate (cnt r) r
def prL (cnt : Nat → Nat) : Nat → List Nat
  | 0 => []
  | r + 1 => prL cnt r ++ if cnt r > 0 then [r] else []
theorem ag_sum (cnt : Nat → Nat) (F : Nat → Rat) : ∀ m, psum (fun j => F (ix (agL cnt m) j)) (agL cnt m).length = psum (fun r => (cnt r : Rat) * F r) m
  | 0 => rfl
  | m + 1 => by rw [agL, psum_rep, ag_sum cnt F m, psum]
theorem pr_sum (cnt : Nat → Nat) (F : Nat → Rat) : ∀ m, psum (fun j => (cnt (ix (prL cnt m) j) : Rat) * F (ix (prL cnt m) j)) (prL cnt m).length = psum (fun r => (cnt r : Rat) * F r) m
  | 0 => rfl
  | m + 1 => by
    rw [prL, psum]
    split
    · rw [psum_snoc (fun r => (cnt r : Rat) * F r), pr_sum cnt F m]
    · rename_i h
      have h0 : cnt m = 0 := by omega
      rw [List.append_nil, pr_sum cnt F m, h0]
      have : ((0 : Nat) : Rat) = 0 := rfl
      rw [this]; grind
theorem ag_lt (cnt : Nat → Nat) : ∀ m, ∀ r ∈ agL cnt m, r < m
  | 0, r, h => nomatch h
  | m + 1, r, h => by
    rw [agL] at h
    rcases List.mem_append.mp h with h | h
    · exact Nat.lt_succ_of_lt (ag_lt cnt m r h)
    · rw [(List.mem_replicate.mp h).2]; exact Nat.lt_succ_self _
theorem pr_lt (cnt : Nat → Nat) : ∀ m, ∀ r ∈ prL cnt m, r < m
  | 0, r, h => nomatch h
  | m + 1, r, h => by
    rw [prL] at h
    rcases List.mem_append.mp h with h | h
    · exact Nat.lt_succ_of_lt (pr_lt cnt m r h)
    · split at h
      · rw [List.mem_singleton.mp h]; exact Nat.lt_succ_self _
      · nomatch h
theorem ag_len (cnt : Nat → Nat) (h : ∀ r, cnt r ≤ 3) : ∀ m, (agL cnt m).length ≤ 3 * m
  | 0 => Nat.le_refl _
  | m + 1 => by rw [agL, List.length_append, List.length_replicate]; have := ag_len cnt h m; have := h m; omega
theorem pr_len (cnt : Nat → Nat) : ∀ m, (prL cnt m).length ≤ m
  | 0 => Nat.le_refl _
  | m + 1 => by rw [prL, List.length_append]; have := pr_len cnt m; split <;> simp <;> omega
theorem ix_mem {l : List Nat} {j : Nat} (h : j < l.length) : ix l j ∈ l := by
  unfold ix; rw [List.getElem?_eq_getElem h]; exact List.getElem_mem h
theorem sim_ag (cnt : Nat → Nat) (m : Nat) : Sim m (some fun r => (cnt r : Rat)) (agL cnt m).length none (ix (agL cnt m)) 1 := by
  intro f
  rw [Rat.one_mul]
  show psum (fun j => 1 * f (ix (agL cnt m) j)) _ = psum (fun r => (cnt r : Rat) * f r) m
  rw [← ag_sum cnt f m]
  exact psum_congr fun r _ => Rat.one_mul _
theorem sim_pr (cnt : Nat → Nat) (m : Nat) : Sim m (some fun r => (cnt r : Rat)) (prL cnt m).length (some fun j => (cnt (ix (prL cnt m) j) : Rat)) (ix (prL cnt m)) 1 := by
  intro f
  rw [Rat.one_mul]
  exact pr_sum cnt f m
theorem psum_mul (q : Rat) (f : Nat → Rat) : ∀ m, psum (fun r => q * f r) m = q * psum f m
  | 0 => (Rat.mul_zero _).symm
  | m + 1 => by rw [psum, psum, psum_mul q f m]; grind
theorem sim_th (w : Nat → Rat) (m : Nat) (q : Rat) : Sim m (some w) m (some fun r => q * w r) id q := by
  intro f
  show psum (fun r => q * w r * f r) m = q * psum (fun r => w r * f r) m
  rw [← psum_mul]
  exact psum_congr fun r _ => by grind
theorem used_pr (cnt : Nat → Nat) (m : Nat) : usedR m (some fun r => (cnt r : Rat)) = (prL cnt m).length := by
  show ((List.range m).flatMap fun i => if ((cnt i : Nat) : Rat).num = 0 then ([] : List D) else [ratD ((cnt i : Nat) : Rat)]).length = _
  induction m with
  | zero => rfl
  | succ m ih =>
    rw [List.range_succ, List.flatMap_append, List.length_append, prL, List.length_append, ← ih]
    congr 1
    simp only [List.flatMap_cons, List.flatMap_nil, List.append_nil]
    have : ((cnt m : Rat).num = 0) ↔ cnt m = 0 := by
      rw [Rat.num_natCast]; omega
    by_cases h : cnt m = 0
    · rw [if_pos (this.mpr h), if_neg (by omega)]; rfl
    · rw [if_neg fun q => h (this.mp q), if_pos (by omega)]; rfl
theorem used_pr2 (cnt : Nat → Nat) (m : Nat) : usedR (prL cnt m).length (some fun j => (cnt (ix (prL cnt m) j) : Rat)) = (prL cnt m).length := by
  have pos : ∀ m, ∀ r ∈ prL cnt m, cnt r > 0 := by
    intro m
    induction m with
    | zero => intro r h; nomatch h
    | succ m ih =>
      intro r h
      rw [prL] at h
      rcases List.mem_append.mp h with h | h
      · exact ih r h
      · split at h
        · rw [List.mem_singleton.mp h]; assumption
        · nomatch h
  show ((List.range (prL cnt m).length).flatMap fun i => if ((cnt (ix (prL cnt m) i) : Nat) : Rat).num = 0 then ([] : List D) else [ratD ((cnt (ix (prL cnt m) i) : Nat) : Rat)]).length = _
  have : ∀ l : List Nat, (∀ i ∈ l, cnt (ix (prL cnt m) i) > 0) → (l.flatMap fun i => if ((cnt (ix (prL cnt m) i) : Nat) : Rat).num = 0 then ([] : List D) else [ratD ((cnt (ix (prL cnt m) i) : Nat) : Rat)]).length = l.length := by
    intro l
    induction l with
    | nil => intro _; rfl
    | cons a l ih =>
      intro h
      have h1 := h a (.head _)
      rw [List.flatMap_cons, List.length_append, ih fun i hi => h i (.tail _ hi), if_neg (by rw [Rat.num_natCast]; omega), List.length_cons]
      simp; omega
  rw [this _ fun i hi => pos m _ (ix_mem (List.mem_range.mp hi)), List.length_range]
section
variable {c : Cx} {n : Nat} {fx : Fx} {σ : St} {k : D → Prop}
/-- x = [e for y in ..], x the frame's plain name -/
theorem Ws_assign_compM {elt iter : Expr} {x y : Str} {px py pos spos : Pos} {scope : Scope} {kn : St → Prop} {kr : St → D → Prop} (xs : List D) (vars : List (Str × D)) (g : Nat → D) (hy : fx.env.kindOf y = some .local) (hsc : scC fx scope = true) (hx : ∀ C, Storable (fxC scope C fx) x)
    (hv : SubC fx scope (fun x => σ.vars.lookup x) vars) (hxn : vars.lookup x = none) (hit : We c n fx σ iter fun d => itemsOf d xs) (hxl : xs.length ≤ 1000)
    (turn : ∀ C i d, xs[i]? = some d → We c n (fxC scope C fx) ⟨(x, d) :: vars, []⟩ elt fun o => o = g i) (hk : kn (σ.set y (.lst (Ls xs.length g))))
    (hs : ∀ x, foldedSetIterable iter fx.env x = pure x := by intro _; rfl)
    (hsw : swapsWith (.ListComp elt [⟨.Name x px, iter, [], 0⟩] scope pos) (some (.Name y py)) spos.line fx.env = pure true := by rfl) :
    Ws c n fx σ (.Assign [.Name y py] (.ListComp elt [⟨.Name x px, iter, [], 0⟩] scope pos) spos) kn kr := by
  refine Ws_assign_comp hy hsc hx (We.mono hit fun d hd => ⟨xs, vars, fun i => Ls i g, hd, hv, hxn, rfl, fun i hi => ?_, fun C i d hd => ?_, hk⟩) hs hsw
  · dsimp only; rw [Ls_len]; omega
  · show We _ _ _ _ _ _
    refine We.mono (turn C i d hd) fun o ho => ?_
    rw [ho]; exact Ls_succ i g
theorem Wf_cN {elt iter : Expr} {x : Str} {px pos : Pos} {scope : Scope} {k : List D → Prop} (m : Nat) (vars : List (Str × D)) (g : Nat → D) (hsc : scC fx scope = true) (hx : ∀ C, Storable (fxC scope C fx) x)
    (hv : SubC fx scope (fun x => σ.vars.lookup x) vars) (hxn : vars.lookup x = none) (hm : m ≤ 1000) (hit : We c n fx σ iter fun d => d = .rng 0 (m : Int) 1)
    (turn : ∀ C i, i < m → We c n (fxC scope C fx) ⟨(x, .int (i : Nat)) :: vars, []⟩ elt fun o => o = g i) (hk : k (Ls m g)) (hs : ∀ x, foldedSetIterable iter fx.env x = pure x := by intro _; rfl) : Wf c n fx σ (.ListComp elt [⟨.Name x px, iter, [], 0⟩] scope pos) k :=
  Wf_compN m vars g hsc hx hv hxn hm hit turn hk hs
theorem Wf_cV {elt iter : Expr} {x : Str} {px pos : Pos} {scope : Scope} {k : List D → Prop} (m : Nat) (vars : List (Str × D)) (u : Nat → Rat) (hsc : scC fx scope = true) (hx : ∀ C, Storable (fxC scope C fx) x)
    (hv : SubC fx scope (fun x => σ.vars.lookup x) vars) (hxn : vars.lookup x = none) (hm : m ≤ 1000) (hit : We c n fx σ iter fun d => d = .rng 0 (m : Int) 1)
    (turn : ∀ C i, i < m → We c n (fxC scope C fx) ⟨(x, .int (i : Nat)) :: vars, []⟩ elt fun o => o = ratD (u i)) (hk : k (VL m u)) (hs : ∀ x, foldedSetIterable iter fx.env x = pure x := by intro _; rfl) : Wf c n fx σ (.ListComp elt [⟨.Name x px, iter, [], 0⟩] scope pos) k :=
  Wf_compN m vars (fun i => ratD (u i)) hsc hx hv hxn hm hit turn hk hs
theorem Wf_cLL {elt iter : Expr} {x : Str} {px pos : Pos} {scope : Scope} {k : List D → Prop} (m : Nat) (f : Nat → D) (vars : List (Str × D)) (g : Nat → D) (hsc : scC fx scope = true) (hx : ∀ C, Storable (fxC scope C fx) x)
    (hv : SubC fx scope (fun x => σ.vars.lookup x) vars) (hxn : vars.lookup x = none) (hm : m ≤ 1000) (hit : We c n fx σ iter fun d => itemsOf d (Ls m f))
    (turn : ∀ C i, i < m → We c n (fxC scope C fx) ⟨(x, f i) :: vars, []⟩ elt fun o => o = g i) (hk : k (Ls m g)) (hs : ∀ x, foldedSetIterable iter fx.env x = pure x := by intro _; rfl) : Wf c n fx σ (.ListComp elt [⟨.Name x px, iter, [], 0⟩] scope pos) k :=
  Wf_compM (Ls m f) vars g hsc hx hv hxn hit (by rw [Ls_len]; exact hm) (fun C i d hd => by obtain ⟨hi, rfl⟩ := Ls_mem hd; exact turn C i hi) (by rw [Ls_len]; exact hk) hs
theorem Wf_cLV {elt iter : Expr} {x : Str} {px pos : Pos} {scope : Scope} {k : List D → Prop} (m : Nat) (f : Nat → D) (vars : List (Str × D)) (u : Nat → Rat) (hsc : scC fx scope = true) (hx : ∀ C, Storable (fxC scope C fx) x)
    (hv : SubC fx scope (fun x => σ.vars.lookup x) vars) (hxn : vars.lookup x = none) (hm : m ≤ 1000) (hit : We c n fx σ iter fun d => itemsOf d (Ls m f))
    (turn : ∀ C i, i < m → We c n (fxC scope C fx) ⟨(x, f i) :: vars, []⟩ elt fun o => o = ratD (u i)) (hk : k (VL m u)) (hs : ∀ x, foldedSetIterable iter fx.env x = pure x := by intro _; rfl) : Wf c n fx σ (.ListComp elt [⟨.Name x px, iter, [], 0⟩] scope pos) k :=
  Wf_cLL m f vars (fun i => ratD (u i)) hsc hx hv hxn hm hit turn hk hs
theorem Ws_cN {elt iter : Expr} {x y : Str} {px py pos spos : Pos} {scope : Scope} {kn : St → Prop} {kr : St → D → Prop} (m : Nat) (vars : List (Str × D)) (g : Nat → D) (hsc : scC fx scope = true) (hx : ∀ C, Storable (fxC scope C fx) x)
    (hv : SubC fx scope (fun x => σ.vars.lookup x) vars) (hxn : vars.lookup x = none) (hm : m ≤ 1000) (hit : We c n fx σ iter fun d => d = .rng 0 (m : Int) 1)
    (turn : ∀ C i, i < m → We c n (fxC scope C fx) ⟨(x, .int (i : Nat)) :: vars, []⟩ elt fun o => o = g i) (hk : kn (σ.set y (.lst (Ls m g))))
    (hs : ∀ x, foldedSetIterable iter fx.env x = pure x := by intro _; rfl) (hy : fx.env.kindOf y = some .local := by rfl)
    (hsw : swapsWith (.ListComp elt [⟨.Name x px, iter, [], 0⟩] scope pos) (some (.Name y py)) spos.line fx.env = pure true := by rfl) :
    Ws c n fx σ (.Assign [.Name y py] (.ListComp elt [⟨.Name x px, iter, [], 0⟩] scope pos) spos) kn kr :=
  Ws_assign_compM (natL m) vars g hy hsc hx hv hxn (We.mono hit fun d hd => hd ▸ items_nat hm) (by rw [natL_len]; exact hm) (fun C i d hd => by obtain ⟨hi, rfl⟩ := natL_get hd; exact turn C i hi) (by rw [natL_len]; exact hk) hs hsw
end
def colsF (N : Nat) (v : Nat → Int) (c r : Nat) : Rat := ent (pull N v (2 + 4 * c + r) 6)
def yF (N : Nat) (v : Nat → Int) (r : Nat) : Rat := ent (pull N v (14 + r) 6)
def cntF (N : Nat) (v : Nat → Int) (r : Nat) : Nat := pull N v (18 + r) 4
def cw (cnt : Nat → Nat) (r : Nat) : Rat := ((cnt r : Nat) : Rat)
def ownI (i : Nat) : Int := 1 + (i : Int).fdiv 2
theorem wD_some (m : Nat) (w : Nat → Rat) : vecD m w = wD m (some w) := rfl
theorem cast_rat (q : Nat) : D.tup [.int (q : Nat), .int 1] = ratD ((q : Nat) : Rat) := by
  simp [ratD, Rat.num_natCast, Rat.den_natCast]
theorem items_ls {m : Nat} {g : Nat → D} {d : D} {i : Nat} (h : (Ls m g)[i]? = some d) : i < m ∧ d = g i := Ls_mem h
theorem cnt_le (N : Nat) (v : Nat → Int) (r : Nat) : cntF N v r ≤ 3 := Nat.le_of_lt_succ (pull_lt (by decide))
theorem cw_vd {cnt : Nat → Nat} (h : ∀ r, cnt r ≤ 3) (m : Nat) : Vw m (some (cw cnt)) := by
  refine ⟨1, by decide, by decide, fun r _ => ⟨(cnt r : Nat), by have := h r; omega, ?_⟩⟩
  unfold cw
  have : (((1 : Nat) : Int) : Rat) = 1 := rfl
  rw [this, Rat.div_def, Rat.inv_eq_of_mul_eq_one (by grind : (1 : Rat) * 1 = 1), Rat.mul_one]; rfl
theorem cw_0 (cnt : Nat → Nat) (m : Nat) : W0 m (some (cw cnt)) := fun r _ => by unfold cw; exact_mod_cast Nat.zero_le _
def natD (l : List Nat) : List D := l.map fun r => .int (r : Nat)
theorem natD_Ls (l : List Nat) : natD l = Ls l.length fun j => .int (ix l j : Nat) := by
  unfold natD Ls ix
  apply List.ext_getElem
  · simp
  · intro i h1 h2
    simp at h1 ⊢
    rw [List.getElem?_eq_getElem h1]; rfl
theorem natD_app (a b : List Nat) : natD (a ++ b) = natD a ++ natD b := by simp [natD]
theorem natD_len (a : List Nat) : (natD a).length = a.length := by simp [natD]
theorem agD_succ (cnt : Nat → Nat) (i : Nat) : natD (agL cnt (i + 1)) = natD (agL cnt i) ++ (List.range (natL (cnt i)).length).map fun _ => D.int (i : Nat) := by
  rw [agL, natD_app, natL_len]
  congr 1
  unfold natD
  rw [List.map_replicate, List.map_const', List.length_range]
theorem prD (cnt : Nat → Nat) : ∀ m, (List.range m).flatMap (fun i => if cnt i > 0 then [D.int (i : Nat)] else []) = natD (prL cnt m)
  | 0 => rfl
  | m + 1 => by
    rw [List.range_succ, List.flatMap_append, prD cnt m, prL, natD_app]
    congr 1
    simp only [List.flatMap_cons, List.flatMap_nil, List.append_nil]
    split <;> rfl
/-! == reads these -/
theorem okL {n : Nat} {ds : List D} (h : ∀ d ∈ ds, eqOk n d = true) : eqOk (n + 1) (.lst ds) = true := by
  simp only [eqOk, List.all_eq_true]; exact h
theorem ok_rat (n : Nat) (q : Rat) : eqOk (n + 1) (ratD q) = true := by simp [eqOk]
theorem ok_int (n : Nat) (i : Int) : eqOk n (.int i) = true := by cases n <;> rfl
theorem ok_none (n : Nat) : eqOk n .none = true := by cases n <;> rfl
theorem Ls_all {k n : Nat} {g : Nat → D} (h : ∀ i, i < n → eqOk k (g i) = true) : ∀ d ∈ Ls n g, eqOk k d = true := by
  intro d hd
  unfold Ls at hd
  obtain ⟨i, hi, rfl⟩ := List.mem_map.mp hd
  exact h i (List.mem_range.mp hi)
theorem VL_ok (k m : Nat) (u : Nat → Rat) : eqOk (k + 2) (.lst (VL m u)) = true := okL (Ls_all (n := m) (g := fun j => ratD (u j)) fun i _ => ok_rat k _)
theorem cfL_ok (k wide : Nat) (pv : Nat → Nat) (v : Nat → Rat) : ∀ t, ∀ d ∈ cfL wide pv v t, eqOk (k + 1) d = true
  | 0, d, h => by rw [(List.mem_replicate.mp h).2]; exact ok_none _
  | t + 1, d, h => by
    rcases List.mem_or_eq_of_mem_set h with h | h
    · exact cfL_ok k wide pv v t d h
    · rw [h]; exact ok_rat _ _
theorem told_ok (m : Nat) (W : Option (Nat → Rat)) (y : Nat → Rat) (wide : Nat) (o : Og) : eqOk 9 (.lst (toldF m W y wide o)) = true := by
  refine okL fun d hd => ?_
  simp only [toldF, List.mem_cons, List.not_mem_nil, or_false] at hd
  rcases hd with rfl | rfl | rfl | rfl
  · exact okL (cfL_ok 6 _ _ _ _)
  · exact okL (Ls_all fun i _ => ok_int _ _)
  · exact ok_int _ _
  · exact ok_rat _ _
def told3F (m : Nat) (W : Option (Nat → Rat)) (y : Nat → Rat) (wide : Nat) (o : Og) : List D := [.lst (cfL wide o.pv (backF o.n o.sh (fac m W o.bs o.nr y)) o.n), .lst (pivD o), .int (o.n : Nat)]
theorem told3_ok (m : Nat) (W : Option (Nat → Rat)) (y : Nat → Rat) (wide : Nat) (o : Og) : eqOk 9 (.lst (told3F m W y wide o)) = true := by
  refine okL fun d hd => ?_
  simp only [told3F, List.mem_cons, List.not_mem_nil, or_false] at hd
  rcases hd with rfl | rfl | rfl
  · exact okL (cfL_ok 6 _ _ _ _)
  · exact okL (Ls_all fun i _ => ok_int _ _)
  · exact ok_int _ _
section
variable {m m' : Nat} {W W' : Option (Nat → Rat)} {idx : Nat → Nat} {cc : Rat}
theorem sim_told3F (H : Sim m W m' W' idx cc) (hc : cc ≠ 0) (y : Nat → Rat) (wide : Nat) (o : Og) : told3F m' W' (thr idx y) wide (tr idx cc o) = told3F m W y wide o := by
  unfold told3F
  rw [sim_fac H hc]
  rfl
theorem sim_res (H : Sim m W m' W' idx cc) (hc : cc ≠ 0) (y : Nat → Rat) (o : Og) (j : Nat) : thr idx y j - sw m' W' (tr idx cc o).bs (tr idx cc o).nr (thr idx y) (tr idx cc o).n j = thr idx (fun r => y r - sw m W o.bs o.nr y o.n r) j := by
  have e1 : sw m' W' (tr idx cc o).bs (tr idx cc o).nr (thr idx y) (tr idx cc o).n = thr idx (sw m W o.bs o.nr y o.n) := sim_sw H hc o y o.n
  rw [e1]; rfl
theorem sim_rss (H : Sim m W m' W' idx cc) (hc : cc ≠ 0) (y : Nat → Rat) (o : Og) : ip m' W' (sw m' W' (tr idx cc o).bs (tr idx cc o).nr (thr idx y) (tr idx cc o).n) (sw m' W' (tr idx cc o).bs (tr idx cc o).nr (thr idx y) (tr idx cc o).n) = cc * ip m W (sw m W o.bs o.nr y o.n) (sw m W o.bs o.nr y o.n) := by
  have e1 : sw m' W' (tr idx cc o).bs (tr idx cc o).nr (thr idx y) (tr idx cc o).n = thr idx (sw m W o.bs o.nr y o.n) := sim_sw H hc o y o.n
  rw [e1, sim_ip H]
end
theorem sums_ok (m : Nat) (W : Option (Nat → Rat)) (y : Nat → Rat) (asg : Nat → Int) (o : Og) : eqOk 9 (.lst (sumsF m W y asg o)) = true := by
  refine okL fun d hd => ?_
  simp only [sumsF, List.mem_cons, List.not_mem_nil, or_false] at hd
  rcases hd with rfl | rfl
  · refine okL fun d hd => ?_
    obtain ⟨r, _, rfl⟩ := List.mem_map.mp hd
    simp [eqOk]
  · exact okL (Ls_all fun i _ => VL_ok _ _ _)
theorem cmp_ne {a b : List D} {k : Bool → Prop} (e : b = a) (ok : eqOk 9 (.lst a) = true) (hk : k false) : cmpK .NotEq (.lst a) (.lst b) k := ⟨e.symm, ok, hk⟩
/-! the weights times a number -/
def upI : Nat → Int
  | 0 => 2
  | 1 => 1
  | _ => 5
def dnI : Nat → Int
  | 0 => 1
  | 1 => 3
  | _ => 2
def qq (q : Nat) : Rat := (upI q : Rat) / (dnI q : Rat)
theorem dn_pos (q : Nat) : 0 < dnI q ∧ dnI q ≤ 3 := by unfold dnI; split <;> decide
theorem up_pos (q : Nat) : 0 < upI q ∧ upI q ≤ 5 := by unfold upI; split <;> decide
theorem qq_ne (q : Nat) : qq q ≠ 0 := by
  match q with
  | 0 => decide +kernel
  | 1 => decide +kernel
  | n + 2 => show ((5 : Int) : Rat) / ((2 : Int) : Rat) ≠ 0; decide +kernel
theorem qq_0 (q : Nat) : 0 ≤ qq q := by
  match q with
  | 0 => decide +kernel
  | 1 => decide +kernel
  | n + 2 => show (0 : Rat) ≤ ((5 : Int) : Rat) / ((2 : Int) : Rat); decide +kernel
theorem ud_get {q : Nat} (h : q < 3) : [D.tup [.int 2, .int 1], .tup [.int 1, .int 3], .tup [.int 5, .int 2]][q]? = some (.tup [.int (upI q), .int (dnI q)]) := by
  match q, h with
  | 0, _ => rfl
  | 1, _ => rfl
  | 2, _ => rfl
theorem rat_of {x : Rat} {a b : Int} (h1 : x.num = a) (h2 : (x.den : Int) = b) : D.tup [.int a, .int b] = ratD x := by rw [← h1, ← h2]
theorem th_ne {t q : Nat} (ht : t ≤ 3) (hq : q < 3) (h : ((t : Int) * upI q).fmod (dnI q) ≠ 0) : D.tup [.int ((t : Int) * upI q), .int (dnI q)] = ratD (qq q * ((t : Nat) : Rat)) := by
  match t, ht, q, hq with
  | 0, _, 0, _ => exact absurd (by decide) h
  | 0, _, 1, _ => exact absurd (by decide) h
  | 0, _, 2, _ => exact absurd (by decide) h
  | 1, _, 0, _ => exact absurd (by decide) h
  | 1, _, 1, _ => exact rat_of (by decide +kernel) (by decide +kernel)
  | 1, _, 2, _ => exact rat_of (by decide +kernel) (by decide +kernel)
  | 2, _, 0, _ => exact absurd (by decide) h
  | 2, _, 1, _ => exact rat_of (by decide +kernel) (by decide +kernel)
  | 2, _, 2, _ => exact absurd (by decide) h
  | 3, _, 0, _ => exact absurd (by decide) h
  | 3, _, 1, _ => exact absurd (by decide) h
  | 3, _, 2, _ => exact rat_of (by decide +kernel) (by decide +kernel)
theorem th_eq {t q : Nat} (ht : t ≤ 3) (hq : q < 3) (h : ((t : Int) * upI q).fmod (dnI q) = 0) : D.tup [.int (((t : Int) * upI q).fdiv (dnI q)), .int 1] = ratD (qq q * ((t : Nat) : Rat)) := by
  match t, ht, q, hq with
  | 0, _, 0, _ => exact rat_of (by decide +kernel) (by decide +kernel)
  | 0, _, 1, _ => exact rat_of (by decide +kernel) (by decide +kernel)
  | 0, _, 2, _ => exact rat_of (by decide +kernel) (by decide +kernel)
  | 1, _, 0, _ => exact rat_of (by decide +kernel) (by decide +kernel)
  | 1, _, 1, _ => exact absurd h (by decide)
  | 1, _, 2, _ => exact absurd h (by decide)
  | 2, _, 0, _ => exact rat_of (by decide +kernel) (by decide +kernel)
  | 2, _, 1, _ => exact absurd h (by decide)
  | 2, _, 2, _ => exact rat_of (by decide +kernel) (by decide +kernel)
  | 3, _, 0, _ => exact rat_of (by decide +kernel) (by decide +kernel)
  | 3, _, 1, _ => exact rat_of (by decide +kernel) (by decide +kernel)
  | 3, _, 2, _ => exact absurd h (by decide)
theorem th_vd {cnt : Nat → Nat} (h : ∀ r, cnt r ≤ 3) (q m : Nat) : Vw m (some fun r => qq q * cw cnt r) := by
  obtain ⟨d0, d3⟩ := dn_pos q
  obtain ⟨u0, u5⟩ := up_pos q
  refine ⟨(dnI q).toNat, by omega, by omega, fun r _ => ⟨upI q * (cnt r : Nat), ?_, ?_⟩⟩
  · have h3 := h r
    rw [Int.natAbs_mul]
    have : (upI q).natAbs * ((cnt r : Nat) : Int).natAbs ≤ 5 * 3 := Nat.mul_le_mul (by omega) (by omega)
    omega
  · have e : (((dnI q).toNat : Nat) : Int) = dnI q := by omega
    rw [e]
    have hd : (dnI q : Rat) ≠ 0 := fun z => by
      have : dnI q = 0 := by exact_mod_cast z
      omega
    show qq q * cw cnt r = ((upI q * (cnt r : Nat) : Int) : Rat) / (dnI q : Rat)
    unfold qq cw
    rw [Rat.intCast_mul]
    have : (((cnt r : Nat) : Int) : Rat) = ((cnt r : Nat) : Rat) := rfl
    rw [this]
    grind
theorem th_0 (cnt : Nat → Nat) (q m : Nat) : W0 m (some fun r => qq q * cw cnt r) := fun r _ => by
  have h3 : (0 : Rat) ≤ cw cnt r := by unfold cw; exact_mod_cast Nat.zero_le _
  exact Rat.mul_nonneg (qq_0 q) h3
theorem qq_rd (q : Nat) : Rd 4 (qq q) := by
  obtain ⟨d0, d3⟩ := dn_pos q
  obtain ⟨u0, u5⟩ := up_pos q
  refine ⟨upI q, (dnI q).toNat, by omega, by omega, by omega, ?_⟩
  have e : (((dnI q).toNat : Nat) : Int) = dnI q := by omega
  rw [e]; rfl
theorem last_eq (q : Nat) (s : Rat) : (qq q * s).num * s.den * dnI q = s.num * upI q * (qq q * s).den := by
  obtain ⟨d0, _⟩ := dn_pos q
  have hd : (dnI q : Rat) ≠ 0 := fun z => by
    have : dnI q = 0 := by exact_mod_cast z
    omega
  have h1 := num_den (qq q * s)
  have h2 := num_den s
  have n1 := den_ne (qq q * s)
  have n2 := den_ne s
  have e : qq q * s * (dnI q : Rat) = (upI q : Rat) * s := by unfold qq; grind
  have key : (((qq q * s).num * s.den * dnI q : Int) : Rat) = ((s.num * upI q * (qq q * s).den : Int) : Rat) := by
    simp only [Rat.intCast_mul]
    have a1 : ((qq q * s).num : Rat) = qq q * s * (((qq q * s).den : Int) : Rat) := by
      conv => rhs; lhs; rw [← h1]
      grind
    have a2 : (s.num : Rat) = s * ((s.den : Int) : Rat) := by
      conv => rhs; lhs; rw [← h2]
      grind
    rw [a1, a2]
    grind
  exact_mod_cast key
section
variable {c : Cx} {n : Nat}
set_option maxHeartbeats 20000000
theorem f_law (hK : KC c) {N : Nat} {v : Nat → Int} (hN : N ≤ 63) : Fc c (n + 16) 262 [scrD N v] fun d => d = .bool true := by
  refine' Fc1 (Str.ofString "script") ?ho ?hcd ?hsc ?hb ?h
  walk_at "in1"
  repeat walk_at "e10"
  refine f_pull hK (s := 0) (l := 4) hN (by decide) (by decide) ?_
  repeat walk_at "e10"
  refine f_pull hK (s := 1) (l := 4) hN (by decide) (by decide) ?_
  repeat walk_at "e10"
  obtain ⟨m, hm, m1, m4⟩ : ∃ m : Nat, (1 : Int) + ((pull N v 0 4 : Nat) : Int) = (m : Nat) ∧ 1 ≤ m ∧ m ≤ 4 := ⟨1 + pull N v 0 4, by omega, by omega, by have := pull_lt (n := N) (v := v) (s := 0) (l := 4) (by decide); omega⟩
  have hwd : pull N v 1 4 < 4 := pull_lt (by decide)
  rw [hm]
  generalize pull N v 1 4 = wide at *
  refine' Ws_cN wide [(Str.ofString "many", .int (m : Nat)), (Str.ofString "script", scrD N v)] (fun c => vecD m (colsF N v c)) ?hsc1 ?hx1 ?hv1 ?hxn1 ?hm1 ?hit1 ?turn1 ?hk1 ?hs1 ?hyy1 ?hsw1
  case hyy1 => rfl
  case hsw1 => rfl
  case hsc1 => with_unfolding_all exact rfl
  case hx1 => intro C; first | exact Or.inl rfl | exact Or.inr ⟨rfl, _, rfl, by walk_at "mem"⟩
  case hv1 => walk_at "subc"
  case hxn1 => with_unfolding_all exact rfl
  case hs1 => intro _; rfl
  case hm1 => omega
  case hit1 =>
    repeat walk_at "e10"
    rfl
  case turn1 =>
    intro C i hi
    refine' We_of_Wf (Wf_cV m [(Str.ofString "c", .int (i : Nat)), (Str.ofString "script", scrD N v)] (colsF N v i) ?hsc2 ?hx2 ?hv2 ?hxn2 ?hm2 ?hit2 ?turn2 ?hk2 ?hs2)
    case hsc2 => with_unfolding_all exact rfl
    case hx2 => intro C; first | exact Or.inl rfl | exact Or.inr ⟨rfl, _, rfl, by walk_at "mem"⟩
    case hv2 => walk_at "subc"
    case hxn2 => with_unfolding_all exact rfl
    case hs2 => intro _; rfl
    case hm2 => omega
    case hit2 =>
      repeat walk_at "e10"
      rfl
    case turn2 =>
      intro C2 r hr
      repeat walk_at "e10"
      refine b_mul (mulOk (k := 20) (l := 20) (by unfold Sz; omega) (by unfold Sz; omega) (by decide) (by decide) (by decide)) ?_
      repeat walk_at "e10"
      have e : (2 : Int) + 4 * (i : Nat) + (r : Nat) = ((2 + 4 * i + r : Nat) : Int) := by omega
      rw [e]
      exact f_entry hK hN (by omega) rfl
    case hk2 => rfl
  repeat walk_at "e10"
  refine' We_of_Wf (Wf_cV m [(Str.ofString "script", scrD N v)] (yF N v) ?hsc3 ?hx3 ?hv3 ?hxn3 ?hm3 ?hit3 ?turn3 ?hk3 ?hs3)
  case hsc3 => with_unfolding_all exact rfl
  case hx3 => intro C; first | exact Or.inl rfl | exact Or.inr ⟨rfl, _, rfl, by walk_at "mem"⟩
  case hv3 => walk_at "subc"
  case hxn3 => with_unfolding_all exact rfl
  case hs3 => intro _; rfl
  case hm3 => omega
  case hit3 =>
    repeat walk_at "e10"
    rfl
  case turn3 =>
    intro C r hr
    repeat walk_at "e10"
    have e : (14 : Int) + (r : Nat) = ((14 + r : Nat) : Int) := by omega
    rw [e]
    exact f_entry hK hN (by omega) rfl
  repeat walk_at "e10"
  refine' We_of_Wf (Wf_cN m [(Str.ofString "script", scrD N v)] (fun r => .int (cntF N v r : Nat)) ?hsc4 ?hx4 ?hv4 ?hxn4 ?hm4 ?hit4 ?turn4 ?hk4 ?hs4)
  case hsc4 => with_unfolding_all exact rfl
  case hx4 => intro C; first | exact Or.inl rfl | exact Or.inr ⟨rfl, _, rfl, by walk_at "mem"⟩
  case hv4 => walk_at "subc"
  case hxn4 => with_unfolding_all exact rfl
  case hs4 => intro _; rfl
  case hm4 => omega
  case hit4 =>
    repeat walk_at "e10"
    rfl
  case turn4 =>
    intro C r hr
    repeat walk_at "e10"
    have e : (18 : Int) + (r : Nat) = ((18 + r : Nat) : Int) := by omega
    rw [e]
    exact f_pull hK (l := 4) hN (by omega) (by decide) rfl
  repeat walk_at "e10"
  refine' We_of_Wf (Wf_cLV m (fun r => .int (cntF N v r : Nat)) [] (cw (cntF N v)) ?hsc5 ?hx5 ?hv5 ?hxn5 ?hm5 ?hit5 ?turn5 ?hk5 ?hs5)
  case hsc5 => with_unfolding_all exact rfl
  case hx5 => intro C; first | exact Or.inl rfl | exact Or.inr ⟨rfl, _, rfl, by walk_at "mem"⟩
  case hv5 => walk_at "subc"
  case hxn5 => with_unfolding_all exact rfl
  case hs5 => intro _; rfl
  case hm5 => omega
  case hit5 =>
    repeat walk_at "e10"
    rfl
  case turn5 =>
    intro C r hr
    repeat walk_at "e10"
    exact cast_rat _
  repeat walk_at "e10"
  refine' Ws_cN wide [] (fun c => .int (ownI c)) ?hsc6 ?hx6 ?hv6 ?hxn6 ?hm6 ?hit6 ?turn6 ?hk6 ?hs6 ?hyy6 ?hsw6
  case hyy6 => rfl
  case hsw6 => rfl
  case hsc6 => with_unfolding_all exact rfl
  case hx6 => intro C; first | exact Or.inl rfl | exact Or.inr ⟨rfl, _, rfl, by walk_at "mem"⟩
  case hv6 => walk_at "subc"
  case hxn6 => with_unfolding_all exact rfl
  case hs6 => intro _; rfl
  case hm6 => omega
  case hit6 =>
    repeat walk_at "e10"
    rfl
  case turn6 =>
    intro C i hi
    repeat walk_at "e10"
    refine b_div (by decide) (noPy (k := 20) (by unfold Sz; omega) (by decide) (by decide)) ?_
    repeat walk_at "e10"
    rfl
  repeat walk_at "e10"
  have hcnt := cnt_le N v
  have hw := cw_vd hcnt m
  have hw0 := cw_0 (cntF N v) m
  have hcols : ∀ i, i < wide → Vd 3 m (colsF N v i) := fun i _ => ent_vd m _
  have hy : Vd 3 m (yF N v) := ent_vd m _
  generalize cntF N v = cnt at *
  generalize colsF N v = cols at *
  generalize yF N v = yv at *
  refine f_fit hK (W := some (cw cnt)) (wide := wide) (cols := cols) (y := yv) (by omega) (by omega) hw hw0 hcols hy (.inl rfl) ?_
  have hB := og_b (W := some (cw cnt)) (m := m) (cols := cols) (by omega) hw wide (by omega) hcols
  have hpv := og_pv (m := m) (W := some (cw cnt)) (cols := cols) wide
  unfold fitD
  obtain ⟨o, hO⟩ : ∃ p, og m (some (cw cnt)) cols wide = p := ⟨_, rfl⟩
  rw [hO] at hB hpv
  rw [hO]
  have hsw := sw_vd (by omega) hw hB hy
  have hre := (hsw o.n (Nat.le_refl _)).mono (Sb_le hB.n3)
  have n3 := hB.n3
  unfold fitO
  repeat walk_at "e10"
  refine' We_of_Wf (Wf_comp2 (Ls m fun i => .int (i : Nat)) [(Str.ofString "row_counts", .lst (Ls m fun r => .int (cnt r : Nat)))] (fun i => natD (agL cnt i)) ?a1 ?a2 ?a3 ?a4 ?a5 ?a6 ?a7 rfl ?a8 ?a9 ?a10 ?a11 ?a12 ?a13)
  case a1 => with_unfolding_all exact rfl
  case a2 => intro C; exact Or.inl rfl
  case a3 => intro C; exact Or.inl rfl
  case a4 => walk_at "subc"
  case a5 => with_unfolding_all exact rfl
  case a6 => with_unfolding_all exact rfl
  case a7 => with_unfolding_all exact rfl
  case a8 => intro i hi; rw [Ls_len] at hi; rw [natD_len]; have := ag_len cnt hcnt i; omega
  case a12 => intro _; rfl
  case a13 => intro _ _; rfl
  case a9 =>
    repeat walk_at "e10"
    exact items_nat (by omega)
  case a10 =>
    intro C i d hd
    obtain ⟨hi, rfl⟩ := Ls_mem hd
    have hci := hcnt i
    repeat walk_at "e10"
    refine ⟨natL (cnt i), fun _ => .int (i : Nat), items_nat (by omega), by rw [natL_len]; omega, fun j d' hd' => ?_, agD_succ cnt i⟩
    repeat walk_at "e10"
    rfl
  rw [Ls_len, natD_Ls]
  have hL := ag_len cnt hcnt m
  have hix : ∀ j, j < (agL cnt m).length → ix (agL cnt m) j < m := fun j hj => ag_lt cnt m _ (ix_mem hj)
  have hsim : Sim m (some (cw cnt)) (agL cnt m).length none (ix (agL cnt m)) 1 := sim_ag cnt m
  generalize agL cnt m = ag at *
  repeat walk_at "e10"
  refine' We_of_Wf (Wf_cLL wide (fun i => vecD m (cols i)) [(Str.ofString "again", .lst (Ls ag.length fun j => .int (ix ag j : Nat)))] (fun i => vecD ag.length (thr (ix ag) (cols i))) ?hsc7 ?hx7 ?hv7 ?hxn7 ?hm7 ?hit7 ?turn7 ?hk7 ?hs7)
  case hsc7 => with_unfolding_all exact rfl
  case hx7 => intro C; first | exact Or.inl rfl | exact Or.inr ⟨rfl, _, rfl, by walk_at "mem"⟩
  case hv7 => walk_at "subc"
  case hxn7 => with_unfolding_all exact rfl
  case hs7 => intro _; rfl
  case hm7 => omega
  case hit7 =>
    repeat walk_at "e10"
    rfl
  case turn7 =>
    intro C i hi
    refine' We_of_Wf (Wf_cLV ag.length (fun j => .int (ix ag j : Nat)) [(Str.ofString "column", vecD m (cols i))] (thr (ix ag) (cols i)) ?hsc8 ?hx8 ?hv8 ?hxn8 ?hm8 ?hit8 ?turn8 ?hk8 ?hs8)
    case hsc8 => with_unfolding_all exact rfl
    case hx8 => intro C; first | exact Or.inl rfl | exact Or.inr ⟨rfl, _, rfl, by walk_at "mem"⟩
    case hv8 => walk_at "subc"
    case hxn8 => with_unfolding_all exact rfl
    case hs8 => intro _; rfl
    case hm8 => omega
    case hit8 =>
      repeat walk_at "e10"
      rfl
    case turn8 =>
      intro C2 j hj
      have := hix j hj
      repeat walk_at "e10"
      rfl
    case hk8 => rfl
  repeat walk_at "e10"
  refine' We_of_Wf (Wf_cLV ag.length (fun j => .int (ix ag j : Nat)) [(Str.ofString "y", vecD m yv)] (thr (ix ag) yv) ?hsc9 ?hx9 ?hv9 ?hxn9 ?hm9 ?hit9 ?turn9 ?hk9 ?hs9)
  case hsc9 => with_unfolding_all exact rfl
  case hx9 => intro C; first | exact Or.inl rfl | exact Or.inr ⟨rfl, _, rfl, by walk_at "mem"⟩
  case hv9 => walk_at "subc"
  case hxn9 => with_unfolding_all exact rfl
  case hs9 => intro _; rfl
  case hm9 => omega
  case hit9 =>
    repeat walk_at "e10"
    rfl
  case turn9 =>
    intro C j hj
    have := hix j hj
    repeat walk_at "e10"
    rfl
  repeat walk_at "e10"
  have hco2 : ∀ i, i < wide → Vd 3 ag.length ((fun i => thr (ix ag) (cols i)) i) := fun i hi => (hcols i hi).comp hix
  have hyo2 : Vd 3 ag.length (thr (ix ag) yv) := hy.comp hix
  have hwo2 : Vw ag.length none := trivial
  refine f_fit hK (m := ag.length) (W := none) (wide := wide) (cols := (fun i => thr (ix ag) (cols i))) (y := (thr (ix ag) yv)) (by omega) (by omega) hwo2 trivial hco2 hyo2 (.inr ⟨rfl, rfl⟩) ?_
  obtain ⟨o2, ho2⟩ : ∃ p, tr (ix ag) 1 o = p := ⟨_, rfl⟩
  have eo2 : og ag.length none (fun i => thr (ix ag) (cols i)) wide = o2 := (sim_og hsim (by decide) cols wide).trans (by rw [hO]; exact ho2)
  have hBo2 := og_b (W := none) (m := ag.length) (cols := (fun i => thr (ix ag) (cols i))) (by omega) hwo2 wide (by omega) hco2
  have hpvo2 := og_pv (m := ag.length) (W := none) (cols := (fun i => thr (ix ag) (cols i))) wide
  rw [eo2] at hBo2 hpvo2
  have hreo2 := (sw_vd (by omega) hwo2 hBo2 hyo2 o2.n (Nat.le_refl _)).mono (Sb_le hBo2.n3)
  have no2 : o2.n = o.n := by rw [← ho2]; rfl
  unfold fitD
  rw [eo2]
  unfold fitO
  have t2 : toldF ag.length none (thr (ix ag) yv) wide o2 = toldF m (some (cw cnt)) yv wide o := ho2 ▸ sim_told hsim yv wide o
  have s2 : sumsF ag.length none (thr (ix ag) yv) ownI o2 = sumsF m (some (cw cnt)) yv ownI o := ho2 ▸ sim_sums hsim yv ownI o
  have f2 : ∀ j, thr (ix ag) yv j - sw ag.length none o2.bs o2.nr (thr (ix ag) yv) o2.n j = thr (ix ag) (fun r => yv r - sw m (some (cw cnt)) o.bs o.nr yv o.n r) j := fun j => ho2 ▸ sim_res hsim (by decide) yv o j
  repeat walk_at "e10"
  refine f_told hK (m := m) (W := (some (cw cnt))) (by omega) hw hre (by rw [cfL_len]; omega) (by rw [pivD, Ls_len]; omega) ?_
  repeat walk_at "e10"
  refine f_told hK (m := ag.length) (W := none) (by omega) hwo2 hreo2 (by rw [cfL_len]; omega) (by rw [pivD, Ls_len]; omega) ?_
  repeat walk_at "e10"
  refine cmp_ne (a := toldF m (some (cw cnt)) yv wide o) t2 (told_ok ..) ?_
  repeat walk_at "e10"
  refine f_sums hK (nn := o.n) (wide := wide) (pv := o.pv) (asg := ownI) (sh := o.sh) (nr := o.nr) (st := fac m (some (cw cnt)) o.bs o.nr yv) (by omega) (by omega) hpv (fun t ht => fac_rd (by omega) hw hB hy ht) hB.nr hB.sh hB.nz ?_
  repeat walk_at "e10"
  refine f_sums hK (nn := o2.n) (wide := wide) (pv := o2.pv) (asg := ownI) (sh := o2.sh) (nr := o2.nr) (st := fac ag.length none o2.bs o2.nr (thr (ix ag) yv)) (by omega) (by omega) hpvo2 (fun t ht => fac_rd (by omega) hwo2 hBo2 hyo2 ht) hBo2.nr hBo2.sh hBo2.nz ?_
  repeat walk_at "e10"
  refine cmp_ne (a := sumsF m (some (cw cnt)) yv ownI o) s2 (sums_ok ..) ?_
  repeat walk_at "e10"
  refine' We_of_Wf (Wf_cLV ag.length (fun j => .int (ix ag j : Nat)) [(Str.ofString "found", objD (pivD o) (basD m o) (norD o) (shaD o) (VL o.n (fac m (some (cw cnt)) o.bs o.nr yv)) (cfL wide o.pv (backF o.n o.sh (fac m (some (cw cnt)) o.bs o.nr yv)) o.n) (vecD m fun r => yv r - sw m (some (cw cnt)) o.bs o.nr yv o.n r) (vecD m (sw m (some (cw cnt)) o.bs o.nr yv o.n)) (wD m (some (cw cnt))) (o.n : Nat) ((usedR m (some (cw cnt)) : Nat) - (o.n : Nat)))] (thr (ix ag) (fun r => yv r - sw m (some (cw cnt)) o.bs o.nr yv o.n r)) ?hsc10 ?hx10 ?hv10 ?hxn10 ?hm10 ?hit10 ?turn10 ?hk10 ?hs10)
  case hsc10 => with_unfolding_all exact rfl
  case hx10 => intro C; first | exact Or.inl rfl | exact Or.inr ⟨rfl, _, rfl, by walk_at "mem"⟩
  case hv10 => walk_at "subc"
  case hxn10 => with_unfolding_all exact rfl
  case hs10 => intro _; rfl
  case hm10 => omega
  case hit10 =>
    repeat walk_at "e10"
    rfl
  case turn10 =>
    intro C j hj
    have := hix j hj
    repeat walk_at "e10"
    rfl
  repeat walk_at "e10"
  refine cmp_ne (VL_congr fun j hj => f2 j) (VL_ok 7 _ _) ?_
  repeat walk_at "e10"
  refine' We_of_Wf (Wf_compF (natL m) [(Str.ofString "row_counts", .lst (Ls m fun r => .int (cnt r : Nat)))] (fun i => if cnt i > 0 then [.int (i : Nat)] else []) ?b1 ?b2 ?b3 ?b4 ?b5 ?b6 ?b7 ?b8 ?b9 ?b10)
  case b1 => with_unfolding_all exact rfl
  case b2 => intro C; exact Or.inl rfl
  case b3 => walk_at "subc"
  case b4 => with_unfolding_all exact rfl
  case b5 =>
    repeat walk_at "e10"
    exact items_nat (by omega)
  case b6 => intro i; split <;> simp
  case b7 => rw [natL_len]; omega
  case b10 => intro _; rfl
  case b8 =>
    intro C i d hd
    obtain ⟨hi, rfl⟩ := natL_get hd
    show Wt _ _ _ _ _ _
    by_cases h0 : cnt i > 0
    · rw [if_pos h0]
      repeat walk_at "e10"
      rfl
    · rw [if_neg h0]
      repeat walk_at "e10"
      rfl
  rw [natL_len, prD, natD_Ls]
  have hLp := pr_len cnt m
  have hixp : ∀ j, j < (prL cnt m).length → ix (prL cnt m) j < m := fun j hj => pr_lt cnt m _ (ix_mem hj)
  have hsimp : Sim m (some (cw cnt)) (prL cnt m).length (some (thr (ix (prL cnt m)) (cw cnt))) (ix (prL cnt m)) 1 := sim_pr cnt m
  have hu : usedR m (some (cw cnt)) = (prL cnt m).length := used_pr cnt m
  have hup : usedR (prL cnt m).length (some (thr (ix (prL cnt m)) (cw cnt))) = (prL cnt m).length := used_pr2 cnt m
  have hu2 : usedR ag.length none = ag.length := rfl
  generalize prL cnt m = pr at *
  repeat walk_at "e10"
  refine' We_of_Wf (Wf_cLL wide (fun i => vecD m (cols i)) [(Str.ofString "present", .lst (Ls pr.length fun j => .int (ix pr j : Nat)))] (fun i => vecD pr.length (thr (ix pr) (cols i))) ?hsc11 ?hx11 ?hv11 ?hxn11 ?hm11 ?hit11 ?turn11 ?hk11 ?hs11)
  case hsc11 => with_unfolding_all exact rfl
  case hx11 => intro C; first | exact Or.inl rfl | exact Or.inr ⟨rfl, _, rfl, by walk_at "mem"⟩
  case hv11 => walk_at "subc"
  case hxn11 => with_unfolding_all exact rfl
  case hs11 => intro _; rfl
  case hm11 => omega
  case hit11 =>
    repeat walk_at "e10"
    rfl
  case turn11 =>
    intro C i hi
    refine' We_of_Wf (Wf_cLV pr.length (fun j => .int (ix pr j : Nat)) [(Str.ofString "column", vecD m (cols i))] (thr (ix pr) (cols i)) ?hsc12 ?hx12 ?hv12 ?hxn12 ?hm12 ?hit12 ?turn12 ?hk12 ?hs12)
    case hsc12 => with_unfolding_all exact rfl
    case hx12 => intro C; first | exact Or.inl rfl | exact Or.inr ⟨rfl, _, rfl, by walk_at "mem"⟩
    case hv12 => walk_at "subc"
    case hxn12 => with_unfolding_all exact rfl
    case hs12 => intro _; rfl
    case hm12 => omega
    case hit12 =>
      repeat walk_at "e10"
      rfl
    case turn12 =>
      intro C2 j hj
      have := hixp j hj
      repeat walk_at "e10"
      rfl
    case hk12 => rfl
  repeat walk_at "e10"
  refine' We_of_Wf (Wf_cLV pr.length (fun j => .int (ix pr j : Nat)) [(Str.ofString "y", vecD m yv)] (thr (ix pr) yv) ?hsc13 ?hx13 ?hv13 ?hxn13 ?hm13 ?hit13 ?turn13 ?hk13 ?hs13)
  case hsc13 => with_unfolding_all exact rfl
  case hx13 => intro C; first | exact Or.inl rfl | exact Or.inr ⟨rfl, _, rfl, by walk_at "mem"⟩
  case hv13 => walk_at "subc"
  case hxn13 => with_unfolding_all exact rfl
  case hs13 => intro _; rfl
  case hm13 => omega
  case hit13 =>
    repeat walk_at "e10"
    rfl
  case turn13 =>
    intro C j hj
    have := hixp j hj
    repeat walk_at "e10"
    rfl
  repeat walk_at "e10"
  refine' We_of_Wf (Wf_cLV pr.length (fun j => .int (ix pr j : Nat)) [(Str.ofString "weights", vecD m (cw cnt))] (thr (ix pr) (cw cnt)) ?hsc14 ?hx14 ?hv14 ?hxn14 ?hm14 ?hit14 ?turn14 ?hk14 ?hs14)
  case hsc14 => with_unfolding_all exact rfl
  case hx14 => intro C; first | exact Or.inl rfl | exact Or.inr ⟨rfl, _, rfl, by walk_at "mem"⟩
  case hv14 => walk_at "subc"
  case hxn14 => with_unfolding_all exact rfl
  case hs14 => intro _; rfl
  case hm14 => omega
  case hit14 =>
    repeat walk_at "e10"
    rfl
  case turn14 =>
    intro C j hj
    have := hixp j hj
    repeat walk_at "e10"
    rfl
  repeat walk_at "e10"
  have hco3 : ∀ i, i < wide → Vd 3 pr.length ((fun i => thr (ix pr) (cols i)) i) := fun i hi => (hcols i hi).comp hixp
  have hyo3 : Vd 3 pr.length (thr (ix pr) yv) := hy.comp hixp
  have hwo3 : Vw pr.length (some (thr (ix pr) (cw cnt))) := Vd.comp (show Vd 4 m (cw cnt) from hw) hixp
  refine f_fit hK (m := pr.length) (W := (some (thr (ix pr) (cw cnt)))) (wide := wide) (cols := (fun i => thr (ix pr) (cols i))) (y := (thr (ix pr) yv)) (by omega) (by omega) hwo3 (fun r hr => hw0 _ (hixp r hr)) hco3 hyo3 (.inl rfl) ?_
  obtain ⟨o3, ho3⟩ : ∃ p, tr (ix pr) 1 o = p := ⟨_, rfl⟩
  have eo3 : og pr.length (some (thr (ix pr) (cw cnt))) (fun i => thr (ix pr) (cols i)) wide = o3 := (sim_og hsimp (by decide) cols wide).trans (by rw [hO]; exact ho3)
  have hBo3 := og_b (W := (some (thr (ix pr) (cw cnt)))) (m := pr.length) (cols := (fun i => thr (ix pr) (cols i))) (by omega) hwo3 wide (by omega) hco3
  have hpvo3 := og_pv (m := pr.length) (W := (some (thr (ix pr) (cw cnt)))) (cols := (fun i => thr (ix pr) (cols i))) wide
  rw [eo3] at hBo3 hpvo3
  have hreo3 := (sw_vd (by omega) hwo3 hBo3 hyo3 o3.n (Nat.le_refl _)).mono (Sb_le hBo3.n3)
  have no3 : o3.n = o.n := by rw [← ho3]; rfl
  unfold fitD
  rw [eo3]
  unfold fitO
  have t3 : toldF m (some (cw cnt)) yv wide o = toldF pr.length (some (thr (ix pr) (cw cnt))) (thr (ix pr) yv) wide o3 := ho3 ▸ (sim_told hsimp yv wide o).symm
  repeat walk_at "e10"
  refine f_told hK (m := pr.length) (W := (some (thr (ix pr) (cw cnt)))) (by omega) hwo3 hreo3 (by rw [cfL_len]; omega) (by rw [pivD, Ls_len]; omega) ?_
  repeat walk_at "e10"
  refine f_told hK (m := m) (W := (some (cw cnt))) (by omega) hw hre (by rw [cfL_len]; omega) (by rw [pivD, Ls_len]; omega) ?_
  repeat walk_at "e10"
  refine cmp_ne (a := toldF pr.length (some (thr (ix pr) (cw cnt))) (thr (ix pr) yv) wide o3) t3 (told_ok ..) ?_
  repeat walk_at "e10"
  refine Ws_unpack2 (Or.inr ⟨rfl, _, rfl, by walk_at "mem"⟩) (Or.inr ⟨rfl, _, rfl, by walk_at "mem"⟩) ?_
  repeat walk_at "e10"
  refine f_pull hK (s := 22) (l := 3) hN (by decide) (by decide) ?_
  have hq : pull N v 22 3 < 3 := pull_lt (by decide)
  generalize pull N v 22 3 = q at *
  refine it_l (ud_get hq) (by omega) ⟨_, _, rfl, ?_⟩
  have hup := up_pos q
  have hdn := dn_pos q
  repeat walk_at "e10"
  refine' We_of_Wf (Wf_cLV m (fun r => .int (cnt r : Nat)) [(Str.ofString "up", .int (upI q)), (Str.ofString "down", .int (dnI q))] (fun r => qq q * cw cnt r) ?hsc15 ?hx15 ?hv15 ?hxn15 ?hm15 ?hit15 ?turn15 ?hk15 ?hs15)
  case hsc15 => with_unfolding_all exact rfl
  case hx15 => intro C; first | exact Or.inl rfl | exact Or.inr ⟨rfl, _, rfl, by walk_at "mem"⟩
  case hv15 => walk_at "subc"
  case hxn15 => with_unfolding_all exact rfl
  case hs15 => intro _; rfl
  case hm15 => omega
  case hit15 =>
    repeat walk_at "e10"
    rfl
  case turn15 =>
    intro C r hr
    have hc3 := hcnt r
    repeat walk_at "e10"
    refine b_mul (mulOk (k := 20) (l := 20) (by unfold Sz; omega) (by unfold Sz; omega) (by decide) (by decide) (by decide)) ?_
    repeat walk_at "e10"
    refine b_mod (by omega) ?_
    repeat walk_at "e10"
    by_cases h0 : (((cnt r : Nat) : Int) * upI q).fmod (dnI q) = 0
    · refine c_ne_f h0 ?_
      repeat walk_at "e10"
      refine b_mul (mulOk (k := 20) (l := 20) (by unfold Sz; omega) (by unfold Sz; omega) (by decide) (by decide) (by decide)) ?_
      repeat walk_at "e10"
      refine b_div (by omega) (noPy (k := 20) (by unfold Sz; omega) (by decide) (by decide)) ?_
      repeat walk_at "e10"
      exact th_eq hc3 hq h0
    · refine c_ne_t h0 ?_
      repeat walk_at "e10"
      refine b_mul (mulOk (k := 20) (l := 20) (by unfold Sz; omega) (by unfold Sz; omega) (by decide) (by decide) (by decide)) ?_
      repeat walk_at "e10"
      exact th_ne hc3 hq h0
  repeat walk_at "e10"
  have hsim4 : Sim m (some (cw cnt)) m (some fun r => qq q * cw cnt r) id (qq q) := sim_th (cw cnt) m (qq q)
  have hco4 : ∀ i, i < wide → Vd 3 m (cols i) := hcols
  have hyo4 : Vd 3 m yv := hy
  have hwo4 : Vw m (some fun r => qq q * cw cnt r) := th_vd hcnt q m
  refine f_fit hK (m := m) (W := (some fun r => qq q * cw cnt r)) (wide := wide) (cols := cols) (y := yv) (by omega) (by omega) hwo4 (th_0 cnt q m) hco4 hyo4 (.inl rfl) ?_
  obtain ⟨o4, ho4⟩ : ∃ p, tr id (qq q) o = p := ⟨_, rfl⟩
  have eo4 : og m (some fun r => qq q * cw cnt r) cols wide = o4 := (sim_og hsim4 (qq_ne q) cols wide).trans (by rw [hO]; exact ho4)
  have hBo4 := og_b (W := (some fun r => qq q * cw cnt r)) (m := m) (cols := cols) (by omega) hwo4 wide (by omega) hco4
  have hpvo4 := og_pv (m := m) (W := (some fun r => qq q * cw cnt r)) (cols := cols) wide
  rw [eo4] at hBo4 hpvo4
  have hreo4 := (sw_vd (by omega) hwo4 hBo4 hyo4 o4.n (Nat.le_refl _)).mono (Sb_le hBo4.n3)
  have no4 : o4.n = o.n := by rw [← ho4]; rfl
  unfold fitD
  rw [eo4]
  unfold fitO
  have t4 : told3F m (some (cw cnt)) yv wide o = told3F m (some fun r => qq q * cw cnt r) yv wide o4 := ho4 ▸ (sim_told3F hsim4 (qq_ne q) yv wide o).symm
  have f4 : ∀ j, yv j - sw m (some (cw cnt)) o.bs o.nr yv o.n j = yv j - sw m (some fun r => qq q * cw cnt r) o4.bs o4.nr yv o4.n j := fun j => ho4 ▸ (sim_res hsim4 (qq_ne q) yv o j).symm
  have r4 : ip m (some fun r => qq q * cw cnt r) (sw m (some fun r => qq q * cw cnt r) o4.bs o4.nr yv o4.n) (sw m (some fun r => qq q * cw cnt r) o4.bs o4.nr yv o4.n) = qq q * ip m (some (cw cnt)) (sw m (some (cw cnt)) o.bs o.nr yv o.n) (sw m (some (cw cnt)) o.bs o.nr yv o.n) := ho4 ▸ sim_rss hsim4 (qq_ne q) yv o
  repeat walk_at "e10"
  refine f_told hK (m := m) (W := (some fun r => qq q * cw cnt r)) (by omega) hwo4 hreo4 (by rw [cfL_len]; omega) (by rw [pivD, Ls_len]; omega) ?_
  repeat walk_at "e10"
  refine f_told hK (m := m) (W := (some (cw cnt))) (by omega) hw hre (by rw [cfL_len]; omega) (by rw [pivD, Ls_len]; omega) ?_
  repeat walk_at "e10"
  refine cmp_ne (a := told3F m (some fun r => qq q * cw cnt r) yv wide o4) t4 (told3_ok ..) ?_
  repeat walk_at "e10"
  refine cmp_ne (VL_congr fun j hj => f4 j) (VL_ok 7 _ _) ?_
  repeat walk_at "e10"
  refine f_rss hK (by omega) hw hre ?_
  repeat walk_at "e10"
  refine f_rss hK (by omega) hwo4 hreo4 ?_
  rw [r4]
  have rs : Rd 2766 (ip m (some (cw cnt)) (sw m (some (cw cnt)) o.bs o.nr yv o.n) (sw m (some (cw cnt)) o.bs o.nr yv o.n)) := (ip_rd (by omega) hw hre hre).mono (by decide)
  generalize ip m (some (cw cnt)) (sw m (some (cw cnt)) o.bs o.nr yv o.n) (sw m (some (cw cnt)) o.bs o.nr yv o.n) = s at *
  obtain ⟨sz1, sz2⟩ := rs.bd (by decide)
  obtain ⟨sz3, sz4⟩ := ((qq_rd q).mul rs).bd (by decide)
  repeat walk_at "e10"
  refine b_mul (mulOk (k := 8000) (l := 20) (sz3.mul sz2) (by unfold Sz; omega) (by decide) (by decide) (by decide)) ?_
  repeat walk_at "e10"
  refine b_mul (mulOk (k := 4000) (l := 20) sz1 (by unfold Sz; omega) (by decide) (by decide) (by decide)) ?_
  repeat walk_at "e10"
  refine b_mul (mulOk (k := 4020) (l := 4000) (sz1.mul (show Sz 20 (upI q) by unfold Sz; omega)) sz4 (by decide) (by decide) (by decide)) ?_
  repeat walk_at "e10"
  exact c_eq_t (last_eq q s) rfl
end
theorem reps_ints {im : Im} : ∀ {vs : List Value} {ns : List Int}, IntsAre vs ns → Reps im vs (ns.map D.int)
  | _, _, .nil => .nil
  | _, _, .cons n t h => .cons (.int n t) (reps_ints h)
theorem ints_Ls (ns : List Int) : ns.map D.int = Ls ns.length fun i => .int ((ns[i]?).getD 0) := by
  unfold Ls
  apply List.ext_getElem
  · simp
  · intro i h1 h2
    simp at h1 ⊢
    rw [List.getElem?_eq_getElem h1]; rfl
section
variable {w : World} {s₁ : Shared} {mg mb : Str → Option Value}
set_option maxHeartbeats 8000000
theorem cf_facts (P : Params) : hasDictIn (Mine.heap1 P) CF = true ∧ plainGet (Mine.heap1 P) CF "" = true ∧ findIn (Mine.heap1 P) (.ref CF) "__setattr__" = some (some (.builtin "object.__setattr__")) ∧ plainOver (Mine.heap1 P) CF = true := ⟨by kernel_rfl, by kernel_rfl, by kernel_rfl, by kernel_rfl⟩
theorem cf_names (P : Params) : ∀ x ∈ fitNames, findIn (Mine.heap1 P) (.ref CF) x = some none ∧ takerIn (Mine.heap1 P) CF x = some none := by
  intro x hx
  simp only [fitNames, List.mem_cons, List.not_mem_nil, or_false] at hx
  rcases hx with rfl | rfl | rfl | rfl | rfl | rfl | rfl | rfl | rfl | rfl | rfl <;> exact ⟨by kernel_rfl, by kernel_rfl⟩
noncomputable def mkCx (prog : Program) (KX : (Mine.heap1 w.params).In s₁.heap) (g : s₁.heap.Ns mainGlobals mg) (b : s₁.heap.Ns builtinsNs mb) (lim : s₁.heap.NoLimit) (bi : ∀ x : Str, x ≠ "__name__" → mb x = bootBuiltins x) : Cx where
  prog := prog
  w := w
  K := Mine.heap1 w.params
  mg := mg
  mb := mb
  G := s₁.heap
  X := KX
  g := g
  b := b
  lim := lim
  bi := bi
  pg := fun x => (cf_facts w.params).2.1
  hdt := (cf_facts w.params).1
  fno := fun x hx => (cf_names w.params x hx).1
  stt := (cf_facts w.params).2.2.1
  plo := (cf_facts w.params).2.2.2
  tko := fun x hx => (cf_names w.params x hx).2
theorem law_run {prog : Program} (KX : (Mine.heap1 w.params).In s₁.heap) (g : s₁.heap.Ns mainGlobals mg) (b : s₁.heap.Ns builtinsNs mb) (lim : s₁.heap.NoLimit) (bi : ∀ x : Str, x ≠ "__name__" → mb x = bootBuiltins x)
    {l : Addr} {vs : List Value} {ns : List Int} (hL : s₁.heap.IsList l vs.toArray) (hI : IntsAre vs ns) (hN : ns.length ≤ 63) {fa : Addr} (hfa : mg "law" = some (.ref fa)) {Q : Value → Shared → Prop} {E : Value → Shared → Prop}
    (hQ : ∀ h' tk', (∀ a o, s₁.heap.get? a = some o → h'.get? a = some o) → Q (.bool true) { s₁ with heap := h', toks := tk' }) : wpAny (model prog w) callerA (call (.ref fa) [.ref l]) Q E s₁ := by
  have e : mg "law" = some (.ref 262) := mg_of KX g (by kernel_rfl)
  rw [e] at hfa
  cases hfa
  have A0 : AOk 16 callerA := ⟨rfl, by decide, by decide⟩
  obtain ⟨o, ho, hc, n, hd⟩ := hL
  have F := f_law (c := mkCx prog KX g b lim bi) (n := 0) rfl (N := ns.length) (v := fun i => (ns[i]?).getD 0) hN
  refine F callerA s₁.heap.get? s₁ Q E [.ref l] A0 ⟨fun _ _ z => z, fun a ob z => KX a ob z, fun _ _ z => z⟩ (.cons (.lst ho hc hd ?_) .nil) fun v d im' h' tk' _ keep _ r hk => ?_
  · rw [← ints_Ls]; exact reps_ints hI
  · subst hk
    cases r
    exact hQ h' tk' keep
end
abbrev rwL := PySem.Challenge.rw_ov0060_01
theorem adrs_ok (P : Params) : adrs = (heap1 P).map (·.1) := by kernel_rfl
abbrev hook1 : Hook := kHook heap1 adrs adrs_ok
theorem said1 : OpenLaw.wellSaid rwL = true := by
  rw [PySem.W.Fast.te9446332074065402090]
  kernel_rfl
theorem left1 : LeftO rwL.row.prog view1 [Str.ofString "fit"] (fun s => xlAt view1 [] s && recOk rwL.row.records s) hook1.obs hook1.val 3368 := by
  intro w
  unfold openEnds fencedOpening topFrom
  rw [PySem.W.Fast.te10274390034422433532, PySem.W.Fast.te14082659384304107361, PySem.W.Fast.te4187177175401517315, PySem.W.Fast.te14364793385576792824]
  kernel_rfl
end Mine
set_option maxRecDepth 100000 in
set_option maxHeartbeats 8000000 in
theorem PySem.Challenge.cw_ov0060_01_holds : PySem.Challenge.rw_ov0060_01.Holds := by
  refine holds_law Mine.said1 fun said => ?_
  refine holds_open (q := Mine.view1) (loose := [Str.ofString "fit"]) (Xt := fun s => xlAt Mine.view1 [] s && recOk Mine.rwL.row.records s) (XP := XL Mine.view1 []) (Yf := Mine.hook1.obs) (Ya := Mine.hook1.val) (YP := Mine.hook1.says) (N := 3368) Mine.left1 Mine.hook1.of Mine.hook1.keeps (fun s e => xl_of s (Bool.and_eq_true_iff.mp e).1) XL.keeps (by rfl) (by rfl) (by rfl) (fun s e => recFacts_of (Bool.and_eq_true_iff.mp e).2) (by first | rfl | fail "w") (by first | assumption | decide +kernel) (by decide +kernel) ⟨rfl, rfl, rfl, rfl, rfl, by decide +kernel⟩ ?hw ?hc
  case hw => w_witness2
  case hc =>
    intro w s₀ s₁ mg mb G Y fa o pm cd doc dV kV ho hd hcd hD hmg hg args vals as hpre hlay hrd hwl hlo
    have KX := kIn_of Y
    refine Ground.open G ?_
    intro T B D TE TW
    wrow_args hpre hlay hrd hwl hlo
    refine Mine.law_run KX T.g T.b T.nolimit T.builtins (by assumption) (by assumption) (by omega) hmg ?_
    intro h' tk' keep
    refine GoodW.toG ⟨.inl ⟨_, _, _, rfl, raisesW_false (by wrow_none_raised), .bool true, ?_, unshared_nil⟩, keep, rfl, hg⟩
    wrow_post
