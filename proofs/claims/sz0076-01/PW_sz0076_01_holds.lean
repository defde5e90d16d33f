import PyProof.Rows.All
import Wide.All
import OpenK.AllK
import Wide.FinOn
import PySem.Challenge.RW_sz0076_01
set_option Elab.async false
set_option maxRecDepth 100000
set_option compiler.extract_closed false
open PySem PySem.W PyProof.Rows PySem.Calls
namespace Mine
section -- Kf
open PySem PySem.W PyProof.Rows
/-- the defs of a text, those of its classes at their place -/
def fnsIn : List Stmt → List Stmt
  | [] => []
  | x :: r => match x with
    | .FunctionDef .. => x :: fnsIn r
    | _ => fnsIn r
def fnsOf : List Stmt → List Stmt
  | [] => []
  | x :: r => match x with
    | .FunctionDef .. => x :: fnsOf r
    | .ClassDef _ _ _ body .. => fnsIn body ++ fnsOf r
    | _ => fnsOf r
def fn (n : Nat) : Option (Arguments × List Stmt × Scope) := match (fnsOf PySem.Challenge.pw_sz0076_01.main.body)[n]? with
  | some (.FunctionDef _ a b _ _ _ s ..) => some (a, b, s)
  | _ => none
/-- the part of the heap that the walk reads: as the top leaves it -/
noncomputable def kfr : Params → Frag := fun P =>
  (fun (p0 : Arguments) (b0 : List Stmt) (s0 : Scope) (_ : some (p0, b0, s0) = fn 0) (p1 : Arguments) (b1 : List Stmt) (s1 : Scope) (_ : some (p1, b1, s1) = fn 1) (p2 : Arguments) (b2 : List Stmt) (s2 : Scope) (_ : some (p2, b2, s2) = fn 2) (p3 : Arguments) (b3 : List Stmt) (s3 : Scope) (_ : some (p3, b3, s3) = fn 3) (p4 : Arguments) (b4 : List Stmt) (s4 : Scope) (_ : some (p4, b4, s4) = fn 4) (p5 : Arguments) (b5 : List Stmt) (s5 : Scope) (_ : some (p5, b5, s5) = fn 5) (p6 : Arguments) (b6 : List Stmt) (s6 : Scope) (_ : some (p6, b6, s6) = fn 6) (p7 : Arguments) (b7 : List Stmt) (s7 : Scope) (_ : some (p7, b7, s7) = fn 7) (p8 : Arguments) (b8 : List Stmt) (s8 : Scope) (_ : some (p8, b8, s8) = fn 8) (p9 : Arguments) (b9 : List Stmt) (s9 : Scope) (_ : some (p9, b9, s9) = fn 9) (p10 : Arguments) (b10 : List Stmt) (s10 : Scope) (_ : some (p10, b10, s10) = fn 10) (p11 : Arguments) (b11 : List Stmt) (s11 : Scope) (_ : some (p11, b11, s11) = fn 11) (p12 : Arguments) (b12 : List Stmt) (s12 : Scope) (_ : some (p12, b12, s12) = fn 12) (p13 : Arguments) (b13 : List Stmt) (s13 : Scope) (_ : some (p13, b13, s13) = fn 13) (p14 : Arguments) (b14 : List Stmt) (s14 : Scope) (_ : some (p14, b14, s14) = fn 14) (p15 : Arguments) (b15 : List Stmt) (s15 : Scope) (_ : some (p15, b15, s15) = fn 15) (p16 : Arguments) (b16 : List Stmt) (s16 : Scope) (_ : some (p16, b16, s16) = fn 16) (p17 : Arguments) (b17 : List Stmt) (s17 : Scope) (_ : some (p17, b17, s17) = fn 17) (p18 : Arguments) (b18 : List Stmt) (s18 : Scope) (_ : some (p18, b18, s18) = fn 18) (p19 : Arguments) (b19 : List Stmt) (s19 : Scope) (_ : some (p19, b19, s19) = fn 19) (p20 : Arguments) (b20 : List Stmt) (s20 : Scope) (_ : some (p20, b20, s20) = fn 20) (p21 : Arguments) (b21 : List Stmt) (s21 : Scope) (_ : some (p21, b21, s21) = fn 21) (p22 : Arguments) (b22 : List Stmt) (s22 : Scope) (_ : some (p22, b22, s22) = fn 22) (p23 : Arguments) (b23 : List Stmt) (s23 : Scope) (_ : some (p23, b23, s23) = fn 23) (p24 : Arguments) (b24 : List Stmt) (s24 : Scope) (_ : some (p24, b24, s24) = fn 24) (p25 : Arguments) (b25 : List Stmt) (s25 : Scope) (_ : some (p25, b25, s25) = fn 25) (p26 : Arguments) (b26 : List Stmt) (s26 : Scope) (_ : some (p26, b26, s26) = fn 26) (p27 : Arguments) (b27 : List Stmt) (s27 : Scope) (_ : some (p27, b27, s27) = fn 27) (p28 : Arguments) (b28 : List Stmt) (s28 : Scope) (_ : some (p28, b28, s28) = fn 28) (p29 : Arguments) (b29 : List Stmt) (s29 : Scope) (_ : some (p29, b29, s29) = fn 29) (p30 : Arguments) (b30 : List Stmt) (s30 : Scope) (_ : some (p30, b30, s30) = fn 30) (p31 : Arguments) (b31 : List Stmt) (s31 : Scope) (_ : some (p31, b31, s31) = fn 31) => ((
    (nat_lit 2, { cls := Value.none, data := Data.dict #[{ hash := PyData.keyHash P (Str.ofString "type.__subclasses__.Exception.0"), key := Value.str (Str.ofString "type.__subclasses__.Exception.0") 378, val := Value.int 122 0 }, { hash := PyData.keyHash P (Str.ofString "type.__subclasses__.Exception.n"), key := Value.str (Str.ofString "type.__subclasses__.Exception.n") 379, val := Value.int 1 0 }] 2 }) ::
    (nat_lit 3, { cls := Value.type "dict", data := Data.dict #[{ hash := PyData.keyHash P (Str.ofString "__name__"), key := Value.str (Str.ofString "__name__") 165, val := Value.str (Str.ofString "law_sz0076_01") 592 }, { hash := PyData.keyHash P (Str.ofString "__doc__"), key := Value.str (Str.ofString "__doc__") 166, val := Value.none }, { hash := PyData.keyHash P (Str.ofString "__package__"), key := Value.str (Str.ofString "__package__") 167, val := Value.none }, { hash := PyData.keyHash P (Str.ofString "__loader__"), key := Value.str (Str.ofString "__loader__") 168, val := Value.builtin "__main__.__loader__#opaque" }, { hash := PyData.keyHash P (Str.ofString "__spec__"), key := Value.str (Str.ofString "__spec__") 169, val := Value.none }, { hash := PyData.keyHash P (Str.ofString "__annotations__"), key := Value.str (Str.ofString "__annotations__") 170, val := Value.ref 6 }, { hash := PyData.keyHash P (Str.ofString "__builtins__"), key := Value.str (Str.ofString "__builtins__") 171, val := Value.ref 4 }, { hash := PyData.keyHash P (Str.ofString "__file__"), key := Value.str (Str.ofString "__file__") 173, val := Value.str (Str.ofString "/claim/cut.py") 172 }, { hash := PyData.keyHash P (Str.ofString "__cached__"), key := Value.str (Str.ofString "__cached__") 174, val := Value.none }, { hash := PyData.keyHash P (Str.ofString "SIGN_BIT"), key := Value.str (Str.ofString "SIGN_BIT") 192, val := Value.int 9223372036854775808 191 }, { hash := PyData.keyHash P (Str.ofString "FRACTION_BITS"), key := Value.str (Str.ofString "FRACTION_BITS") 194, val := Value.int 52 193 }, { hash := PyData.keyHash P (Str.ofString "HIDDEN_BIT"), key := Value.str (Str.ofString "HIDDEN_BIT") 198, val := Value.int 4503599627370496 197 }, { hash := PyData.keyHash P (Str.ofString "EXPONENT_MASK"), key := Value.str (Str.ofString "EXPONENT_MASK") 200, val := Value.int 2047 199 }, { hash := PyData.keyHash P (Str.ofString "EXPONENT_SHIFT"), key := Value.str (Str.ofString "EXPONENT_SHIFT") 202, val := Value.int 1075 201 }, { hash := PyData.keyHash P (Str.ofString "LEAST_POWER"), key := Value.str (Str.ofString "LEAST_POWER") 205, val := Value.int (-1074) 204 }, { hash := PyData.keyHash P (Str.ofString "ZERO"), key := Value.str (Str.ofString "ZERO") 207, val := Value.int 0 206 }, { hash := PyData.keyHash P (Str.ofString "NEG_ZERO"), key := Value.str (Str.ofString "NEG_ZERO") 211, val := Value.int 9223372036854775808 210 }, { hash := PyData.keyHash P (Str.ofString "ONE"), key := Value.str (Str.ofString "ONE") 215, val := Value.int 4607182418800017408 214 }, { hash := PyData.keyHash P (Str.ofString "INF"), key := Value.str (Str.ofString "INF") 219, val := Value.int 9218868437227405312 218 }, { hash := PyData.keyHash P (Str.ofString "width"), key := Value.str (Str.ofString "width") 228, val := Value.ref 21 }, { hash := PyData.keyHash P (Str.ofString "pack"), key := Value.str (Str.ofString "pack") 237, val := Value.ref 28 }, { hash := PyData.keyHash P (Str.ofString "signed"), key := Value.str (Str.ofString "signed") 245, val := Value.ref 35 }, { hash := PyData.keyHash P (Str.ofString "quotient"), key := Value.str (Str.ofString "quotient") 254, val := Value.ref 42 }, { hash := PyData.keyHash P (Str.ofString "round_ratio"), key := Value.str (Str.ofString "round_ratio") 267, val := Value.ref 49 }, { hash := PyData.keyHash P (Str.ofString "assembled"), key := Value.str (Str.ofString "assembled") 277, val := Value.ref 56 }, { hash := PyData.keyHash P (Str.ofString "FARTHEST"), key := Value.str (Str.ofString "FARTHEST") 281, val := Value.int 400 280 }, { hash := PyData.keyHash P (Str.ofString "figure_of"), key := Value.str (Str.ofString "figure_of") 288, val := Value.ref 63 }, { hash := PyData.keyHash P (Str.ofString "run_end"), key := Value.str (Str.ofString "run_end") 297, val := Value.ref 70 }, { hash := PyData.keyHash P (Str.ofString "worth"), key := Value.str (Str.ofString "worth") 309, val := Value.ref 77 }, { hash := PyData.keyHash P (Str.ofString "from_decimal"), key := Value.str (Str.ofString "from_decimal") 320, val := Value.ref 84 }, { hash := PyData.keyHash P (Str.ofString "sign_at"), key := Value.str (Str.ofString "sign_at") 328, val := Value.ref 91 }, { hash := PyData.keyHash P (Str.ofString "turned"), key := Value.str (Str.ofString "turned") 336, val := Value.ref 98 }, { hash := PyData.keyHash P (Str.ofString "exponent_at"), key := Value.str (Str.ofString "exponent_at") 348, val := Value.ref 105 }, { hash := PyData.keyHash P (Str.ofString "JSFail"), key := Value.str (Str.ofString "JSFail") 381, val := Value.ref 122 }, { hash := PyData.keyHash P (Str.ofString "JSON_BLANKS"), key := Value.str (Str.ofString "JSON_BLANKS") 385, val := Value.str (Str.ofString " \t\n\x0d") 384 }, { hash := PyData.keyHash P (Str.ofString "JSON_DIGITS"), key := Value.str (Str.ofString "JSON_DIGITS") 387, val := Value.str (Str.ofString "0123456789") 386 }, { hash := PyData.keyHash P (Str.ofString "JSON_HEX"), key := Value.str (Str.ofString "JSON_HEX") 389, val := Value.str (Str.ofString "0123456789abcdefABCDEF") 388 }, { hash := PyData.keyHash P (Str.ofString "JSON_ESCAPES"), key := Value.str (Str.ofString "JSON_ESCAPES") 414, val := Value.ref 126 }, { hash := PyData.keyHash P (Str.ofString "JSON_WORDS"), key := Value.str (Str.ofString "JSON_WORDS") 421, val := Value.ref 133 }, { hash := PyData.keyHash P (Str.ofString "JSON_CLOSERS"), key := Value.str (Str.ofString "JSON_CLOSERS") 428, val := Value.ref 134 }, { hash := PyData.keyHash P (Str.ofString "refuse_json"), key := Value.str (Str.ofString "refuse_json") 436, val := Value.ref 141 }, { hash := PyData.keyHash P (Str.ofString "json_sign"), key := Value.str (Str.ofString "json_sign") 444, val := Value.ref 148 }, { hash := PyData.keyHash P (Str.ofString "skip_json_blanks"), key := Value.str (Str.ofString "skip_json_blanks") 452, val := Value.ref 155 }, { hash := PyData.keyHash P (Str.ofString "json_number"), key := Value.str (Str.ofString "json_number") 468, val := Value.ref 162 }, { hash := PyData.keyHash P (Str.ofString "json_hex_unit"), key := Value.str (Str.ofString "json_hex_unit") 477, val := Value.ref 169 }, { hash := PyData.keyHash P (Str.ofString "json_string"), key := Value.str (Str.ofString "json_string") 487, val := Value.ref 176 }, { hash := PyData.keyHash P (Str.ofString "json_plain"), key := Value.str (Str.ofString "json_plain") 500, val := Value.ref 183 }, { hash := PyData.keyHash P (Str.ofString "JsonReader"), key := Value.str (Str.ofString "JsonReader") 584, val := Value.ref 242 }, { hash := PyData.keyHash P (Str.ofString "read_json"), key := Value.str (Str.ofString "read_json") 591, val := Value.ref 253 }, { hash := PyData.keyHash P (Str.ofString "_law_made"), key := Value.str (Str.ofString "_law_made") 599, val := Value.ref 258 }, { hash := PyData.keyHash P (Str.ofString "_law_is_refused"), key := Value.str (Str.ofString "_law_is_refused") 607, val := Value.ref 265 }, { hash := PyData.keyHash P (Str.ofString "law"), key := Value.str (Str.ofString "law") 613, val := Value.ref 270 }] 52 }) ::
    (nat_lit 15, { cls := Value.type "tuple", data := Data.seq #[] }) ::
    (nat_lit 17, { cls := Value.type "tuple", data := Data.seq #[Value.str (Str.ofString "n") 223, Value.str (Str.ofString "many") 224, Value.str (Str.ofString "step") 225] }) ::
    (nat_lit 18, { cls := Value.type "tuple", data := Data.seq #[] }) ::
    (nat_lit 20, { cls := Value.type "code", data := Data.fields #[Value.str (Str.ofString "width") 220, Value.str (Str.ofString "width") 221, Value.str (Str.ofString "/claim/cut.py") 222, Value.int 12 0, Value.int 1 0, Value.int 0 0, Value.int 0 0, Value.int 3 0, Value.ref 15, Value.bool true, Value.int 181 0, Value.ref 16, Value.none, Value.ref 17, Value.ref 18, Value.ref 19, Value.int 226 0, Value.int 12 0, Value.str (Str.ofString "/claim/cut.py") 227] }) ::
    (nat_lit 21, { cls := Value.type "function", data := Data.func { name := Str.ofString "width", qualname := Str.ofString "width", params := p0, body := FuncBody.stmts b0, scope := s0, globals := 3, closure := [], defaults := Value.none, kwdefaults := Value.none, pyModule := Value.str (Str.ofString "js.dbits") 187, code := Value.ref 20 } }) ::
    (nat_lit 22, { cls := Value.type "tuple", data := Data.seq #[] }) ::
    (nat_lit 24, { cls := Value.type "tuple", data := Data.seq #[Value.str (Str.ofString "sign") 232, Value.str (Str.ofString "exponent") 233, Value.str (Str.ofString "fraction") 234] }) ::
    (nat_lit 25, { cls := Value.type "tuple", data := Data.seq #[] }) ::
    (nat_lit 27, { cls := Value.type "code", data := Data.fields #[Value.str (Str.ofString "pack") 229, Value.str (Str.ofString "pack") 230, Value.str (Str.ofString "/claim/cut.py") 231, Value.int 22 0, Value.int 3 0, Value.int 0 0, Value.int 0 0, Value.int 3 0, Value.ref 22, Value.bool true, Value.int 181 0, Value.ref 23, Value.none, Value.ref 24, Value.ref 25, Value.ref 26, Value.int 235 0, Value.int 22 0, Value.str (Str.ofString "/claim/cut.py") 236] }) ::
    (nat_lit 28, { cls := Value.type "function", data := Data.func { name := Str.ofString "pack", qualname := Str.ofString "pack", params := p1, body := FuncBody.stmts b1, scope := s1, globals := 3, closure := [], defaults := Value.none, kwdefaults := Value.none, pyModule := Value.str (Str.ofString "js.dbits") 187, code := Value.ref 27 } }) ::
    (nat_lit 29, { cls := Value.type "tuple", data := Data.seq #[] }) ::
    (nat_lit 31, { cls := Value.type "tuple", data := Data.seq #[Value.str (Str.ofString "sign") 241, Value.str (Str.ofString "bits") 242] }) ::
    (nat_lit 32, { cls := Value.type "tuple", data := Data.seq #[] }) ::
    (nat_lit 34, { cls := Value.type "code", data := Data.fields #[Value.str (Str.ofString "signed") 238, Value.str (Str.ofString "signed") 239, Value.str (Str.ofString "/claim/cut.py") 240, Value.int 24 0, Value.int 2 0, Value.int 0 0, Value.int 0 0, Value.int 3 0, Value.ref 29, Value.bool true, Value.int 181 0, Value.ref 30, Value.none, Value.ref 31, Value.ref 32, Value.ref 33, Value.int 243 0, Value.int 24 0, Value.str (Str.ofString "/claim/cut.py") 244] }) ::
    (nat_lit 35, { cls := Value.type "function", data := Data.func { name := Str.ofString "signed", qualname := Str.ofString "signed", params := p2, body := FuncBody.stmts b2, scope := s2, globals := 3, closure := [], defaults := Value.none, kwdefaults := Value.none, pyModule := Value.str (Str.ofString "js.dbits") 187, code := Value.ref 34 } }) ::
    (nat_lit 36, { cls := Value.type "tuple", data := Data.seq #[] }) ::
    (nat_lit 38, { cls := Value.type "tuple", data := Data.seq #[Value.str (Str.ofString "top") 249, Value.str (Str.ofString "bottom") 250, Value.str (Str.ofString "power") 251] }) ::
    (nat_lit 39, { cls := Value.type "tuple", data := Data.seq #[] }) ::
    (nat_lit 41, { cls := Value.type "code", data := Data.fields #[Value.str (Str.ofString "quotient") 246, Value.str (Str.ofString "quotient") 247, Value.str (Str.ofString "/claim/cut.py") 248, Value.int 26 0, Value.int 3 0, Value.int 0 0, Value.int 0 0, Value.int 3 0, Value.ref 36, Value.bool true, Value.int 181 0, Value.ref 37, Value.none, Value.ref 38, Value.ref 39, Value.ref 40, Value.int 252 0, Value.int 26 0, Value.str (Str.ofString "/claim/cut.py") 253] }) ::
    (nat_lit 42, { cls := Value.type "function", data := Data.func { name := Str.ofString "quotient", qualname := Str.ofString "quotient", params := p3, body := FuncBody.stmts b3, scope := s3, globals := 3, closure := [], defaults := Value.none, kwdefaults := Value.none, pyModule := Value.str (Str.ofString "js.dbits") 187, code := Value.ref 41 } }) ::
    (nat_lit 43, { cls := Value.type "tuple", data := Data.seq #[] }) ::
    (nat_lit 45, { cls := Value.type "tuple", data := Data.seq #[Value.str (Str.ofString "sign") 258, Value.str (Str.ofString "top") 259, Value.str (Str.ofString "bottom") 260, Value.str (Str.ofString "power") 261, Value.str (Str.ofString "whole") 262, Value.str (Str.ofString "rest") 263, Value.str (Str.ofString "unit") 264] }) ::
    (nat_lit 46, { cls := Value.type "tuple", data := Data.seq #[] }) ::
    (nat_lit 48, { cls := Value.type "code", data := Data.fields #[Value.str (Str.ofString "round_ratio") 255, Value.str (Str.ofString "round_ratio") 256, Value.str (Str.ofString "/claim/cut.py") 257, Value.int 32 0, Value.int 3 0, Value.int 0 0, Value.int 0 0, Value.int 3 0, Value.ref 43, Value.bool true, Value.int 181 0, Value.ref 44, Value.none, Value.ref 45, Value.ref 46, Value.ref 47, Value.int 265 0, Value.int 32 0, Value.str (Str.ofString "/claim/cut.py") 266] }) ::
    (nat_lit 49, { cls := Value.type "function", data := Data.func { name := Str.ofString "round_ratio", qualname := Str.ofString "round_ratio", params := p4, body := FuncBody.stmts b4, scope := s4, globals := 3, closure := [], defaults := Value.none, kwdefaults := Value.none, pyModule := Value.str (Str.ofString "js.dbits") 187, code := Value.ref 48 } }) ::
    (nat_lit 50, { cls := Value.type "tuple", data := Data.seq #[] }) ::
    (nat_lit 52, { cls := Value.type "tuple", data := Data.seq #[Value.str (Str.ofString "sign") 271, Value.str (Str.ofString "whole") 272, Value.str (Str.ofString "power") 273, Value.str (Str.ofString "exponent") 274] }) ::
    (nat_lit 53, { cls := Value.type "tuple", data := Data.seq #[] }) ::
    (nat_lit 55, { cls := Value.type "code", data := Data.fields #[Value.str (Str.ofString "assembled") 268, Value.str (Str.ofString "assembled") 269, Value.str (Str.ofString "/claim/cut.py") 270, Value.int 43 0, Value.int 3 0, Value.int 0 0, Value.int 0 0, Value.int 3 0, Value.ref 50, Value.bool true, Value.int 181 0, Value.ref 51, Value.none, Value.ref 52, Value.ref 53, Value.ref 54, Value.int 275 0, Value.int 43 0, Value.str (Str.ofString "/claim/cut.py") 276] }) ::
    (nat_lit 56, { cls := Value.type "function", data := Data.func { name := Str.ofString "assembled", qualname := Str.ofString "assembled", params := p5, body := FuncBody.stmts b5, scope := s5, globals := 3, closure := [], defaults := Value.none, kwdefaults := Value.none, pyModule := Value.str (Str.ofString "js.dbits") 187, code := Value.ref 55 } }) ::
    (nat_lit 57, { cls := Value.type "tuple", data := Data.seq #[] }) ::
    (nat_lit 59, { cls := Value.type "tuple", data := Data.seq #[Value.str (Str.ofString "sign") 285] }) ::
    (nat_lit 60, { cls := Value.type "tuple", data := Data.seq #[] }) ::
    (nat_lit 62, { cls := Value.type "code", data := Data.fields #[Value.str (Str.ofString "figure_of") 282, Value.str (Str.ofString "figure_of") 283, Value.str (Str.ofString "/claim/cut.py") 284, Value.int 54 0, Value.int 1 0, Value.int 0 0, Value.int 0 0, Value.int 3 0, Value.ref 57, Value.bool true, Value.int 181 0, Value.ref 58, Value.none, Value.ref 59, Value.ref 60, Value.ref 61, Value.int 286 0, Value.int 54 0, Value.str (Str.ofString "/claim/cut.py") 287] }) ::
    (nat_lit 63, { cls := Value.type "function", data := Data.func { name := Str.ofString "figure_of", qualname := Str.ofString "figure_of", params := p6, body := FuncBody.stmts b6, scope := s6, globals := 3, closure := [], defaults := Value.none, kwdefaults := Value.none, pyModule := Value.str (Str.ofString "js.numparse") 278, code := Value.ref 62 } }) ::
    (nat_lit 64, { cls := Value.type "tuple", data := Data.seq #[] }) ::
    (nat_lit 66, { cls := Value.type "tuple", data := Data.seq #[Value.str (Str.ofString "text") 292, Value.str (Str.ofString "at") 293, Value.str (Str.ofString "radix") 294] }) ::
    (nat_lit 67, { cls := Value.type "tuple", data := Data.seq #[] }) ::
    (nat_lit 69, { cls := Value.type "code", data := Data.fields #[Value.str (Str.ofString "run_end") 289, Value.str (Str.ofString "run_end") 290, Value.str (Str.ofString "/claim/cut.py") 291, Value.int 60 0, Value.int 3 0, Value.int 0 0, Value.int 0 0, Value.int 3 0, Value.ref 64, Value.bool true, Value.int 181 0, Value.ref 65, Value.none, Value.ref 66, Value.ref 67, Value.ref 68, Value.int 295 0, Value.int 60 0, Value.str (Str.ofString "/claim/cut.py") 296] }) ::
    (nat_lit 70, { cls := Value.type "function", data := Data.func { name := Str.ofString "run_end", qualname := Str.ofString "run_end", params := p7, body := FuncBody.stmts b7, scope := s7, globals := 3, closure := [], defaults := Value.none, kwdefaults := Value.none, pyModule := Value.str (Str.ofString "js.numparse") 278, code := Value.ref 69 } }) ::
    (nat_lit 71, { cls := Value.type "tuple", data := Data.seq #[] }) ::
    (nat_lit 73, { cls := Value.type "tuple", data := Data.seq #[Value.str (Str.ofString "text") 301, Value.str (Str.ofString "begin") 302, Value.str (Str.ofString "end") 303, Value.str (Str.ofString "radix") 304, Value.str (Str.ofString "found") 305, Value.str (Str.ofString "at") 306] }) ::
    (nat_lit 74, { cls := Value.type "tuple", data := Data.seq #[] }) ::
    (nat_lit 76, { cls := Value.type "code", data := Data.fields #[Value.str (Str.ofString "worth") 298, Value.str (Str.ofString "worth") 299, Value.str (Str.ofString "/claim/cut.py") 300, Value.int 64 0, Value.int 4 0, Value.int 0 0, Value.int 0 0, Value.int 3 0, Value.ref 71, Value.bool true, Value.int 181 0, Value.ref 72, Value.none, Value.ref 73, Value.ref 74, Value.ref 75, Value.int 307 0, Value.int 64 0, Value.str (Str.ofString "/claim/cut.py") 308] }) ::
    (nat_lit 77, { cls := Value.type "function", data := Data.func { name := Str.ofString "worth", qualname := Str.ofString "worth", params := p8, body := FuncBody.stmts b8, scope := s8, globals := 3, closure := [], defaults := Value.none, kwdefaults := Value.none, pyModule := Value.str (Str.ofString "js.numparse") 278, code := Value.ref 76 } }) ::
    (nat_lit 78, { cls := Value.type "tuple", data := Data.seq #[] }) ::
    (nat_lit 80, { cls := Value.type "tuple", data := Data.seq #[Value.str (Str.ofString "figures") 313, Value.str (Str.ofString "exponent") 314, Value.str (Str.ofString "told") 315, Value.str (Str.ofString "place") 316, Value.str (Str.ofString "number") 317] }) ::
    (nat_lit 81, { cls := Value.type "tuple", data := Data.seq #[] }) ::
    (nat_lit 83, { cls := Value.type "code", data := Data.fields #[Value.str (Str.ofString "from_decimal") 310, Value.str (Str.ofString "from_decimal") 311, Value.str (Str.ofString "/claim/cut.py") 312, Value.int 69 0, Value.int 2 0, Value.int 0 0, Value.int 0 0, Value.int 3 0, Value.ref 78, Value.bool true, Value.int 181 0, Value.ref 79, Value.none, Value.ref 80, Value.ref 81, Value.ref 82, Value.int 318 0, Value.int 69 0, Value.str (Str.ofString "/claim/cut.py") 319] }) ::
    (nat_lit 84, { cls := Value.type "function", data := Data.func { name := Str.ofString "from_decimal", qualname := Str.ofString "from_decimal", params := p9, body := FuncBody.stmts b9, scope := s9, globals := 3, closure := [], defaults := Value.none, kwdefaults := Value.none, pyModule := Value.str (Str.ofString "js.numparse") 278, code := Value.ref 83 } }) ::
    (nat_lit 85, { cls := Value.type "tuple", data := Data.seq #[] }) ::
    (nat_lit 87, { cls := Value.type "tuple", data := Data.seq #[Value.str (Str.ofString "text") 324, Value.str (Str.ofString "at") 325] }) ::
    (nat_lit 88, { cls := Value.type "tuple", data := Data.seq #[] }) ::
    (nat_lit 90, { cls := Value.type "code", data := Data.fields #[Value.str (Str.ofString "sign_at") 321, Value.str (Str.ofString "sign_at") 322, Value.str (Str.ofString "/claim/cut.py") 323, Value.int 80 0, Value.int 2 0, Value.int 0 0, Value.int 0 0, Value.int 3 0, Value.ref 85, Value.bool true, Value.int 181 0, Value.ref 86, Value.none, Value.ref 87, Value.ref 88, Value.ref 89, Value.int 326 0, Value.int 80 0, Value.str (Str.ofString "/claim/cut.py") 327] }) ::
    (nat_lit 91, { cls := Value.type "function", data := Data.func { name := Str.ofString "sign_at", qualname := Str.ofString "sign_at", params := p10, body := FuncBody.stmts b10, scope := s10, globals := 3, closure := [], defaults := Value.none, kwdefaults := Value.none, pyModule := Value.str (Str.ofString "js.numparse") 278, code := Value.ref 90 } }) ::
    (nat_lit 92, { cls := Value.type "tuple", data := Data.seq #[] }) ::
    (nat_lit 94, { cls := Value.type "tuple", data := Data.seq #[Value.str (Str.ofString "bits") 332, Value.str (Str.ofString "is_minus") 333] }) ::
    (nat_lit 95, { cls := Value.type "tuple", data := Data.seq #[] }) ::
    (nat_lit 97, { cls := Value.type "code", data := Data.fields #[Value.str (Str.ofString "turned") 329, Value.str (Str.ofString "turned") 330, Value.str (Str.ofString "/claim/cut.py") 331, Value.int 84 0, Value.int 2 0, Value.int 0 0, Value.int 0 0, Value.int 3 0, Value.ref 92, Value.bool true, Value.int 181 0, Value.ref 93, Value.none, Value.ref 94, Value.ref 95, Value.ref 96, Value.int 334 0, Value.int 84 0, Value.str (Str.ofString "/claim/cut.py") 335] }) ::
    (nat_lit 98, { cls := Value.type "function", data := Data.func { name := Str.ofString "turned", qualname := Str.ofString "turned", params := p11, body := FuncBody.stmts b11, scope := s11, globals := 3, closure := [], defaults := Value.none, kwdefaults := Value.none, pyModule := Value.str (Str.ofString "js.numparse") 278, code := Value.ref 97 } }) ::
    (nat_lit 99, { cls := Value.type "tuple", data := Data.seq #[] }) ::
    (nat_lit 101, { cls := Value.type "tuple", data := Data.seq #[Value.str (Str.ofString "text") 340, Value.str (Str.ofString "at") 341, Value.str (Str.ofString "is_minus") 342, Value.str (Str.ofString "begin") 343, Value.str (Str.ofString "end") 344, Value.str (Str.ofString "far") 345] }) ::
    (nat_lit 102, { cls := Value.type "tuple", data := Data.seq #[] }) ::
    (nat_lit 104, { cls := Value.type "code", data := Data.fields #[Value.str (Str.ofString "exponent_at") 337, Value.str (Str.ofString "exponent_at") 338, Value.str (Str.ofString "/claim/cut.py") 339, Value.int 86 0, Value.int 2 0, Value.int 0 0, Value.int 0 0, Value.int 3 0, Value.ref 99, Value.bool true, Value.int 181 0, Value.ref 100, Value.none, Value.ref 101, Value.ref 102, Value.ref 103, Value.int 346 0, Value.int 86 0, Value.str (Str.ofString "/claim/cut.py") 347] }) ::
    (nat_lit 105, { cls := Value.type "function", data := Data.func { name := Str.ofString "exponent_at", qualname := Str.ofString "exponent_at", params := p12, body := FuncBody.stmts b12, scope := s12, globals := 3, closure := [], defaults := Value.none, kwdefaults := Value.none, pyModule := Value.str (Str.ofString "js.numparse") 278, code := Value.ref 104 } }) ::
    (nat_lit 106, { cls := Value.type "tuple", data := Data.seq #[Value.type "Exception"] }) ::
    (nat_lit 113, { cls := Value.type "tuple", data := Data.seq #[] }) ::
    (nat_lit 115, { cls := Value.type "tuple", data := Data.seq #[Value.str (Str.ofString "self") 366, Value.str (Str.ofString "kind") 367, Value.str (Str.ofString "text") 368] }) ::
    (nat_lit 116, { cls := Value.type "tuple", data := Data.seq #[] }) ::
    (nat_lit 118, { cls := Value.type "code", data := Data.fields #[Value.str (Str.ofString "__init__") 363, Value.str (Str.ofString "JSFail.__init__") 364, Value.str (Str.ofString "/claim/cut.py") 365, Value.int 98 0, Value.int 3 0, Value.int 0 0, Value.int 0 0, Value.int 3 0, Value.ref 113, Value.bool true, Value.int 181 0, Value.ref 114, Value.none, Value.ref 115, Value.ref 116, Value.ref 117, Value.int 369 0, Value.int 98 0, Value.str (Str.ofString "/claim/cut.py") 370] }) ::
    (nat_lit 119, { cls := Value.type "function", data := Data.func { name := Str.ofString "__init__", qualname := Str.ofString "JSFail.__init__", params := p13, body := FuncBody.stmts b13, scope := s13, globals := 3, closure := [], defaults := Value.none, kwdefaults := Value.none, pyModule := Value.str (Str.ofString "js.values") 349, code := Value.ref 118 } }) ::
    (nat_lit 120, { cls := Value.type "tuple", data := Data.seq #[Value.str (Str.ofString "kind") 372, Value.str (Str.ofString "text") 373] }) ::
    (nat_lit 121, { cls := Value.type "dict", data := Data.dict #[{ hash := PyData.keyHash P (Str.ofString "__module__"), key := Value.str (Str.ofString "__module__") 358, val := Value.str (Str.ofString "js.values") 349 }, { hash := PyData.keyHash P (Str.ofString "__firstlineno__"), key := Value.str (Str.ofString "__firstlineno__") 362, val := Value.int 96 361 }, { hash := PyData.keyHash P (Str.ofString "__init__"), key := Value.str (Str.ofString "__init__") 371, val := Value.ref 119 }, { hash := PyData.keyHash P (Str.ofString "__static_attributes__"), key := Value.str (Str.ofString "__static_attributes__") 374, val := Value.ref 120 }, { hash := PyData.keyHash P (Str.ofString "__weakref__"), key := Value.str (Str.ofString "__weakref__") 376, val := Value.ref 123 }, { hash := PyData.keyHash P (Str.ofString "__doc__"), key := Value.str (Str.ofString "__doc__") 377, val := Value.none }] 3 }) ::
    (nat_lit 122, { cls := Value.type "type", data := Data.cls { name := Str.ofString "JSFail", bases := [Value.type "Exception"], mro := [Value.ref 122, Value.type "Exception", Value.type "BaseException", Value.type "object"], ns := 121, qualname := Str.ofString "JSFail" }, slots := #[some (Value.ref 106), none, some (Value.str (Str.ofString "JSFail") 351), some (Value.str (Str.ofString "JSFail") 359), some (Value.builtin "Exception.__new__"), some (Value.bool true)] }) ::
    (nat_lit 123, { cls := Value.type "getset_descriptor", data := Data.fields #[Value.str (Str.ofString "__weakref__") 375, Value.ref 122, Value.builtin "ExceptionGroup.__weakref__", Value.none] }) ::
    (nat_lit 126, { cls := Value.type "dict", data := Data.dict #[{ hash := PyData.keyHash P (Str.ofString "\""), key := Value.str (Str.ofString "\"") 390, val := Value.str (Str.ofString "\"") 391 }, { hash := PyData.keyHash P (Str.ofString "\\"), key := Value.str (Str.ofString "\\") 392, val := Value.str (Str.ofString "\\") 393 }, { hash := PyData.keyHash P (Str.ofString "/"), key := Value.str (Str.ofString "/") 394, val := Value.str (Str.ofString "/") 395 }, { hash := PyData.keyHash P (Str.ofString "b"), key := Value.str (Str.ofString "b") 396, val := Value.str (Str.ofString "\x08") 397 }, { hash := PyData.keyHash P (Str.ofString "f"), key := Value.str (Str.ofString "f") 398, val := Value.str (Str.ofString "\x0c") 399 }, { hash := PyData.keyHash P (Str.ofString "n"), key := Value.str (Str.ofString "n") 400, val := Value.str (Str.ofString "\n") 401 }, { hash := PyData.keyHash P (Str.ofString "r"), key := Value.str (Str.ofString "r") 402, val := Value.str (Str.ofString "\x0d") 403 }, { hash := PyData.keyHash P (Str.ofString "t"), key := Value.str (Str.ofString "t") 404, val := Value.str (Str.ofString "\t") 405 }] 8 }) ::
    (nat_lit 127, { cls := Value.type "tuple", data := Data.seq #[Value.str (Str.ofString "null") 416, Value.none] }) ::
    (nat_lit 128, { cls := Value.type "tuple", data := Data.seq #[Value.str (Str.ofString "null") 415, Value.ref 127] }) ::
    (nat_lit 129, { cls := Value.type "tuple", data := Data.seq #[Value.str (Str.ofString "bool") 418, Value.bool true] }) ::
    (nat_lit 130, { cls := Value.type "tuple", data := Data.seq #[Value.str (Str.ofString "true") 417, Value.ref 129] }) ::
    (nat_lit 131, { cls := Value.type "tuple", data := Data.seq #[Value.str (Str.ofString "bool") 420, Value.bool false] }) ::
    (nat_lit 132, { cls := Value.type "tuple", data := Data.seq #[Value.str (Str.ofString "false") 419, Value.ref 131] }) ::
    (nat_lit 133, { cls := Value.type "tuple", data := Data.seq #[Value.ref 128, Value.ref 130, Value.ref 132] }) ::
    (nat_lit 134, { cls := Value.type "dict", data := Data.dict #[{ hash := PyData.keyHash P (Str.ofString "array"), key := Value.str (Str.ofString "array") 422, val := Value.str (Str.ofString "]") 423 }, { hash := PyData.keyHash P (Str.ofString "object"), key := Value.str (Str.ofString "object") 424, val := Value.str (Str.ofString "}") 425 }] 2 }) ::
    (nat_lit 135, { cls := Value.type "tuple", data := Data.seq #[] }) ::
    (nat_lit 137, { cls := Value.type "tuple", data := Data.seq #[Value.str (Str.ofString "text") 432, Value.str (Str.ofString "at") 433] }) ::
    (nat_lit 138, { cls := Value.type "tuple", data := Data.seq #[] }) ::
    (nat_lit 140, { cls := Value.type "code", data := Data.fields #[Value.str (Str.ofString "refuse_json") 429, Value.str (Str.ofString "refuse_json") 430, Value.str (Str.ofString "/claim/cut.py") 431, Value.int 108 0, Value.int 2 0, Value.int 0 0, Value.int 0 0, Value.int 3 0, Value.ref 135, Value.bool true, Value.int 181 0, Value.ref 136, Value.none, Value.ref 137, Value.ref 138, Value.ref 139, Value.int 434 0, Value.int 108 0, Value.str (Str.ofString "/claim/cut.py") 435] }) ::
    (nat_lit 141, { cls := Value.type "function", data := Data.func { name := Str.ofString "refuse_json", qualname := Str.ofString "refuse_json", params := p14, body := FuncBody.stmts b14, scope := s14, globals := 3, closure := [], defaults := Value.none, kwdefaults := Value.none, pyModule := Value.str (Str.ofString "js.jsonread") 382, code := Value.ref 140 } }) ::
    (nat_lit 142, { cls := Value.type "tuple", data := Data.seq #[] }) ::
    (nat_lit 144, { cls := Value.type "tuple", data := Data.seq #[Value.str (Str.ofString "text") 440, Value.str (Str.ofString "at") 441] }) ::
    (nat_lit 145, { cls := Value.type "tuple", data := Data.seq #[] }) ::
    (nat_lit 147, { cls := Value.type "code", data := Data.fields #[Value.str (Str.ofString "json_sign") 437, Value.str (Str.ofString "json_sign") 438, Value.str (Str.ofString "/claim/cut.py") 439, Value.int 112 0, Value.int 2 0, Value.int 0 0, Value.int 0 0, Value.int 3 0, Value.ref 142, Value.bool true, Value.int 181 0, Value.ref 143, Value.none, Value.ref 144, Value.ref 145, Value.ref 146, Value.int 442 0, Value.int 112 0, Value.str (Str.ofString "/claim/cut.py") 443] }) ::
    (nat_lit 148, { cls := Value.type "function", data := Data.func { name := Str.ofString "json_sign", qualname := Str.ofString "json_sign", params := p15, body := FuncBody.stmts b15, scope := s15, globals := 3, closure := [], defaults := Value.none, kwdefaults := Value.none, pyModule := Value.str (Str.ofString "js.jsonread") 382, code := Value.ref 147 } }) ::
    (nat_lit 149, { cls := Value.type "tuple", data := Data.seq #[] }) ::
    (nat_lit 151, { cls := Value.type "tuple", data := Data.seq #[Value.str (Str.ofString "text") 448, Value.str (Str.ofString "at") 449] }) ::
    (nat_lit 152, { cls := Value.type "tuple", data := Data.seq #[] }) ::
    (nat_lit 154, { cls := Value.type "code", data := Data.fields #[Value.str (Str.ofString "skip_json_blanks") 445, Value.str (Str.ofString "skip_json_blanks") 446, Value.str (Str.ofString "/claim/cut.py") 447, Value.int 114 0, Value.int 2 0, Value.int 0 0, Value.int 0 0, Value.int 3 0, Value.ref 149, Value.bool true, Value.int 181 0, Value.ref 150, Value.none, Value.ref 151, Value.ref 152, Value.ref 153, Value.int 450 0, Value.int 114 0, Value.str (Str.ofString "/claim/cut.py") 451] }) ::
    (nat_lit 155, { cls := Value.type "function", data := Data.func { name := Str.ofString "skip_json_blanks", qualname := Str.ofString "skip_json_blanks", params := p16, body := FuncBody.stmts b16, scope := s16, globals := 3, closure := [], defaults := Value.none, kwdefaults := Value.none, pyModule := Value.str (Str.ofString "js.jsonread") 382, code := Value.ref 154 } }) ::
    (nat_lit 156, { cls := Value.type "tuple", data := Data.seq #[] }) ::
    (nat_lit 158, { cls := Value.type "tuple", data := Data.seq #[Value.str (Str.ofString "text") 456, Value.str (Str.ofString "at") 457, Value.str (Str.ofString "is_minus") 458, Value.str (Str.ofString "begin") 459, Value.str (Str.ofString "point") 460, Value.str (Str.ofString "figures") 461, Value.str (Str.ofString "end") 462, Value.str (Str.ofString "behind") 463, Value.str (Str.ofString "exponent") 464, Value.str (Str.ofString "last") 465] }) ::
    (nat_lit 159, { cls := Value.type "tuple", data := Data.seq #[] }) ::
    (nat_lit 161, { cls := Value.type "code", data := Data.fields #[Value.str (Str.ofString "json_number") 453, Value.str (Str.ofString "json_number") 454, Value.str (Str.ofString "/claim/cut.py") 455, Value.int 118 0, Value.int 2 0, Value.int 0 0, Value.int 0 0, Value.int 3 0, Value.ref 156, Value.bool true, Value.int 181 0, Value.ref 157, Value.none, Value.ref 158, Value.ref 159, Value.ref 160, Value.int 466 0, Value.int 118 0, Value.str (Str.ofString "/claim/cut.py") 467] }) ::
    (nat_lit 162, { cls := Value.type "function", data := Data.func { name := Str.ofString "json_number", qualname := Str.ofString "json_number", params := p17, body := FuncBody.stmts b17, scope := s17, globals := 3, closure := [], defaults := Value.none, kwdefaults := Value.none, pyModule := Value.str (Str.ofString "js.jsonread") 382, code := Value.ref 161 } }) ::
    (nat_lit 163, { cls := Value.type "tuple", data := Data.seq #[] }) ::
    (nat_lit 165, { cls := Value.type "tuple", data := Data.seq #[Value.str (Str.ofString "text") 472, Value.str (Str.ofString "at") 473, Value.str (Str.ofString "spot") 474] }) ::
    (nat_lit 166, { cls := Value.type "tuple", data := Data.seq #[] }) ::
    (nat_lit 168, { cls := Value.type "code", data := Data.fields #[Value.str (Str.ofString "json_hex_unit") 469, Value.str (Str.ofString "json_hex_unit") 470, Value.str (Str.ofString "/claim/cut.py") 471, Value.int 132 0, Value.int 2 0, Value.int 0 0, Value.int 0 0, Value.int 3 0, Value.ref 163, Value.bool true, Value.int 181 0, Value.ref 164, Value.none, Value.ref 165, Value.ref 166, Value.ref 167, Value.int 475 0, Value.int 132 0, Value.str (Str.ofString "/claim/cut.py") 476] }) ::
    (nat_lit 169, { cls := Value.type "function", data := Data.func { name := Str.ofString "json_hex_unit", qualname := Str.ofString "json_hex_unit", params := p18, body := FuncBody.stmts b18, scope := s18, globals := 3, closure := [], defaults := Value.none, kwdefaults := Value.none, pyModule := Value.str (Str.ofString "js.jsonread") 382, code := Value.ref 168 } }) ::
    (nat_lit 170, { cls := Value.type "tuple", data := Data.seq #[] }) ::
    (nat_lit 172, { cls := Value.type "tuple", data := Data.seq #[Value.str (Str.ofString "text") 481, Value.str (Str.ofString "at") 482, Value.str (Str.ofString "found") 483, Value.str (Str.ofString "sign") 484] }) ::
    (nat_lit 173, { cls := Value.type "tuple", data := Data.seq #[] }) ::
    (nat_lit 175, { cls := Value.type "code", data := Data.fields #[Value.str (Str.ofString "json_string") 478, Value.str (Str.ofString "json_string") 479, Value.str (Str.ofString "/claim/cut.py") 480, Value.int 137 0, Value.int 2 0, Value.int 0 0, Value.int 0 0, Value.int 3 0, Value.ref 170, Value.bool true, Value.int 181 0, Value.ref 171, Value.none, Value.ref 172, Value.ref 173, Value.ref 174, Value.int 485 0, Value.int 137 0, Value.str (Str.ofString "/claim/cut.py") 486] }) ::
    (nat_lit 176, { cls := Value.type "function", data := Data.func { name := Str.ofString "json_string", qualname := Str.ofString "json_string", params := p19, body := FuncBody.stmts b19, scope := s19, globals := 3, closure := [], defaults := Value.none, kwdefaults := Value.none, pyModule := Value.str (Str.ofString "js.jsonread") 382, code := Value.ref 175 } }) ::
    (nat_lit 177, { cls := Value.type "tuple", data := Data.seq #[] }) ::
    (nat_lit 179, { cls := Value.type "tuple", data := Data.seq #[Value.str (Str.ofString "text") 491, Value.str (Str.ofString "at") 492, Value.str (Str.ofString "word") 493, Value.str (Str.ofString "tree") 494, Value.str (Str.ofString "told") 495, Value.str (Str.ofString "end") 496, Value.str (Str.ofString "bits") 497] }) ::
    (nat_lit 180, { cls := Value.type "tuple", data := Data.seq #[] }) ::
    (nat_lit 182, { cls := Value.type "code", data := Data.fields #[Value.str (Str.ofString "json_plain") 488, Value.str (Str.ofString "json_plain") 489, Value.str (Str.ofString "/claim/cut.py") 490, Value.int 157 0, Value.int 2 0, Value.int 0 0, Value.int 0 0, Value.int 3 0, Value.ref 177, Value.bool true, Value.int 181 0, Value.ref 178, Value.none, Value.ref 179, Value.ref 180, Value.ref 181, Value.int 498 0, Value.int 157 0, Value.str (Str.ofString "/claim/cut.py") 499] }) ::
    (nat_lit 183, { cls := Value.type "function", data := Data.func { name := Str.ofString "json_plain", qualname := Str.ofString "json_plain", params := p20, body := FuncBody.stmts b20, scope := s20, globals := 3, closure := [], defaults := Value.none, kwdefaults := Value.none, pyModule := Value.str (Str.ofString "js.jsonread") 382, code := Value.ref 182 } }) ::
    (nat_lit 191, { cls := Value.type "tuple", data := Data.seq #[] }) ::
    (nat_lit 193, { cls := Value.type "tuple", data := Data.seq #[Value.str (Str.ofString "self") 516, Value.str (Str.ofString "text") 517] }) ::
    (nat_lit 194, { cls := Value.type "tuple", data := Data.seq #[] }) ::
    (nat_lit 196, { cls := Value.type "code", data := Data.fields #[Value.str (Str.ofString "__init__") 513, Value.str (Str.ofString "JsonReader.__init__") 514, Value.str (Str.ofString "/claim/cut.py") 515, Value.int 170 0, Value.int 2 0, Value.int 0 0, Value.int 0 0, Value.int 3 0, Value.ref 191, Value.bool true, Value.int 181 0, Value.ref 192, Value.none, Value.ref 193, Value.ref 194, Value.ref 195, Value.int 518 0, Value.int 170 0, Value.str (Str.ofString "/claim/cut.py") 519] }) ::
    (nat_lit 197, { cls := Value.type "function", data := Data.func { name := Str.ofString "__init__", qualname := Str.ofString "JsonReader.__init__", params := p21, body := FuncBody.stmts b21, scope := s21, globals := 3, closure := [], defaults := Value.none, kwdefaults := Value.none, pyModule := Value.str (Str.ofString "js.jsonread") 382, code := Value.ref 196 } }) ::
    (nat_lit 198, { cls := Value.type "tuple", data := Data.seq #[] }) ::
    (nat_lit 200, { cls := Value.type "tuple", data := Data.seq #[Value.str (Str.ofString "self") 524] }) ::
    (nat_lit 201, { cls := Value.type "tuple", data := Data.seq #[] }) ::
    (nat_lit 203, { cls := Value.type "code", data := Data.fields #[Value.str (Str.ofString "skip") 521, Value.str (Str.ofString "JsonReader.skip") 522, Value.str (Str.ofString "/claim/cut.py") 523, Value.int 176 0, Value.int 1 0, Value.int 0 0, Value.int 0 0, Value.int 3 0, Value.ref 198, Value.bool true, Value.int 181 0, Value.ref 199, Value.none, Value.ref 200, Value.ref 201, Value.ref 202, Value.int 525 0, Value.int 176 0, Value.str (Str.ofString "/claim/cut.py") 526] }) ::
    (nat_lit 204, { cls := Value.type "function", data := Data.func { name := Str.ofString "skip", qualname := Str.ofString "JsonReader.skip", params := p22, body := FuncBody.stmts b22, scope := s22, globals := 3, closure := [], defaults := Value.none, kwdefaults := Value.none, pyModule := Value.str (Str.ofString "js.jsonread") 382, code := Value.ref 203 } }) ::
    (nat_lit 205, { cls := Value.type "tuple", data := Data.seq #[] }) ::
    (nat_lit 207, { cls := Value.type "tuple", data := Data.seq #[Value.str (Str.ofString "self") 531, Value.str (Str.ofString "key") 532] }) ::
    (nat_lit 208, { cls := Value.type "tuple", data := Data.seq #[] }) ::
    (nat_lit 210, { cls := Value.type "code", data := Data.fields #[Value.str (Str.ofString "take_key") 528, Value.str (Str.ofString "JsonReader.take_key") 529, Value.str (Str.ofString "/claim/cut.py") 530, Value.int 180 0, Value.int 1 0, Value.int 0 0, Value.int 0 0, Value.int 3 0, Value.ref 205, Value.bool true, Value.int 181 0, Value.ref 206, Value.none, Value.ref 207, Value.ref 208, Value.ref 209, Value.int 533 0, Value.int 180 0, Value.str (Str.ofString "/claim/cut.py") 534] }) ::
    (nat_lit 211, { cls := Value.type "function", data := Data.func { name := Str.ofString "take_key", qualname := Str.ofString "JsonReader.take_key", params := p23, body := FuncBody.stmts b23, scope := s23, globals := 3, closure := [], defaults := Value.none, kwdefaults := Value.none, pyModule := Value.str (Str.ofString "js.jsonread") 382, code := Value.ref 210 } }) ::
    (nat_lit 212, { cls := Value.type "tuple", data := Data.seq #[] }) ::
    (nat_lit 214, { cls := Value.type "tuple", data := Data.seq #[Value.str (Str.ofString "self") 539, Value.str (Str.ofString "kind") 540] }) ::
    (nat_lit 215, { cls := Value.type "tuple", data := Data.seq #[] }) ::
    (nat_lit 217, { cls := Value.type "code", data := Data.fields #[Value.str (Str.ofString "opened") 536, Value.str (Str.ofString "JsonReader.opened") 537, Value.str (Str.ofString "/claim/cut.py") 538, Value.int 188 0, Value.int 2 0, Value.int 0 0, Value.int 0 0, Value.int 3 0, Value.ref 212, Value.bool true, Value.int 181 0, Value.ref 213, Value.none, Value.ref 214, Value.ref 215, Value.ref 216, Value.int 541 0, Value.int 188 0, Value.str (Str.ofString "/claim/cut.py") 542] }) ::
    (nat_lit 218, { cls := Value.type "function", data := Data.func { name := Str.ofString "opened", qualname := Str.ofString "JsonReader.opened", params := p24, body := FuncBody.stmts b24, scope := s24, globals := 3, closure := [], defaults := Value.none, kwdefaults := Value.none, pyModule := Value.str (Str.ofString "js.jsonread") 382, code := Value.ref 217 } }) ::
    (nat_lit 219, { cls := Value.type "tuple", data := Data.seq #[] }) ::
    (nat_lit 221, { cls := Value.type "tuple", data := Data.seq #[Value.str (Str.ofString "self") 547, Value.str (Str.ofString "sign") 548, Value.str (Str.ofString "tree") 549] }) ::
    (nat_lit 222, { cls := Value.type "tuple", data := Data.seq #[] }) ::
    (nat_lit 224, { cls := Value.type "code", data := Data.fields #[Value.str (Str.ofString "next_tree") 544, Value.str (Str.ofString "JsonReader.next_tree") 545, Value.str (Str.ofString "/claim/cut.py") 546, Value.int 198 0, Value.int 1 0, Value.int 0 0, Value.int 0 0, Value.int 3 0, Value.ref 219, Value.bool true, Value.int 181 0, Value.ref 220, Value.none, Value.ref 221, Value.ref 222, Value.ref 223, Value.int 550 0, Value.int 198 0, Value.str (Str.ofString "/claim/cut.py") 551] }) ::
    (nat_lit 225, { cls := Value.type "function", data := Data.func { name := Str.ofString "next_tree", qualname := Str.ofString "JsonReader.next_tree", params := p25, body := FuncBody.stmts b25, scope := s25, globals := 3, closure := [], defaults := Value.none, kwdefaults := Value.none, pyModule := Value.str (Str.ofString "js.jsonread") 382, code := Value.ref 224 } }) ::
    (nat_lit 226, { cls := Value.type "tuple", data := Data.seq #[] }) ::
    (nat_lit 228, { cls := Value.type "tuple", data := Data.seq #[Value.str (Str.ofString "self") 556, Value.str (Str.ofString "tree") 557, Value.str (Str.ofString "kind") 558, Value.str (Str.ofString "items") 559, Value.str (Str.ofString "sign") 560] }) ::
    (nat_lit 229, { cls := Value.type "tuple", data := Data.seq #[] }) ::
    (nat_lit 231, { cls := Value.type "code", data := Data.fields #[Value.str (Str.ofString "settled") 553, Value.str (Str.ofString "JsonReader.settled") 554, Value.str (Str.ofString "/claim/cut.py") 555, Value.int 207 0, Value.int 2 0, Value.int 0 0, Value.int 0 0, Value.int 3 0, Value.ref 226, Value.bool true, Value.int 181 0, Value.ref 227, Value.none, Value.ref 228, Value.ref 229, Value.ref 230, Value.int 561 0, Value.int 207 0, Value.str (Str.ofString "/claim/cut.py") 562] }) ::
    (nat_lit 232, { cls := Value.type "function", data := Data.func { name := Str.ofString "settled", qualname := Str.ofString "JsonReader.settled", params := p26, body := FuncBody.stmts b26, scope := s26, globals := 3, closure := [], defaults := Value.none, kwdefaults := Value.none, pyModule := Value.str (Str.ofString "js.jsonread") 382, code := Value.ref 231 } }) ::
    (nat_lit 233, { cls := Value.type "tuple", data := Data.seq #[] }) ::
    (nat_lit 235, { cls := Value.type "tuple", data := Data.seq #[Value.str (Str.ofString "self") 567, Value.str (Str.ofString "found") 568, Value.str (Str.ofString "tree") 569] }) ::
    (nat_lit 236, { cls := Value.type "tuple", data := Data.seq #[] }) ::
    (nat_lit 238, { cls := Value.type "code", data := Data.fields #[Value.str (Str.ofString "whole") 564, Value.str (Str.ofString "JsonReader.whole") 565, Value.str (Str.ofString "/claim/cut.py") 566, Value.int 223 0, Value.int 1 0, Value.int 0 0, Value.int 0 0, Value.int 3 0, Value.ref 233, Value.bool true, Value.int 181 0, Value.ref 234, Value.none, Value.ref 235, Value.ref 236, Value.ref 237, Value.int 570 0, Value.int 223 0, Value.str (Str.ofString "/claim/cut.py") 571] }) ::
    (nat_lit 239, { cls := Value.type "function", data := Data.func { name := Str.ofString "whole", qualname := Str.ofString "JsonReader.whole", params := p27, body := FuncBody.stmts b27, scope := s27, globals := 3, closure := [], defaults := Value.none, kwdefaults := Value.none, pyModule := Value.str (Str.ofString "js.jsonread") 382, code := Value.ref 238 } }) ::
    (nat_lit 240, { cls := Value.type "tuple", data := Data.seq #[Value.str (Str.ofString "at") 573, Value.str (Str.ofString "keys") 574, Value.str (Str.ofString "text") 575, Value.str (Str.ofString "waiting") 576] }) ::
    (nat_lit 241, { cls := Value.type "dict", data := Data.dict #[{ hash := PyData.keyHash P (Str.ofString "__module__"), key := Value.str (Str.ofString "__module__") 508, val := Value.str (Str.ofString "js.jsonread") 382 }, { hash := PyData.keyHash P (Str.ofString "__firstlineno__"), key := Value.str (Str.ofString "__firstlineno__") 512, val := Value.int 168 511 }, { hash := PyData.keyHash P (Str.ofString "__init__"), key := Value.str (Str.ofString "__init__") 520, val := Value.ref 197 }, { hash := PyData.keyHash P (Str.ofString "skip"), key := Value.str (Str.ofString "skip") 527, val := Value.ref 204 }, { hash := PyData.keyHash P (Str.ofString "take_key"), key := Value.str (Str.ofString "take_key") 535, val := Value.ref 211 }, { hash := PyData.keyHash P (Str.ofString "opened"), key := Value.str (Str.ofString "opened") 543, val := Value.ref 218 }, { hash := PyData.keyHash P (Str.ofString "next_tree"), key := Value.str (Str.ofString "next_tree") 552, val := Value.ref 225 }, { hash := PyData.keyHash P (Str.ofString "settled"), key := Value.str (Str.ofString "settled") 563, val := Value.ref 232 }, { hash := PyData.keyHash P (Str.ofString "whole"), key := Value.str (Str.ofString "whole") 572, val := Value.ref 239 }, { hash := PyData.keyHash P (Str.ofString "__static_attributes__"), key := Value.str (Str.ofString "__static_attributes__") 577, val := Value.ref 240 }, { hash := PyData.keyHash P (Str.ofString "__dict__"), key := Value.str (Str.ofString "__dict__") 579, val := Value.ref 243 }, { hash := PyData.keyHash P (Str.ofString "__weakref__"), key := Value.str (Str.ofString "__weakref__") 581, val := Value.ref 244 }, { hash := PyData.keyHash P (Str.ofString "__doc__"), key := Value.str (Str.ofString "__doc__") 582, val := Value.none }] 4 }) ::
    (nat_lit 242, { cls := Value.type "type", data := Data.cls { name := Str.ofString "JsonReader", bases := [Value.type "object"], mro := [Value.ref 242, Value.type "object"], ns := 241, qualname := Str.ofString "JsonReader" }, slots := #[none, none, some (Value.str (Str.ofString "JsonReader") 501), some (Value.str (Str.ofString "JsonReader") 509), some (Value.builtin "object.__new__"), some (Value.bool true)] }) ::
    (nat_lit 243, { cls := Value.type "getset_descriptor", data := Data.fields #[Value.str (Str.ofString "__dict__") 578, Value.ref 242, Value.builtin "function.__dict__", Value.builtin "function.__dict__#set"] }) ::
    (nat_lit 244, { cls := Value.type "getset_descriptor", data := Data.fields #[Value.str (Str.ofString "__weakref__") 580, Value.ref 242, Value.builtin "ExceptionGroup.__weakref__", Value.none] }) ::
    (nat_lit 247, { cls := Value.type "tuple", data := Data.seq #[] }) ::
    (nat_lit 249, { cls := Value.type "tuple", data := Data.seq #[Value.str (Str.ofString "text") 588] }) ::
    (nat_lit 250, { cls := Value.type "tuple", data := Data.seq #[] }) ::
    (nat_lit 252, { cls := Value.type "code", data := Data.fields #[Value.str (Str.ofString "read_json") 585, Value.str (Str.ofString "read_json") 586, Value.str (Str.ofString "/claim/cut.py") 587, Value.int 232 0, Value.int 1 0, Value.int 0 0, Value.int 0 0, Value.int 3 0, Value.ref 247, Value.bool true, Value.int 181 0, Value.ref 248, Value.none, Value.ref 249, Value.ref 250, Value.ref 251, Value.int 589 0, Value.int 232 0, Value.str (Str.ofString "/claim/cut.py") 590] }) ::
    (nat_lit 253, { cls := Value.type "function", data := Data.func { name := Str.ofString "read_json", qualname := Str.ofString "read_json", params := p28, body := FuncBody.stmts b28, scope := s28, globals := 3, closure := [], defaults := Value.none, kwdefaults := Value.none, pyModule := Value.str (Str.ofString "js.jsonread") 382, code := Value.ref 252 } }) ::
    (nat_lit 254, { cls := Value.type "tuple", data := Data.seq #[] }) ::
    (nat_lit 257, { cls := Value.type "code", data := Data.fields #[Value.str (Str.ofString "_law_made") 594, Value.str (Str.ofString "_law_made") 595, Value.str (Str.ofString "/claim/cut.py") 596, Value.int 235 0, Value.int 2 0, Value.int 0 0, Value.int 0 0, Value.int 3 0, Value.ref 254, Value.bool true, Value.int 181 0, Value.ref 255, Value.none, Value.none, Value.none, Value.ref 256, Value.int 597 0, Value.int 235 0, Value.str (Str.ofString "/claim/cut.py") 598] }) ::
    (nat_lit 258, { cls := Value.type "function", data := Data.func { name := Str.ofString "_law_made", qualname := Str.ofString "_law_made", params := p29, body := FuncBody.stmts b29, scope := s29, globals := 3, closure := [], defaults := Value.none, kwdefaults := Value.none, pyModule := Value.str (Str.ofString "law_sz0076_01") 592, code := Value.ref 257 } }) ::
    (nat_lit 259, { cls := Value.type "tuple", data := Data.seq #[] }) ::
    (nat_lit 261, { cls := Value.type "tuple", data := Data.seq #[Value.str (Str.ofString "text") 603, Value.str (Str.ofString "wrong") 604] }) ::
    (nat_lit 262, { cls := Value.type "tuple", data := Data.seq #[] }) ::
    (nat_lit 264, { cls := Value.type "code", data := Data.fields #[Value.str (Str.ofString "_law_is_refused") 600, Value.str (Str.ofString "_law_is_refused") 601, Value.str (Str.ofString "/claim/cut.py") 602, Value.int 249 0, Value.int 1 0, Value.int 0 0, Value.int 0 0, Value.int 3 0, Value.ref 259, Value.bool true, Value.int 181 0, Value.ref 260, Value.none, Value.ref 261, Value.ref 262, Value.ref 263, Value.int 605 0, Value.int 249 0, Value.str (Str.ofString "/claim/cut.py") 606] }) ::
    (nat_lit 265, { cls := Value.type "function", data := Data.func { name := Str.ofString "_law_is_refused", qualname := Str.ofString "_law_is_refused", params := p30, body := FuncBody.stmts b30, scope := s30, globals := 3, closure := [], defaults := Value.none, kwdefaults := Value.none, pyModule := Value.str (Str.ofString "law_sz0076_01") 592, code := Value.ref 264 } }) ::
    (nat_lit 266, { cls := Value.type "tuple", data := Data.seq #[] }) ::
    (nat_lit 269, { cls := Value.type "code", data := Data.fields #[Value.str (Str.ofString "law") 608, Value.str (Str.ofString "law") 609, Value.str (Str.ofString "/claim/cut.py") 610, Value.int 255 0, Value.int 1 0, Value.int 0 0, Value.int 0 0, Value.int 3 0, Value.ref 266, Value.bool true, Value.int 181 0, Value.ref 267, Value.none, Value.none, Value.none, Value.ref 268, Value.int 611 0, Value.int 255 0, Value.str (Str.ofString "/claim/cut.py") 612] }) ::
    (nat_lit 270, { cls := Value.type "function", data := Data.func { name := Str.ofString "law", qualname := Str.ofString "law", params := p31, body := FuncBody.stmts b31, scope := s31, globals := 3, closure := [], defaults := Value.none, kwdefaults := Value.none, pyModule := Value.str (Str.ofString "law_sz0076_01") 592, code := Value.ref 269 } }) :: []
  ) : Frag)) _ _ _ (by conv => rhs; whnf) _ _ _ (by conv => rhs; whnf) _ _ _ (by conv => rhs; whnf) _ _ _ (by conv => rhs; whnf) _ _ _ (by conv => rhs; whnf) _ _ _ (by conv => rhs; whnf) _ _ _ (by conv => rhs; whnf) _ _ _ (by conv => rhs; whnf) _ _ _ (by conv => rhs; whnf) _ _ _ (by conv => rhs; whnf) _ _ _ (by conv => rhs; whnf) _ _ _ (by conv => rhs; whnf) _ _ _ (by conv => rhs; whnf) _ _ _ (by conv => rhs; whnf) _ _ _ (by conv => rhs; whnf) _ _ _ (by conv => rhs; whnf) _ _ _ (by conv => rhs; whnf) _ _ _ (by conv => rhs; whnf) _ _ _ (by conv => rhs; whnf) _ _ _ (by conv => rhs; whnf) _ _ _ (by conv => rhs; whnf) _ _ _ (by conv => rhs; whnf) _ _ _ (by conv => rhs; whnf) _ _ _ (by conv => rhs; whnf) _ _ _ (by conv => rhs; whnf) _ _ _ (by conv => rhs; whnf) _ _ _ (by conv => rhs; whnf) _ _ _ (by conv => rhs; whnf) _ _ _ (by conv => rhs; whnf) _ _ _ (by conv => rhs; whnf) _ _ _ (by conv => rhs; whnf) _ _ _ (by conv => rhs; whnf)
def kfAt : List Addr := [2, 3, 15, 17, 18, 20, 21, 22, 24, 25, 27, 28, 29, 31, 32, 34, 35, 36, 38, 39, 41, 42, 43, 45, 46, 48, 49, 50, 52, 53, 55, 56, 57, 59, 60, 62, 63, 64, 66, 67, 69, 70, 71, 73, 74, 76, 77, 78, 80, 81, 83, 84, 85, 87, 88, 90, 91, 92, 94, 95, 97, 98, 99, 101, 102, 104, 105, 106, 113, 115, 116, 118, 119, 120, 121, 122, 123, 126, 127, 128, 129, 130, 131, 132, 133, 134, 135, 137, 138, 140, 141, 142, 144, 145, 147, 148, 149, 151, 152, 154, 155, 156, 158, 159, 161, 162, 163, 165, 166, 168, 169, 170, 172, 173, 175, 176, 177, 179, 180, 182, 183, 191, 193, 194, 196, 197, 198, 200, 201, 203, 204, 205, 207, 208, 210, 211, 212, 214, 215, 217, 218, 219, 221, 222, 224, 225, 226, 228, 229, 231, 232, 233, 235, 236, 238, 239, 240, 241, 242, 243, 244, 247, 249, 250, 252, 253, 254, 257, 258, 259, 261, 262, 264, 265, 266, 269, 270]
theorem kf_at (P : Params) : kfAt = (kfr P).map (·.1) := by kernel_rfl
end
section -- E1
/-- trees that call nothing and leave every object's own dict where it is -/
inductive Mild : {α : Type} → Sem α → Prop
  | pure {α : Type} (a : α) : Mild (Sem.pure a)
  | raise {α : Type} (e : Value) : Mild (Sem.raise e : Sem α)
  | unsupported {α : Type} (w : String) : Mild (Sem.unsupported w : Sem α)
  | register {α : Type} (a : Addr) (k : Unit → Sem α) : Mild (Sem.register a k)
  | rule {α : Type} (t : String) (k : Unit → Sem α) : (∀ u, Mild (k u)) → Mild (Sem.rule t k)
  | at {α : Type} (p : Pos) (k : Unit → Sem α) : (∀ u, Mild (k u)) → Mild (Sem.at p k)
  | load {α : Type} (a : Addr) (q : Option Value) (k : Obj → Sem α) : (∀ o, Mild (k o)) → Mild (Sem.load a q k)
  | update {α : Type} (a : Addr) (q : Option Value) (f : Obj → Obj) (k : Unit → Sem α) : (∀ o, o.isFreed = false → (f o).isFreed = false ∧ (f o).dict = o.dict) → (∀ u, Mild (k u)) → Mild (Sem.update a q f k)
  | alloc {α : Type} (o : Obj) (k : Addr → Sem α) : (∀ a, Mild (k a)) → Mild (Sem.alloc o k)
  | stack {α : Type} (k : List (Code × Pos) → Sem α) : (∀ l, Mild (k l)) → Mild (Sem.stack k)
  | ask {α : Type} (k : Setting → Sem α) : (∀ l, Mild (k l)) → Mild (Sem.ask k)
  | fresh {α : Type} (k : Tok → Sem α) : (∀ l, Mild (k l)) → Mild (Sem.fresh k)

/-- every object of the one heap stands in the other, with the same own dict -/
def Dk (s s' : Shared) : Prop := ∀ a o, s.heap.get? a = some o → ∃ o', s'.heap.get? a = some o' ∧ o'.dict = o.dict
theorem Dk.refl (s : Shared) : Dk s s := fun _ o e => ⟨o, e, rfl⟩
theorem Dk.trans {a b c : Shared} (x : Dk a b) (y : Dk b c) : Dk a c := fun d o e => by
  obtain ⟨o', e', q⟩ := x d o e
  obtain ⟨o'', e'', q'⟩ := y d o' e'
  exact ⟨o'', e'', q'.trans q⟩

theorem Mild.wp {M : Model} {Γ : Ctx} {α : Type} {t : Sem α} (m : Mild t) : ∀ (Q : α → Pos → Shared → Prop) (E : Value → Pos → Shared → Prop) (p : Pos) (s : Shared), Sem.wp M Γ t Q E p s →
    Sem.wp M Γ t (fun a p s' => Q a p s' ∧ Dk s s') (fun e p s' => E e p s' ∧ Dk s s') p s := by
  induction m with
  | pure a => intro Q E p s h; rw [Sem.wp] at h ⊢; exact ⟨h, Dk.refl s⟩
  | raise e => intro Q E p s h; rw [Sem.wp] at h ⊢; exact ⟨h, Dk.refl s⟩
  | unsupported w => intro Q E p s h; rw [Sem.wp] at h; exact h.elim
  | register a k => intro Q E p s h; rw [Sem.wp] at h; exact h.elim
  | rule t k _ ih => intro Q E p s h; rw [Sem.wp] at h ⊢; exact ih () Q E p s h
  | «at» q k _ ih => intro Q E p s h; rw [Sem.wp] at h ⊢; exact ih () Q E q s h
  | load a q k _ ih => intro Q E p s h; rw [Sem.wp] at h ⊢; obtain ⟨o, ho, h⟩ := h; exact ⟨o, ho, ih o Q E p s h⟩
  | update a q f k hf _ ih =>
    intro Q E p s h
    rw [Sem.wp] at h ⊢
    obtain ⟨hs, h⟩ := h
    have up : Dk s { s with heap := s.heap.update a f } := fun b o e => by
      by_cases z : a = b
      · subst z
        obtain ⟨h1, h2⟩ := hf o (Heap.get?_some_iff.mp e).2
        exact ⟨f o, Heap.get?_update_self f e h1, h2⟩
      · exact ⟨o, (Heap.get?_update_other _ _ z).trans e, rfl⟩
    exact ⟨hs, Sem.wp_mono M Γ (k ()) (fun _ _ _ x => ⟨x.1, up.trans x.2⟩) (fun _ _ _ x => ⟨x.1, up.trans x.2⟩) p _ (ih () Q E p _ h)⟩
  | alloc o k _ ih =>
    intro Q E p s h
    rw [Sem.wp] at h ⊢
    have up : Dk s { s with heap := s.heap.push o } := fun b o' e => ⟨o', Heap.get?_push_of_some _ e, rfl⟩
    exact Sem.wp_mono M Γ (k _) (fun _ _ _ x => ⟨x.1, up.trans x.2⟩) (fun _ _ _ x => ⟨x.1, up.trans x.2⟩) p _ (ih _ Q E p _ h)
  | stack k _ ih => intro Q E p s h; rw [Sem.wp] at h ⊢; exact ih _ Q E p s h
  | ask k _ ih => intro Q E p s h; rw [Sem.wp] at h ⊢; exact ih _ Q E p s h
  | fresh k _ ih =>
    intro Q E p s h
    rw [Sem.wp] at h ⊢
    exact ih _ Q E p _ h
theorem Mild.any {M : Model} {A : Around} {α : Type} {t : Sem α} (m : Mild t) {Q : α → Shared → Prop} {E : Value → Shared → Prop} {s : Shared} (h : wpAny M A t Q E s) :
    wpAny M A t (fun a s' => Q a s' ∧ Dk s s') (fun e s' => E e s' ∧ Dk s s') s := fun Γ p hΓ => m.wp _ _ p s (h Γ p hΓ)

theorem Mild.bind {α β : Type} {t : Sem α} {f : α → Sem β} (m : Mild t) (hf : ∀ a, Mild (f a)) : Mild (t >>= f) := by
  show Mild (Sem.bind t f)
  induction m with
  | pure a => rw [Sem.bind]; exact hf a
  | raise e => rw [Sem.bind]; exact .raise e
  | unsupported w => rw [Sem.bind]; exact .unsupported w
  | register a k => rw [Sem.bind]; exact .register a _
  | rule t k _ ih => rw [Sem.bind]; exact .rule _ _ fun u => ih u
  | «at» q k _ ih => rw [Sem.bind]; exact .at _ _ fun u => ih u
  | load a q k _ ih => rw [Sem.bind]; exact .load _ _ _ fun u => ih u
  | update a q g k hg _ ih => rw [Sem.bind]; exact .update _ _ _ _ hg fun u => ih u
  | alloc o k _ ih => rw [Sem.bind]; exact .alloc _ _ fun u => ih u
  | stack k _ ih => rw [Sem.bind]; exact .stack _ fun u => ih u
  | ask k _ ih => rw [Sem.bind]; exact .ask _ fun u => ih u
  | fresh k _ ih => rw [Sem.bind]; exact .fresh _ fun u => ih u

theorem mild_mapFields (f : Array Value → Array Value) (o : Obj) (h : o.isFreed = false) : (Obj.mapFields f o).isFreed = false ∧ (Obj.mapFields f o).dict = o.dict := by
  obtain ⟨c, d, dt, sl⟩ := o
  cases dt <;> first | exact ⟨h, rfl⟩ | exact ⟨rfl, rfl⟩
theorem mild_load (a : Addr) : Mild (PySem.load a) := .load _ _ _ fun o => .pure o
theorem mild_loadPart (a : Addr) (q : Option Value) : Mild (PySem.loadPart a q) := .load _ _ _ fun o => .pure o
theorem mild_unsupported {α : Type} (w : String) : Mild (PySem.unsupported w : Sem α) := .unsupported w
theorem mild_fieldsOf (v : Value) : Mild (fieldsOf v) := by
  unfold fieldsOf
  split
  · refine .bind (mild_load _) fun o => ?_
    split
    · exact .pure _
    · exact .unsupported _
  · exact .unsupported _
theorem mild_field (v : Value) (i : Nat) : Mild (field v i) := by
  unfold field
  refine .bind (mild_fieldsOf v) fun vs => ?_
  split
  · exact .pure _
  · exact .unsupported _
theorem mild_updateField (a : Addr) (i : Nat) (v : Value) : Mild (updateField a i v) := by
  unfold updateField
  refine .bind (mild_load _) fun o => ?_
  split
  · split
    · exact .update _ _ _ _ (mild_mapFields _) fun u => .pure u
    · exact .unsupported _
  · exact .unsupported _
theorem mild_setField (v : Value) (i : Nat) (x : Value) : Mild (setField v i x) := by
  unfold setField
  split
  · exact mild_updateField _ _ _
  · exact .unsupported _
theorem mild_setFlight (e : Value) (f : Option Addr) : Mild (setFlight e f) := by
  unfold setFlight
  refine .bind (mild_field _ _) fun tb => ?_
  split
  · exact mild_setField _ _ _
  · exact .pure _
theorem mild_entryPlaceOf (f : Addr) (b : Bool) : Mild (entryPlaceOf f b) := by
  unfold entryPlaceOf
  refine .bind (.stack _ fun l => .pure l) fun acts => ?_
  split <;> exact .pure _
theorem mild_frameEnvs : Mild frameEnvs := .bind (.stack _ fun l => .pure l) fun _ => .pure _
theorem mild_underCaller : Mild underTheClaimsCaller := .bind (.stack _ fun l => .pure l) fun _ => .pure _
theorem mild_behindIsImport (env : Env) (outer : List Env) : Mild (behindIsImport env outer) := by
  unfold behindIsImport
  repeat' first
    | exact .pure _
    | exact .bind (mild_field _ _) fun _ => .pure _
    | split
    | (refine .bind ?_ fun _ => ?_)
theorem mild_keptBack (env : Env) (b : Bool) (outer : List Env) : Mild (keptBack env b outer) := by
  unfold keptBack
  repeat' first
    | exact .pure _
    | exact .bind mild_underCaller fun _ => .pure _
    | split
theorem mild_readyFrames : ∀ l : List Env, Mild (readyFrames l)
  | [] => .pure _
  | env :: outer => by
    unfold readyFrames
    split
    · refine .bind (mild_load _) fun o => ?_
      split
      · exact .pure _
      · refine .bind (mild_behindIsImport _ _) fun i => .bind (mild_keptBack _ _ _) fun b => .bind (.update _ _ _ _ (fun o h => ⟨?_, rfl⟩) fun u => .pure u) fun _ => mild_readyFrames outer
        obtain ⟨c, d, dt, sl⟩ := o
        cases dt <;> exact h
    · exact .unsupported _
theorem mild_frameObject (l : List Env) : Mild (frameObject l) := by
  unfold frameObject
  split
  · exact .pure _
  · exact .bind (mild_readyFrames _) fun _ => .pure _
theorem mild_frameOf (env : Env) : Mild (PySem.frameOf env) := by
  unfold PySem.frameOf
  refine .bind mild_frameEnvs fun l => .bind (mild_frameObject _) fun r => ?_
  split
  · exact .pure _
  · exact .unsupported _
theorem mild_newTraceback (vs : List Value) : Mild (newFields "traceback" vs) := by
  unfold newFields newObj newObjAsIs
  repeat' first
    | exact .pure _
    | exact .unsupported _
    | exact .alloc _ _ fun a => .pure a
    | exact mild_load _
    | exact .register _ _
    | (refine .bind ?_ fun _ => ?_)
    | split
theorem mild_noteFrame (e : Value) (env : Env) : Mild (noteFrame e env) := by
  unfold noteFrame EntryCells.newEntry
  repeat' first
    | exact .pure _
    | exact .unsupported _
    | exact mild_field _ _
    | exact mild_setField _ _ _
    | exact mild_frameOf _
    | exact mild_entryPlaceOf _ _
    | exact mild_newTraceback _
    | (refine .bind ?_ fun _ => ?_)
    | split
theorem mild_leaving (env : Env) (e : Value) : Mild (leaving env e) := .bind (mild_noteFrame _ _) fun _ => mild_setFlight _ _
end
section -- E2
/-- what flies: an exception of the class C whose own dict says "kind" is SyntaxError -/
def RJ (C : Addr) (base g : Heap) (l : List Env) (e : Addr) (h : Heap) : Prop :=
  ∃ t vs dx es n tk, RaisedS base g l e (.ref C) t vs [(dx, dictOf es n)] h ∧ g.UpToSlots h ∧ getL "kind" es = some (some (.str "SyntaxError" tk)) ∧ ∃ oe, h.get? e = some oe ∧ oe.dict = some dx

section
variable {M : Model} {A : Around} {E : Value → Shared → Prop} {s' : Shared} {base g g₂ h : Heap} {outer : List Env} {L a e t dx C : Addr} {m : Str → Option Value} {name : Str} {scope : Scope} {cd : Value} {Q : Unit → Shared → Prop}

theorem leave_firstJ {es : List DictEntry} {n nt : Nat} {tk : Tok} {oe ot : Obj} {vs : List Value} (K : Below A base outer g) (F : Fr g L s'.heap m) (N : News g L s'.heap [(dx, dictOf es n), (e, oe), (t, ot)])
    (hc : oe.cls = .ref C) (hd : oe.data = .fields #[.ref t, .none, .none, .none, .bool false, .none]) (hdx : oe.dict = some dx) (htc : ot.cls = .type "tuple") (htd : ot.data = .seq vs.toArray nt) (hes : getL "kind" es = some (some (.str "SyntaxError" tk)))
    (hQ : ∀ h', RJ C base g outer e h' → Q () { s' with heap := h' }) (hk : scope.kind = .function := by rfl) :
    wpAny M (A.deeper (envOf name scope L a cd)) (leaving (envOf name scope L a cd) (.ref e)) Q E s' := by
  have K' := K.push (name := name) (a := a) (cd := cd) F hk
  obtain ⟨he, heL, heg⟩ := N (e, oe) (by simp)
  obtain ⟨ht, htL, htg⟩ := N (t, ot) (by simp)
  obtain ⟨hx, hxL, hxg⟩ := N (dx, dictOf es n) (by simp)
  dsimp only at he heL heg ht htL htg hx hxL hxg
  have hne : dx ≠ e := fun z => by rw [z, he] at hx; have := Option.some.inj hx; rw [this] at hd; cases hd
  have hnt : dx ≠ t := fun z => by rw [z, ht] at hx; have := Option.some.inj hx; rw [this] at htd; cases htd
  have base_none : ∀ b, g.get? b = none → base.get? b = none := fun b q => fresh_of_stays K.stays q
  -- the ground under the flight: all that stood before it, less the frames and the exception itself
  let fs := (envOf name scope L a cd :: outer).filterMap (·.frame)
  have frames_mem : ∀ b ∈ fs, base.get? b = none := fun b hb => (K'.frames.mem hb).1
  let B := hideAll s'.heap (e :: t :: fs)
  have notIn : ∀ {b : Addr} {o : Obj}, s'.heap.get? b = some o → b ≠ e → b ≠ t → b ∉ fs → B.get? b = some o := fun q z1 z2 z3 => hideAll_get _ q (by
    intro hm
    rcases List.mem_cons.mp hm with z | hm
    · exact z1 z
    · rcases List.mem_cons.mp hm with z | hm
      · exact z2 z
      · exact z3 hm)
  have hB : base.StaysIn B := fun b o q => notIn (K'.stays b o q) (fun z => by rw [z, base_none e heg] at q; cases q) (fun z => by rw [z, base_none t htg] at q; cases q) (fun hm => by rw [frames_mem b hm] at q; cases q)
  have hG : ∀ b o, g.get? b = some o → b ∉ outer.filterMap (·.frame) → B.get? b = some o := fun b o q nm => notIn (F.keep b o q) (fun z => by rw [z, heg] at q; cases q) (fun z => by rw [z, htg] at q; cases q) (fun hm => by
    rcases kts_mem hm with z | z
    · rw [z, kts_self F] at q; cases q
    · exact nm z)
  have dxfs : dx ∉ fs := fun hm => by
    rcases kts_mem hm with z | z
    · exact hxL z
    · obtain ⟨o, ho, _⟩ := (K.frames.mem z).2
      rw [hxg] at ho; cases ho
  have hdB : B.get? dx = some (dictOf es n) := notIn hx hne hnt dxfs
  have heB : B.get? e = none := hideAll_none _ (by simp)
  have htB : B.get? t = none := hideAll_none _ (by simp)
  have hfr : s'.heap.FunFrames B (envOf name scope L a cd :: outer) := by
    have hh := funFrames_hide (as := e :: t :: fs) K'.frames fun env he' b hb => by
      refine List.mem_cons_of_mem _ (List.mem_cons_of_mem _ ?_)
      exact List.mem_filterMap.mpr ⟨env, he', hb⟩
    exact hh
  have main := wpAny_leaving_firstW (E := E) (a0 := .ref t) (env := envOf name scope L a cd) (outer := outer) (M := M) (A := A.deeper (envOf name scope L a cd)) (base := B) (s := s') (e := e) (oe := oe)
    (Q := fun _ s'' => ∃ h', s'' = { s' with heap := h' } ∧ Heap.LeftW B (envOf name scope L a cd :: outer) e oe.cls (.ref t) s'.heap h') K'.stack hfr rfl he (fun b o q => of_hideAll _ q) heB hd rfl rfl fun h' hL => ⟨h', rfl, hL⟩
  refine wpAny_mono ((mild_leaving _ _).any main) (fun u s'' hq => ?_) (fun _ _ x => x.1)
  obtain ⟨⟨h', rfl, hL⟩, D⟩ := hq
  obtain ⟨k1, ⟨_, _, k2⟩, k3, k4⟩ := hL
  obtain ⟨oe', he', hde⟩ := D e oe he
  refine hQ h' ⟨t, vs, dx, es, n, tk, ⟨⟨B, hB, hG, fun q hq => ?_, ⟨k1, heB, k2, by rw [← hc]; exact k3⟩, htB⟩, Heap.TupAt.of_slots ⟨ot, nt, ht, htc, htd⟩ k4⟩, (Heap.UpToSlots.of_keeps F.keep).trans k4, hes, oe', he', hde.trans hdx⟩
  obtain rfl := List.mem_singleton.mp hq
  exact ⟨hdB, hxg, base_none _ hxg⟩

theorem leave_onJ (K : Below A base outer g) (F : Fr g L g₂ m) (R : RJ C base g₂ (envOf name scope L a cd :: outer) e s'.heap)
    (hQ : ∀ h', RJ C base g outer e h' → Q () { s' with heap := h' }) :
    wpAny M (A.deeper (envOf name scope L a cd)) (leaving (envOf name scope L a cd) (.ref e)) Q E s' := by
  obtain ⟨t, vs, dx, es, n, tk, R, hsm, hes, oe, he, hdx⟩ := R
  have main := leave_onS (E := E) (M := M) (A := A) (Q := fun _ s'' => ∃ h', s'' = { s' with heap := h' } ∧ RaisedS base g outer e (.ref C) t vs [(dx, dictOf es n)] h' ∧ g.UpToSlots h') (s' := s') (name := name) (scope := scope) (a := a) (cd := cd) K F R hsm
    fun h' x1 _ x3 => ⟨h', rfl, x1, x3⟩
  refine wpAny_mono ((mild_leaving _ _).any main) (fun u s'' hq => ?_) (fun _ _ x => x.1)
  obtain ⟨⟨h', rfl, x1, x3⟩, D⟩ := hq
  obtain ⟨oe', he', hde⟩ := D e oe he
  exact hQ h' ⟨t, vs, dx, es, n, tk, x1, x3, hes, oe', he', hde.trans hdx⟩
theorem leave_onJ' (R : RJ C base g₂ (envOf name scope L a cd :: outer) e s'.heap) (K : Below A base outer g) (F : Fr g L g₂ m)
    (hQ : ∀ h', RJ C base g outer e h' → Q () { s' with heap := h' }) :
    wpAny M (A.deeper (envOf name scope L a cd)) (leaving (envOf name scope L a cd) (.ref e)) Q E s' := leave_onJ K F R hQ
end
end
section -- E3
section
variable {prog : Program} {w : World} {A₀ : Around} {E : Value → Shared → Prop} {s' : Shared} {base g g₀ G : Heap} {outer : List Env} {L a e C : Addr} {m : Str → Option Value} {name : Str} {scope : Scope} {cd : Value}
  {n : Str} {b₀ : Stmt} {suite : List Stmt} {pos np : Pos} {rest : List ExceptHandler} {Q : Flow → Shared → Prop} {KF : Frag}
  {p : Program} {loose : List Str} {mean : ExcName → Option Value} {mg mb : Str → Option Value} {x : Str}

theorem caught_J (R : RJ C base G (envOf name scope L a cd :: outer) e s'.heap) (F : Fr g L G m) (K : Below A₀ base outer g) (XB : KF.In base) (TB : Top p loose mean mg mb base)
    (T0 : KtsTurn (outer.filterMap (·.frame)) g₀ g)
    (ex : nsIn KF mainGlobals x = some (some (.ref C))) (q : ktsIn KF C "BaseException" = true)
    (k : ∀ h' g' oe ws dx es j tk tk', KtsTurn (outer.filterMap (·.frame)) g₀ g' → Fr g' L h' (fun y => if y = n then some (.ref e) else m y) → News g' L h' [(e, oe), (dx, dictOf es j)] →
      oe.cls = .ref C → oe.data = .fields ws → oe.dict = some dx → getL "kind" es = some (some (.str "SyntaxError" tk)) → Below A₀ base outer g' → KF.In g' → Top p loose mean mg mb g' →
      wpAny (model prog w) ((A₀.deeper (envOf name scope L a cd)).mark (some (.ref e))) (execs (b₀ :: suite) (envOf name scope L a cd))
        (fun f s₄ => wpAny (model prog w) (A₀.deeper (envOf name scope L a cd)) (do bindName (envOf name scope L a cd) n .none; unbindBehindTheSuite (envOf name scope L a cd) n pos) (fun _ s₅ => Q f s₅) E s₄)
        (AsSuiteRaised (model prog w) ((A₀.deeper (envOf name scope L a cd)).mark (some (.ref e))) (envOf name scope L a cd) n pos (notedBy (model prog w) ((A₀.deeper (envOf name scope L a cd)).mark (some (.ref e))) (envOf name scope L a cd) (cameBackBy (model prog w) (A₀.deeper (envOf name scope L a cd)) (envOf name scope L a cd) E)))
        { s' with heap := h', toks := tk' })
    (hk : scope.kind = .function := by rfl) (hlo : (envOf name scope L a cd).kindOf n = some .local := by rfl) (hx : (envOf name scope L a cd).kindOf x = some .globalImplicit := by rfl) (hd : (x == ("__debug__" : Str)) = false := by decide) :
    wpAny (model prog w) (A₀.deeper (envOf name scope L a cd)) (noteFrame (.ref e) (envOf name scope L a cd))
      (fun _ s₂ => wpAny (model prog w) (A₀.deeper (envOf name scope L a cd)) (setFlight (.ref e) none) (fun _ s₃ =>
        wpAny (model prog w) (A₀.deeper (envOf name scope L a cd)) (handleBy (.ref e) (envOf name scope L a cd) (.ExceptHandler (some (.Name x np)) (some n) (b₀ :: suite) pos :: rest)) Q E s₃) E s₂) E s' := by
  obtain ⟨t, vs, dx, es, j, tk, ⟨⟨B, hB, hBG, hl, hfl, hnew⟩, htup⟩, hsm, hes, oe₀, he₀, hdx⟩ := R
  have hL : B.get? L = none := by
    obtain ⟨_, ⟨L', _, hf, hn', _⟩, _⟩ := hfl.2.2.1
    obtain rfl : L = L' := Option.some.inj hf
    exact hn'
  -- the three marks that are laid on the exception, each leaving its dict where it is
  have step1 := (mild_noteFrame (.ref e) (envOf name scope L a cd)).any (wpAny_looks_onW (M := model prog w) (E := E) (Q := fun _ s'' => ∃ h', s'' = { s' with heap := h' } ∧ Heap.HeldW B (envOf name scope L a cd :: outer) e (.ref C) (.ref t) L h' ∧ s'.heap.UpToSlots h')
    (Around.frames_deeper K.stack) rfl hfl fun h' x y => ⟨h', rfl, x, y⟩)
  refine wpAny_mono step1 (fun _ s₂ hq => ?_) (fun _ _ x => x.1)
  obtain ⟨⟨h₄, rfl, hheld₄, hsm₄⟩, D₄⟩ := hq
  have step2 := (mild_setFlight (.ref e) none).any (wpAny_landsW (M := model prog w) (A := A₀.deeper (envOf name scope L a cd)) (E := E) (s := { s' with heap := h₄ }) (Q := fun _ s'' => ∃ h', s'' = { s' with heap := h' } ∧ Heap.FlyingW B (envOf name scope L a cd :: outer) e (.ref C) (.ref t) h' ∧ h₄.UpToSlots h')
    hheld₄ fun h' x y => ⟨h', rfl, x, y⟩)
  refine wpAny_mono step2 (fun _ s₃ hq => ?_) (fun _ _ x => x.1)
  obtain ⟨⟨h₅, rfl, hheld, hsm₅'⟩, D₅⟩ := hq
  have hsm₅ := hsm₄.trans hsm₅'
  obtain ⟨g₅, T₅, F₅, K₅⟩ := kts_ground K F hBG hheld.1 (hsm.trans hsm₅)
  have X₅ : KF.In g₅ := XB.keeps K₅.stays
  have P₅ : TopRead p loose mg mb g₅ := topRead_of (TB.keeps K₅.stays)
  obtain ⟨ob, hob, hobc⟩ := hheld.there
  obtain ⟨nm, q', N, bs, bm, hdct, sn, sub, ab, col, dd, k0, k1, k2, k3, k5, newId, hC, hbase, hbT⟩ := kts_cls X₅ q
  have hC₅ := F₅.keep _ _ hC
  refine wpAny_handleBy_cons (codeAny_handlers_test (name_K F₅ X₅ P₅ ex ?_ hk hx hd)) (by intro q; cases q)
  refine wpAny_excMatches_sub_self hC₅ hob hobc hbase (codeAny_handlers_suite_as ?_)
  have step3 := fun (Q' : Unit → Shared → Prop) (E' : Value → Shared → Prop) (A' : Around) (hQ' : ∀ h', Heap.FlyingW B (envOf name scope L a cd :: outer) e (.ref C) (.ref t) h' → h₅.UpToSlots h' → Dk { s' with heap := h₅ } { s' with heap := h' } → Q' () { s' with heap := h' }) =>
    wpAny_mono (M := model prog w) (A := A') (E' := E') ((mild_setFlight (.ref e) none).any (lands_againW (M := model prog w) (A := A') (E := E') (s := { s' with heap := h₅ }) (Q := fun _ s'' => ∃ h', s'' = { s' with heap := h' } ∧ Heap.FlyingW B (envOf name scope L a cd :: outer) e (.ref C) (.ref t) h' ∧ h₅.UpToSlots h') hheld fun h' x y => ⟨h', rfl, x, y⟩))
      (fun u s'' hq => show Q' u s'' from by obtain ⟨⟨h', rfl, x, y⟩, D⟩ := hq; exact hQ' h' x y D) (fun _ _ x => x.1)
  refine step3 _ _ _ fun h₆ hfl₆ hsm₆ D₆ => ?_
  obtain ⟨g₆, T₆, F₆, K₆⟩ := kts_ground K F hBG hfl₆.1 ((hsm.trans hsm₅).trans hsm₆)
  obtain ⟨oe, ws, hoe, hoec, hoed, hoe0⟩ := hfl₆.first
  have hdx₆ : oe.dict = some dx := by
    obtain ⟨o', e1, e2⟩ := (D₄.trans (D₅.trans D₆)) e oe₀ he₀
    have e1' : h₆.get? e = some o' := e1
    rw [hoe] at e1'
    rw [Option.some.inj e1', e2, hdx]
  have ne₆ : g₆.get? e = none := T₆.none_ _ (kts_fresh F hBG hfl₆.2.1 fun o ho m => by
    obtain ⟨_, o', ho', hd⟩ := K.frames.mem m
    rw [ho] at ho'
    cases ho'
    obtain ⟨sl, hs⟩ := ((hsm.trans hsm₅).trans hsm₆) _ _ (F.keep _ _ ho) hd
    rw [hoe] at hs
    cases hs
    exact hd _ hoed)
  have Nl : News g₆ L h₆ [(dx, dictOf es j)] := fun q hq => ⟨hfl₆.1 _ _ (hl q hq).1, (fun z => by have := (hl q hq).1; rw [z, hL] at this; cases this), T₆.none_ _ (kts_none F.keep (hl q hq).2.1)⟩
  have N₆ := News.more F₆ Nl hoe (fun es n q => by rw [hoed] at q; cases q) ne₆
  have X₆ : KF.In g₆ := XB.keeps K₆.stays
  have P₆ : Top p loose mean mg mb g₆ := TB.keeps K₆.stays
  exact stN F₆ N₆ (fun h₇ F₇ N₇ => k h₇ g₆ oe ws dx es j tk _ (T0.trans T₆) F₇ N₇ hoec hoed hdx₆ hes K₆ X₆ P₆) hk hlo
end
end
section -- E4
open PySem PySem.W PyProof.Rows PySem.Calls PySem.Builtin PySem.Builtin.ObjectAttr
theorem refuse_exc (self : Value) (C : Addr) : refuseLoop self "__setattr__" [.ref C, .type "Exception", .type "BaseException", .type "object"] = pure () := by
  rw [refuseLoop_ref]
  kernel_rfl

/-- an own class right under Exception, with a dict for its instances -/
def excPlain (K : Frag) (C : Addr) : Bool := (clsIn K C).any fun cd => cd.mro == [.ref C, .type "Exception", .type "BaseException", .type "object"] && cd.hasDict
theorem excPlain_of {K : Frag} {C : Addr} (h : excPlain K C = true) : ∃ cd, clsIn K C = some cd ∧ cd.mro = [.ref C, .type "Exception", .type "BaseException", .type "object"] ∧ cd.hasDict = true := by
  obtain ⟨cd, hc, q⟩ := any_some h
  rw [Bool.and_eq_true] at q
  exact ⟨cd, hc, beq_iff_eq.mp q.1, q.2⟩

section
variable {prog : Program} {w : World} {A : Around} {E : Value → Shared → Prop} {R : Result → Shared → Prop} {s : Shared} {K : Frag} {x C L : Addr} {h₀ : Heap} {m : Str → Option Value}

theorem osa_exc {ox : Obj} {od : Option Obj} {name : Str} {tk : Tok} {v : Value} (X : K.In s.heap) (I : InstAt s.heap x ox C od) (hp : excPlain K C = true) (ht : takerIn K C name = some none)
    (h : ∀ b, wpAny (model prog w) A.in1 (storeInOwnDict (.ref x) (.ref C) (.str name tk) name v b)
      (fun fin s' => match fin with | .done f => R (.ok f) s' | .again c' => c'.quiet = true ∧ codeAny (model prog w) A c' R s') (fun e s' => R (.error e) s') s) :
    codeAny (model prog w) A (.call (.builtin "object.__setattr__") ⟨[.ref x, .str name tk, v], []⟩) R s := by
  have SF := PySem.F.store_object
  obtain ⟨cd, hc, hmro, _⟩ := excPlain_of hp
  have sub : Looks (model prog w) s.heap (isInstance (.ref x) (.type "object")) true := I.type.andThen (looks_mroIn X (by unfold mroIn; rw [hc, Option.bind_some, hmro]; rfl))
  refine codeAny_call_builtin SF.slot.plain SF.entry (@check_slot (model prog w) _ _ s "object.__setattr__" "object" "__setattr__" (.ref x) [.str name tk, v] [] _ SF.kind SF.split sub (SF.args (.ref x) (.str name tk) v) ?_)
  obtain ⟨attr, ha, hr⟩ := Option.bind_eq_some_iff.mp ht
  have hm : Looks (model prog w) s.heap (mroOf (.ref C)) cd.mro := (looks_clsIn X hc).andThen .now
  have L3 : Looks (model prog w) s.heap (storeTaker? attr) none := by
    cases attr with
    | none => exact .now
    | some a =>
      obtain ⟨b, hb, hbr⟩ := Option.map_eq_some_iff.mp hr
      refine (looks_takesIn X hb).andThen ?_
      cases b with
      | false => exact .now
      | true => cases hbr
  rw [osa_eq, refuse_eq]
  refine wpAny_bind (wpAny_bind (I.type.here (wpAny_bind (hm.here ?_))))
  rw [hmro, refuse_exc]
  exact wpAny_pure (wpAny_bind (I.type.here (wpAny_bind ((looks_findIn X ha).here (wpAny_bind (L3.here (h _)))))))

/-- into a dict that stands on the ledger -/
theorem store_in {d : Addr} {name : Str} {tk : Tok} {v : Value} {es : List DictEntry} {n : Nat} {rest : List (Addr × Obj)} {Q : Fin → Shared → Prop} (F : Fr h₀ L s.heap m) (N : News h₀ L s.heap ((d, dictOf es n) :: rest)) (hd : ∀ p ∈ rest, p.1 ≠ d)
    (hl : (getL name es).isSome = true) (hz : es.length ≤ 100)
    (h : ∀ h', Fr h₀ L h' m → News h₀ L h' ((d, dictOf (putL name (PyData.keyHash w.params name) (.str name s.toks) v es) (putN name es n)) :: rest) → Q (.done (.ret .none)) { s with heap := h', toks := s.toks + 1 }) :
    wpAny (model prog w) A (storeInDict d (.str name tk) name v) Q E s := by
  have D := (N (d, dictOf es n) (.head _)).1
  obtain ⟨U1, U2⟩ := news_upd (pre := []) (o' := dictOf (putL name (PyData.keyHash w.params name) (.str name s.toks) v es) (putN name es n)) (f := Obj.putName name (PyData.keyHash w.params name) (.str name s.toks) v) F N (fun p hp => nomatch hp) hd (putName_dict ..) rfl
  have D' := (U2 (d, dictOf (putL name (PyData.keyHash w.params name) (.str name s.toks) v es) (putN name es n)) (.head _)).1
  have hlen : ∀ l : List DictEntry, (putL name (PyData.keyHash w.params name) (.str name s.toks) v l).length ≤ l.length + 1 := by
    intro l
    induction l with
    | nil => simp [putL]
    | cons e r ih => unfold putL; split <;> simp <;> omega
  unfold storeInDict newKeyGuard nsSet
  refine wpAny_bind (wpAny_pure (wpAny_bind (wpAny_bind (wpAny_bind (wpAny_askSetting (wpAny_pure (wpAny_bind (wpAny_mkText (wpAny_bind (wpAny_loadPart D ?_))))))))))
  dsimp only
  have c : (!es.toArray.any (·.key.isStr name) && es.toArray.any (·.refKey)) = false := by
    rw [← Array.any_toList, ← Array.any_toList]
    unfold getL at hl
    dsimp only
    split at hl
    · rename_i en he
      rw [List.any_eq_true.mpr ⟨en, List.mem_of_find?_eq_some he, List.find?_some he⟩]; rfl
    · split at hl
      · cases hl
      · rename_i z; rw [Bool.not_eq_true] at z; rw [z, Bool.and_false]
  rw [aRefKeyMayBeTheName_at, c]
  refine wpAny_updatePart D ?_
  refine wpAny_bind (wpAny_lookBehind D' (pastItsLine_dict (by rw [List.size_toArray, sizeLine_eq]; have := hlen es; omega)) ?_)
  exact wpAny_pure (h _ U1 U2)

/-- the first attribute of an exception: its dict is made -/
theorem set_exc0 {ox : Obj} {name : Str} {v : Value} {t : Addr} {ot : Obj} {Q : Unit → Shared → Prop} (F : Fr h₀ L s.heap m) (X₀ : K.In h₀) (N : News h₀ L s.heap [(x, ox), (t, ot)]) (htx : t ≠ x) (hc : ox.cls = .ref C) (hn : notCls ox = true) (hd : ox.dict = none)
    (hs : findIn K (.ref C) "__setattr__" = some (some (.builtin "object.__setattr__"))) (hp : excPlain K C = true) (ht : takerIn K C name = some none)
    (h : ∀ d h', Fr h₀ L h' m → News h₀ L h' [(d, dictOf [⟨PyData.keyHash w.params name, .str name (s.toks + 1), v⟩] 1), (x, { ox with dict := some d }), (t, ot)] → x ≠ d → t ≠ d → Q () { s with heap := h', toks := s.toks + 2 }) :
    wpAny (model prog w) A (setAttr (.ref x) name v) Q E s := by
  have X := X₀.keeps F.keep
  have hx := (N (x, ox) (.head _)).1
  have I : InstAt s.heap x ox C none := ⟨hx, hc, hn, by rw [hd]; trivial⟩
  obtain ⟨cd, hcd, _, hdict⟩ := excPlain_of hp
  refine set_plain X I hs (osa_exc (s := { s with toks := s.toks + 1 }) X I hp ht fun b => ?_)
  obtain ⟨oc, odi, oda, osl⟩ := ox
  dsimp only at hc hd
  subst hc hd
  unfold storeInOwnDict ownDictForStores instanceDict
  refine wpAny_bind (wpAny_pure (wpAny_bind (wpAny_bind (wpAny_loadPart hx (wpAny_bind (Looks.here (s := { s with toks := s.toks + 1 }) (looks_clsIn X hcd) ?_))))))
  rw [hdict]
  dsimp only
  have hf : ∀ sl, (⟨.ref C, sl, oda, osl⟩ : Obj).isFreed = false := fun sl => by cases oda <;> first | rfl | exact (Heap.get?_some_iff.mp hx).2
  have F1 := F.push (dictOf [] 0)
  have N1 := N.push F (dictOf [] 0)
  have hxd : x ≠ s.heap.objs.size := Nat.ne_of_lt (Heap.lt_size hx)
  have htd : t ≠ s.heap.objs.size := Nat.ne_of_lt (Heap.lt_size (N (t, ot) (by simp)).1)
  obtain ⟨F2, N2⟩ := news_upd (pre := [(s.heap.objs.size, dictOf [] 0)]) (d := x) (o := ⟨.ref C, none, oda, osl⟩) (o' := ⟨.ref C, some s.heap.objs.size, oda, osl⟩) (post := [(t, ot)]) (f := fun o => { o with dict := some s.heap.objs.size }) F1 N1
    (fun p hp => by obtain rfl := List.mem_singleton.mp hp; exact fun z => hxd z.symm) (fun p hp => by obtain rfl := List.mem_singleton.mp hp; exact htx) rfl (hf _)
  have far : ∀ p ∈ [(x, (⟨.ref C, some s.heap.objs.size, oda, osl⟩ : Obj)), (t, ot)], p.1 ≠ s.heap.objs.size := fun p hp => by
    rcases List.mem_cons.mp hp with rfl | hp
    · exact hxd
    · obtain rfl := List.mem_singleton.mp hp; exact htd
  cases oda with
  | cls c => cases hn
  | _ =>
    refine wpAny_bind (wpAny_alloc' (wpAny_bind (wpAny_update' (Heap.get?_push_of_some _ hx) (wpAny_pure ?_))))
    exact store_in (s := { s with heap := (s.heap.push (dictOf [] 0)).update x fun o => { o with dict := some s.heap.objs.size }, toks := s.toks + 1 }) (es := []) (n := 0) F2 N2 far rfl (by decide) fun h' F' N' => h _ h' F' N' hxd htd

/-- a later attribute -/
theorem set_exc1 {ox : Obj} {name : Str} {v : Value} {d : Addr} {es : List DictEntry} {n : Nat} {rest : List (Addr × Obj)} {Q : Unit → Shared → Prop} (F : Fr h₀ L s.heap m) (X₀ : K.In h₀) (N : News h₀ L s.heap ((d, dictOf es n) :: (x, ox) :: rest)) (hr : ∀ p ∈ (x, ox) :: rest, p.1 ≠ d)
    (hc : ox.cls = .ref C) (hn : notCls ox = true) (hd : ox.dict = some d)
    (hs : findIn K (.ref C) "__setattr__" = some (some (.builtin "object.__setattr__"))) (hp : excPlain K C = true) (ht : takerIn K C name = some none) (hl : (getL name es).isSome = true) (hz : es.length ≤ 100)
    (h : ∀ h', Fr h₀ L h' m → News h₀ L h' ((d, dictOf (putL name (PyData.keyHash w.params name) (.str name (s.toks + 1)) v es) (putN name es n)) :: (x, ox) :: rest) → Q () { s with heap := h', toks := s.toks + 2 }) :
    wpAny (model prog w) A (setAttr (.ref x) name v) Q E s := by
  have X := X₀.keeps F.keep
  have hx := (N (x, ox) (.tail _ (.head _))).1
  have hdd := (N (d, dictOf es n) (.head _)).1
  have I : InstAt s.heap x ox C (some (dictOf es n)) := ⟨hx, hc, hn, by rw [hd]; exact hdd⟩
  obtain ⟨cd, hcd, _, hdict⟩ := excPlain_of hp
  refine set_plain X I hs (osa_exc (s := { s with toks := s.toks + 1 }) X I hp ht fun b => ?_)
  obtain ⟨oc, odi, oda, osl⟩ := ox
  dsimp only at hc hd
  subst hc hd
  unfold storeInOwnDict ownDictForStores instanceDict
  refine wpAny_bind (wpAny_pure (wpAny_bind (wpAny_bind (wpAny_loadPart hx (wpAny_bind (Looks.here (s := { s with toks := s.toks + 1 }) (looks_clsIn X hcd) ?_))))))
  rw [hdict]
  dsimp only
  refine wpAny_pure ?_
  exact store_in (s := { s with toks := s.toks + 1 }) F N hr hl hz fun h' F' N' => h h' F' N'
end
end
section -- E5
open PySem PySem.W PyProof.Rows PySem.Calls PySem.Builtin PySem.Builtin.ObjectAttr
section
variable {prog : Program} {w : World} {A : Around} {E : Value → Shared → Prop} {R : Result → Shared → Prop} {s : Shared} {K : Frag} {x C L : Addr} {h₀ : Heap} {m : Str → Option Value}

theorem ga_kind : builtinKind "BaseException.__getattribute__" = some .slot := by decide +kernel
theorem ga_split : splitId "BaseException.__getattribute__" = some ("BaseException", "__getattribute__") := by decide +kernel

theorem get_exc {ox : Obj} {od : Obj} {name : Str} {expr : Bool} {v : Value} {Q : Value → Shared → Prop} (X : K.In s.heap) (I : InstAt s.heap x ox C (some od)) (hp : excPlain K C = true)
    (hga : findIn K (.ref C) "__getattribute__" = some (some (.builtin "BaseException.__getattribute__"))) (hnh : findIn K (.ref C) "__getattr__" = some none)
    (hf : findObj K C (some od) name = some (.value v)) (hh : handedIn v = true) (h : Q v { s with toks := s.toks + 1 }) : wpAny (model prog w) A (getAttr (.ref x) name expr) Q E s := by
  obtain ⟨cd, hc, hmro, _⟩ := excPlain_of hp
  have FX := PySem.F.attr_Exception
  have hx0 : (expr && onTheHeap (Value.builtin "BaseException.__getattribute__")) = false := by cases expr <;> rfl
  have hx2 : (onTheHeap (Value.ref C) && Value.builtin "BaseException.__getattribute__" == Value.builtin "object.__getattribute__") = false := by
    rw [show (Value.builtin "BaseException.__getattribute__" == Value.builtin "object.__getattribute__") = false from by decide +kernel, Bool.and_false]
  have L1 := looks_findIn (M := model prog w) X hga
  have L2 := looks_findIn (M := model prog w) X hnh
  have L3 := looks_find (M := model prog w) X I hf
  have sub : Looks (model prog w) s.heap (isInstance (.ref x) (.type "BaseException")) true := I.type.andThen (looks_mroIn X (by unfold mroIn; rw [hc, Option.bind_some, hmro]; rfl))
  unfold getAttr getAttrBy
  refine wpAny_bind (wpAny_mkText (wpAny_holding (wpAny_bind (Looks.here (s := { s with toks := s.toks + 1 }) I.type (wpAny_bind (Looks.here (s := { s with toks := s.toks + 1 }) L1 ?_))))))
  dsimp only
  rw [hx2]
  simp only [Bool.false_eq_true, if_false]
  unfold getAttrByItsOwn
  refine wpAny_bind ?_
  unfold hookBefore
  rw [if_pos (show onTheHeap (Value.ref C) = true from rfl)]
  refine Looks.here (s := { s with toks := s.toks + 1 }) L2 ?_
  refine wpAny_bind (wpAny_attempt (wpAny_holding ?_))
  unfold callGetattribute
  rw [hx0]
  simp only [Bool.false_eq_true, if_false]
  unfold boundAndCalled
  rw [FX.ga.bind (.ref x)]
  refine wpAny_bind (wpAny_pure ?_)
  refine wpAny_call ?_
  refine codeAny_call_builtin FX.ga.plain PySem.F.entry_bexc_ga (@check_slot (model prog w) _ _ { s with toks := s.toks + 1 } "BaseException.__getattribute__" "BaseException" "__getattribute__" (.ref x) [.str name s.toks] [] _ ga_kind ga_split sub (PySem.F.args_bexc_ga (.ref x) (.str name s.toks)) ?_)
  refine wpAny_bind (wpAny_pure (wpAny_bind (wpAny_pure (wpAny_bind (Looks.here (s := { s with toks := s.toks + 1 }) I.type (wpAny_bind (Looks.here (s := { s with toks := s.toks + 1 }) L3 ?_)))))))
  refine wpAny_pure ?_
  show wpAny _ _ (handedOut v) _ _ _
  rw [handedOut_of hh]
  exact wpAny_pure h
end
end
theorem anew_E6 : True := by
  w_top off
  k_with_none
  trivial
section -- E6
open PySem PySem.W PyProof.Rows PySem.Calls PySem.Builtin PySem.Builtin.ObjectAttr
theorem kfill (w : World) (h : Heap) : (kfr w.params).In h → PySem.Challenge.rw_sz0076_01 = PySem.Challenge.rw_sz0076_01 → True := by
  k_fill
  intros
  trivial

section
variable (P : Params)
theorem f_plain : excPlain (kfr P) 122 = true := by kernel_rfl
theorem f_kts : ktsIn (kfr P) 122 "BaseException" = true := by kernel_rfl
theorem f_sa : findIn (kfr P) (.ref 122) "__setattr__" = some (some (.builtin "object.__setattr__")) := by kernel_rfl
theorem f_ga : findIn (kfr P) (.ref 122) "__getattribute__" = some (some (.builtin "BaseException.__getattribute__")) := by kernel_rfl
theorem f_gh : findIn (kfr P) (.ref 122) "__getattr__" = some none := by kernel_rfl
theorem f_tk : takerIn (kfr P) 122 "kind" = some none := by kernel_rfl
theorem f_tt : takerIn (kfr P) 122 "text" = some none := by kernel_rfl
theorem f_ok : nsOkIn (kfr P) 121 = true := by kernel_rfl
theorem f_init : nsIn (kfr P) 121 "__init__" = some (some (.ref 119)) := by kernel_rfl
theorem f_cls : ∃ nm q bs sn sub ab col dd k0 k1 k2 k3 k5, (kfr P).lookup 122 = some (excClassObj nm q 122 121 bs [.type "Exception", .type "BaseException", .type "object"] true sn sub ab col dd k0 k1 k2 k3 k5 "Exception.__new__") := ⟨_, _, _, _, _, _, _, _, _, _, _, _, _, rfl⟩
theorem f_initc : typeIn (kfr P) (.ref 119) = some (.type "function") := by kernel_rfl
end

theorem nsMap_of {K : Frag} {h : Heap} {N : Addr} {n : Str} {v : Value} (X : K.In h) (ok : nsOkIn K N = true) (e : nsIn K N n = some (some v)) : h.nsMap N n = some v := by
  have G : h.Ns N (h.nsMap N) := .of_isNs (isNs_of_in X ok)
  obtain ⟨o, es, ep, ho, hd, _, hf⟩ := G
  unfold nsIn at e
  split at e
  · rename_i c d es' n' sl q
    have := X _ _ q
    rw [ho] at this
    cases this
    cases hd
    split at e
    · rename_i en he
      cases e
      rw [← hf]
      unfold nsFind findBy
      rw [← Array.find?_toList, he]
      rfl
    · split at e <;> cases e
  · cases e

theorem typeIn_obj {K : Frag} {h : Heap} (X : K.In h) {a : Addr} (e : typeIn K (.ref a) = some (.type "function")) : ∃ o, h.get? a = some o ∧ o.cls = .type "function" := by
  unfold typeIn at e
  split at e
  · rename_i b hb
    cases hb
    obtain ⟨o, ho, q⟩ := Option.map_eq_some_iff.mp e
    exact ⟨o, X _ _ ho, q⟩
  all_goals first | cases e; done | (rename_i hb; cases hb; done) | exact (‹∀ b : Addr, Value.ref a = Value.ref b → False› a rfl).elim

theorem far2 {x t d : Addr} {ox ot : Obj} (h1 : x ≠ d) (h2 : t ≠ d) : ∀ p ∈ [(x, ox), (t, ot)], p.1 ≠ d := fun p hp => by
  rcases List.mem_cons.mp hp with rfl | hp
  · exact h1
  · obtain rfl := List.mem_singleton.mp hp
    exact h2
end
section
local macro_rules | `(tactic| walk_at $s:str) => `(tactic| k_extra $s)
section -- E6
open PySem PySem.W PyProof.Rows PySem.Calls PySem.Builtin PySem.Builtin.ObjectAttr
theorem rows_E6_1 : True := by
  k_with_none
  k_with "setAttr ref" => first | (refine set_exc0 (K := kfr _) (by k_asm) (by k_asm) (by k_asm) (by assumption) (by exact rfl) (by exact rfl) (by exact rfl) (f_sa _) (f_plain _) (f_tk _) ?_; k_whole; intro d' h' F' N' l1 l2) | (refine set_exc1 (K := kfr _) (by k_asm) (by k_asm) (by k_asm) (by exact far2 (by assumption) (by assumption)) (by exact rfl) (by exact rfl) (by exact rfl) (f_sa _) (f_plain _) (f_tt _) (by exact rfl) (by exact Nat.le_of_ble_eq_true rfl) ?_; k_whole; intro h' F' N')
  trivial

/-- JSFail("SyntaxError", text) makes an exception with its two attributes -/
theorem jsfail_call {w : World} {A A₀ : Around} {E : Value → Shared → Prop} {s : Shared} {base h₀ : Heap} {outer : List Env} {L a : Addr} {m : Str → Option Value} {cn : Str} {cs : Scope} {ccd : Value}
    {p : Program} {loose : List Str} {mean : ExcName → Option Value} {mg mb : Str → Option Value} {k1 k2 : Str} {t1 t2 : Tok} {Q : Value → Shared → Prop}
    (B : Below A₀ base outer h₀) (F : Fr h₀ L s.heap m) (X₀ : (kfr w.params).In h₀) (T : Top p loose mean mg mb h₀) (hA : A.frames = some (envOf cn cs L a ccd :: outer)) (hck : cs.kind = .function) (hroom : A.depth + 3 < recursionLimit)
    (h : ∀ e t dx h' tk' es j tk oe ot, Fr h₀ L h' m → News h₀ L h' [(dx, dictOf es j), (e, oe), (t, ot)] → oe.cls = .ref 122 → oe.data = .fields #[.ref t, .none, .none, .none, .bool false, .none] → oe.dict = some dx →
      ot.cls = .type "tuple" → ot.data = .seq [.str k1 t1, .str k2 t2].toArray 0 → getL "kind" es = some (some (.str k1 tk)) → Q (.ref e) { s with heap := h', toks := tk' }) :
    wpAny (model PySem.Challenge.rw_sz0076_01.prog w) A (call (.ref 122) [.str k1 t1, .str k2 t2]) Q E s := by
  have X := X₀.keeps F.keep
  obtain ⟨nm, q, bs, sn, sub, ab, col, dd, q0, q1, q2, q3, q5, hl⟩ := f_cls w.params
  have hC := X _ _ hl
  have hn : s.heap.Ns 121 (s.heap.nsMap 121) := .of_isNs (isNs_of_in X (f_ok w.params))
  have hi := nsMap_of X (f_ok w.params) (f_init w.params)
  obtain ⟨oI, hfI, hfc⟩ := typeIn_obj X (f_initc w.params)
  obtain ⟨hp, g, d, tk, os⟩ := s
  refine wpAny_call_exc_init PySem.F.excBase_Exception hC hn hi hfI hfc (fun h₁ e hm => ?_) (by show (2 : Nat) ≤ sizeLine; rw [sizeLine_eq]; decide)
  obtain ⟨t, he, htn, ht⟩ := hm.there
  have het : t ≠ e := fun z => by rw [z, he] at ht; cases ht
  have F₁ : Fr h₀ L h₁ m := F.keeps hm.keeps
  have none₀ : ∀ b, hp.get? b = none → h₀.get? b = none := fun b q => kts_none F.keep q
  have N₁ := News.more F₁ (News.more F₁ News.nil ht (fun es n q => by cases q) (none₀ _ htn)) he (fun es n q => by cases q) (none₀ _ hm.new)
  refine wpAny_call ?_
  have hr : (A.under (.builtin "type.__call__" ⟨.ref 122 :: [.str k1 t1, .str k2 t2], []⟩)).depth < recursionLimit := by
    simp only [depth_under_make]; omega
  refine' code_def (K := kfr w.params) (s := ⟨h₁, g, d, tk, os⟩) B F₁ X₀ N₁ T hA rfl hck ?k6 ?k7 hr ?k9 ?kB ?_ ?c2 ?c3 ?c4 ?c5
  case k6 => k_is
  case k7 => k_is
  case k9 => exact BindsTo.of_eq rfl
  case kB => exact locs rfl
  case c2 => exact rfl
  case c3 => exact rfl
  case c4 => exact rfl
  case c5 => decide
  intro g' L' h' FG' F' N' B' X' T'
  try dsimp only
  k_fold
  k_steps
  (rename Fr _ _ _ _ => kF; rename News _ _ _ _ => kN)
  exact h _ _ _ _ _ _ _ _ _ _ kF kN rfl rfl rfl rfl rfl rfl
end
section -- E7
/-- the heap h' holds all of h, and the written objects besides -/
def Ext (h h' : Heap) (tl : List (Addr × Obj)) : Prop := (∀ b o, h.get? b = some o → h'.get? b = some o) ∧ ∀ p ∈ tl, h'.get? p.1 = some p.2 ∧ h.get? p.1 = none

section
variable {h₀ h h' : Heap} {L L' : Addr} {m m' : Str → Option Value} {news tl : List (Addr × Obj)}
theorem Ext.of (F : Fr h L' h' m') (N : News h L' h' news) (hs : ∀ p ∈ tl, p ∈ news) : Ext h h' tl := ⟨F.keep, fun p hp => ⟨(N p (hs p hp)).1, (N p (hs p hp)).2.2⟩⟩
theorem Ext.fr (x : Ext h h' tl) (F : Fr h₀ L h m) : Fr h₀ L h' m := F.keeps x.1
theorem Ext.led (x : Ext h h' tl) (F : Fr h₀ L h m) (N : News h₀ L h news) : News h₀ L h' (tl ++ news) := fun p hp => by
  rcases List.mem_append.mp hp with q | q
  · refine ⟨(x.2 p q).1, fun z => ?_, kts_none F.keep (x.2 p q).2⟩
    obtain ⟨oL, _, _, hL, _⟩ := F.ns
    have := (x.2 p q).2
    rw [z, hL] at this; cases this
  · exact ⟨x.1 _ _ (N p q).1, (N p q).2⟩
theorem Ext.apart (x : Ext h h' tl) (N : News h₀ L h news) : ∀ p ∈ tl, ∀ q ∈ news, p.1 ≠ q.1 := fun p hp q hq z => by
  have a := (x.2 p hp).2
  have b := (N q hq).1
  rw [z, b] at a; cases a
end

abbrev topA (dp un : Nat) (gd : Option (List Code)) (cn : Str) (cs : Scope) (L a : Addr) (ccd : Value) (outer : List Env) : Around := { handled := none, depth := dp, frames := some (envOf cn cs L a ccd :: outer), guards := gd, units := un }

/-- what a call of the def at f does: it hands back a value over some new objects, or a SyntaxError flies -/
def Ct (w : World) (p : Program) (loose : List Str) (mean : ExcName → Option Value) (mg mb : Str → Option Value) (f : Addr) (dd uu : Nat) (vs : List Value) (Ret : Value → List (Addr × Obj) → Prop) (Exc : Prop) : Prop :=
  ∀ (dp un : Nat) (gd : Option (List Code)) (cn : Str) (cs : Scope) (a : Addr) (ccd : Value) (outer : List Env) (A₀ : Around) (base h₀ : Heap) (L : Addr) (m : Str → Option Value) (s : Shared) (Q E : Value → Shared → Prop),
    Below A₀ base outer h₀ → Fr h₀ L s.heap m → (kfr w.params).In h₀ → Top p loose mean mg mb h₀ → cs.kind = .function → dp + dd < recursionLimit → un + uu < cLine →
    (∀ v tl h' tk', Ret v tl → Ext s.heap h' tl → Q v { s with heap := h', toks := tk' }) →
    (Exc → ∀ e h' tk', RJ 122 base s.heap (envOf cn cs L a ccd :: outer) e h' → E (.ref e) { s with heap := h', toks := tk' }) →
    wpAny (model PySem.Challenge.rw_sz0076_01.prog w) (topA dp un gd cn cs L a ccd outer) (call (.ref f) vs) Q E s

section
variable {prog : Program} {w : World} {A A₀ : Around} {E : Value → Shared → Prop} {s : Shared} {K : Frag} {L : Addr} {h₀ base : Heap} {m mg mb : Str → Option Value} {p : Program} {loose : List Str} {mean : ExcName → Option Value}

/-- into a def's body, all that stands being the ground -/
theorem enterC {cn : Str} {cs : Scope} {a : Addr} {ccd : Value} {outer : List Env} {Q : Value → Shared → Prop} {name qual : Str} {params : Arguments} {body : List Stmt} {scope : Scope} {dV kV doc pm cdv ct oc : Value} {an od : Option Addr} {osl : Array (Option Value)} {f : Addr} {args : List Value} {binds : List (Str × Value)}
    (B : Below A₀ base outer h₀) (F : Fr h₀ L s.heap m) (X₀ : K.In h₀) (T : Top p loose mean mg mb h₀) (hA : A.frames = some (envOf cn cs L a ccd :: outer)) (hck : cs.kind = .function)
    (ho : K.lookup f = some ⟨oc, od, .func (fnOf name qual params body scope dV kV doc pm an cdv ct), osl⟩) (hcd : codeIn K cdv qual = true) (hroom : A.depth < recursionLimit)
    (hbind : BindsTo s (fnOf name qual params body scope dV kV doc pm an cdv ct) ⟨args, []⟩ binds) (hloc : ∀ y ∈ binds, scope.names.lookup y.1 = some .local)
    (h : ∀ L' h₁, Fr s.heap L' h₁ (fun y => binds.reverse.lookup y) → News s.heap L' h₁ [] → Below A base (envOf cn cs L a ccd :: outer) s.heap → K.In s.heap → Top p loose mean mg mb s.heap →
      wpAny (model prog w) (A.deeper (envOf qual scope L' f cdv)) (execs body (envOf qual scope L' f cdv))
        (fun fl s' => Q (match fl with | .ret v => v | _ => .none) s')
        (fun e s' => wpAny (model prog w) (A.deeper (envOf qual scope L' f cdv)) (leaving (envOf qual scope L' f cdv) e) (fun _ s'' => E e s'') (fun e' s'' => E e' s'') s')
        { s with heap := h₁, toks := s.toks + binds.length })
    (hco : scope.isCoroutine = false) (hgen : scope.isGenerator = false) (hk : scope.kind = .function)
    (hcell : ∀ x ∈ scope.names, x.2 ≠ .cell) : wpAny (model prog w) A (call (.ref f) args) Q E s := by
  have X := X₀.keeps F.keep
  have BP := B.push (name := cn) (scope := cs) (a := a) (cd := ccd) F hck
  refine wpAny_call (codeAny_call_def (fd := fnOf name qual params body scope dV kV doc pm an cdv ct) (body := body) (binds := binds) hroom (X _ _ ho) rfl (T.nolimit.keeps F.keep) (codeRec_of X hcd) rfl hbind hcell hloc (fun h₁ hns hk₁ => ?_) hco hgen hk)
  exact h _ h₁ ⟨hns, hk₁, Nat.le_refl _⟩ News.nil ⟨hA, BP.stays, BP.frames⟩ X (T.keeps F.keep)

theorem raise_made {M : Model} {env : Env} {nm q : Str} {C N : Addr} {bs bm : List Value} {hdct : Bool} {sn : List Str} {sub : List Value} {ab : Bool} {col : Option Bool} {dd : Option Addr} {k0 k1 k2 k3 k5 : Option Value} {newId : String}
    {x : Sem Value} {Q : Flow → Shared → Prop} (hbase : bm.contains (.type "BaseException") = true) (hh : A.handled = none)
    (h : wpAny M A x (fun v s₁ => ∃ e oe t, v = .ref e ∧ s₁.heap.get? C = some (excClassObj nm q C N bs bm hdct sn sub ab col dd k0 k1 k2 k3 k5 newId) ∧
      s₁.heap.get? e = some oe ∧ oe.cls = .ref C ∧ oe.data = .fields #[.ref t, .none, .none, .none, .bool false, .none] ∧ E (.ref e) s₁) E s) :
    wpAny M A (raiseStmt env (some x) none) Q E s := by
  have hcB : (Value.ref C :: bm).contains (.type "BaseException") = true := by rw [List.contains_cons, hbase, Bool.or_true]
  unfold raiseStmt
  refine wpAny_bind (wpAny_mono h (fun v s₁ h₁ => ?_) fun _ _ x => x)
  obtain ⟨e, oe, t, rfl, hC, he, hc, hd, hE⟩ := h₁
  obtain ⟨oc, odi, oda, osl⟩ := oe
  dsimp only at hc hd
  subst hc hd
  obtain ⟨hp, g, d, tk, os⟩ := s₁
  repeat (first | with_reducible refine wpAny_loadPart_at he ?_ | with_reducible refine wpAny_loadPart_at hC ?_ | (with_reducible refine wpAny_isSubtype_exc hC ?_; rw [hcB]) | wp_step)
  exact wpAny_raiseNew_none hh hE

theorem exec_raise {M : Model} {env : Env} {nm q : Str} {C N : Addr} {bs bm : List Value} {hdct : Bool} {sn : List Str} {sub : List Value} {ab : Bool} {col : Option Bool} {dd : Option Addr} {k0 k1 k2 k3 k5 : Option Value} {newId : String}
    {e : Expr} {pos : Pos} {Q : Flow → Shared → Prop} (hbase : bm.contains (.type "BaseException") = true) (hh : A.handled = none)
    (h : wpAny M A (eval e env) (fun v s₁ => ∃ e oe t, v = .ref e ∧ s₁.heap.get? C = some (excClassObj nm q C N bs bm hdct sn sub ab col dd k0 k1 k2 k3 k5 newId) ∧
      s₁.heap.get? e = some oe ∧ oe.cls = .ref C ∧ oe.data = .fields #[.ref t, .none, .none, .none, .bool false, .none] ∧ E (.ref e) s₁) E s) :
    wpAny M A (exec (.Raise (some e) none pos) env) Q E s := by
  rw [arm_exec_Raise]
  refine wpAny_bind (wpAny_standAt ?_)
  exact raise_made hbase hh (wpAny_bind (wpAny_mono h (fun v s₃ h₃ => wpAny_bind (wpAny_standAt (wpAny_pure h₃))) fun _ _ x => x))

def JsCls (h : Heap) : Prop := ∃ nm q bs sn sub ab col dd k0 k1 k2 k3 k5, h.get? 122 = some (excClassObj nm q 122 121 bs [.type "Exception", .type "BaseException", .type "object"] true sn sub ab col dd k0 k1 k2 k3 k5 "Exception.__new__")
theorem JsCls.of {h : Heap} (X : (kfr w.params).In h) : JsCls h := by
  obtain ⟨nm, q, bs, sn, sub, ab, col, dd, q0, q1, q2, q3, q5, hl⟩ := f_cls w.params
  exact ⟨nm, q, bs, sn, sub, ab, col, dd, q0, q1, q2, q3, q5, X _ _ hl⟩
def RaiseJ (E : Value → Shared → Prop) (v : Value) (s₁ : Shared) : Prop :=
  ∃ e oe t, v = .ref e ∧ JsCls s₁.heap ∧ s₁.heap.get? e = some oe ∧ oe.cls = .ref 122 ∧ oe.data = .fields #[.ref t, .none, .none, .none, .bool false, .none] ∧ E (.ref e) s₁
theorem exec_raiseJ {M : Model} {env : Env} {e : Expr} {pos : Pos} {Q : Flow → Shared → Prop} (hh : A.handled = none) (h : wpAny M A (eval e env) (RaiseJ E) E s) :
    wpAny M A (exec (.Raise (some e) none pos) env) Q E s := by
  rw [arm_exec_Raise]
  refine wpAny_bind (wpAny_standAt ?_)
  unfold raiseStmt
  refine wpAny_bind (wpAny_bind (wpAny_mono h (fun v s₁ h₁ => wpAny_bind (wpAny_standAt (wpAny_pure ?_))) fun _ _ x => x))
  obtain ⟨e, oe, t, rfl, ⟨nm, q, bs, sn, sub, ab, col, dd, k0, k1, k2, k3, k5, hC⟩, he, hc, hd, hE⟩ := h₁
  have key := raise_made (M := M) (env := env) (A := A) (E := E) (Q := Q) (s := s₁) (x := (pure (.ref e) : Sem Value)) (bm := [.type "Exception", .type "BaseException", .type "object"]) (by decide) hh (wpAny_pure ⟨e, oe, t, rfl, hC, he, hc, hd, hE⟩)
  unfold raiseStmt at key
  exact key

theorem raiseJ_of {g : Heap} {L' : Addr} {m' : Str → Option Value} {e t dx : Addr} {oe ot od : Obj} (X : (kfr w.params).In g) (F : Fr g L' s.heap m') (N : News g L' s.heap [(dx, od), (e, oe), (t, ot)])
    (q1 : oe.cls = .ref 122) (q2 : oe.data = .fields #[.ref t, .none, .none, .none, .bool false, .none]) (hE : E (.ref e) s) : RaiseJ E (.ref e) s :=
  ⟨e, oe, t, rfl, JsCls.of (X.keeps F.keep), (N (e, oe) (by simp)).1, q1, q2, hE⟩
end
theorem tokz {α : Type} {M : Model} {A : Around} {x : Sem α} {Q : α → Shared → Prop} {E : Value → Shared → Prop} {h : Heap} {g d o} {k : Nat} (H : ∀ k, wpAny M A x Q E ⟨h, g, d, k, o⟩) : wpAny M A x Q E ⟨h, g, d, k, o⟩ := H k
end
theorem anew_E8 : True := by
  w_top off
  k_with_none
  trivial
section -- E8
theorem kfill8 (w : World) (h : Heap) : (kfr w.params).In h → PySem.Challenge.rw_sz0076_01 = PySem.Challenge.rw_sz0076_01 → True := by
  k_fill
  intros
  trivial
end
section -- E8
theorem rows_E8_1 : True := by
  k_with_none
  k_with "ct_enter" => (refine enterC (K := kfr _) (by assumption) (by assumption) (by assumption) (by assumption) (by exact rfl) (by assumption) (by k_is) (by k_is) (by ktr_room) (by exact BindsTo.of_eq rfl) (by exact locs rfl) ?_ (by exact rfl) (by exact rfl) (by exact rfl) (by decide); k_whole; intro L' h' F' N' B' X' T'; (try dsimp only); (try k_fold))
  k_with "exec Raise some none" => (k_here; refine exec_raiseJ rfl ?_)
  k_with "RaiseJ" => (refine raiseJ_of (by assumption) (by assumption) (by assumption) (by assumption) (by assumption) ?_; k_whole)
  k_with "leaving ref" => (k_here; k_dflt (first | (refine leave_firstJ (by assumption) (by assumption) (by assumption) (by assumption) (by assumption) (by assumption) (by assumption) (by assumption) (by assumption) ?_; k_whole; intro h8 R8) | (refine leave_onJ' (by assumption) (by assumption) (by assumption) ?_; k_whole; intro h8 R8)))
  k_with "call ref" => (k_here; (with_reducible show wpAny _ _ (call (Value.ref 122) [Value.str _ _, Value.str _ _]) _ _ _); refine jsfail_call (by assumption) (by assumption) (by assumption) (by assumption) (by exact rfl) (by exact rfl) (by ktr_room) ?_; k_whole; intro e9 t9 dx9 h9 tk9 es9 j9 ck9 oe9 ot9 F9 N9 q1 q2 q3 q4 q5 q6)
  trivial

variable {w : World} {p : Program} {loose : List Str} {mean : ExcName → Option Value} {mg mb : Str → Option Value}
set_option maxHeartbeats 8000000 in
theorem refuse_c (t : Str) (tk : Tok) (i : Int) (ti : Tok) (h0 : 0 ≤ i) (h1 : i < 2 ^ 20) (hlen : t.length ≤ 1048576) :
    Ct w p loose mean mg mb 141 6 60 [.str t tk, .int i ti] (fun _ _ => False) True := by
  unfold Ct topA
  intro dp un gd cn cs a ccd outer A₀ base h₀ L m s Q E B F X₀ T hck hdp hun hret hexc
  walk_at "ct_enter"
  k_steps
  all_goals (refine hexc trivial _ _ _ ?_; assumption)
end
theorem anew_L1 : True := by
  w_top off
  k_with_none
  trivial
section -- L1
theorem kfill9 (w : World) (h : Heap) : (kfr w.params).In h → PySem.Challenge.rw_sz0076_01 = PySem.Challenge.rw_sz0076_01 → True := by
  k_fill
  intros
  trivial
end
section -- L1
theorem rows_L1_1 : True := by
  k_with_none
  k_with "ct_enter" => (refine enterC (K := kfr _) (by assumption) (by assumption) (by assumption) (by assumption) (by exact rfl) (by assumption) (by k_is) (by k_is) (by ktr_room) (by exact BindsTo.of_eq rfl) (by exact locs rfl) ?_ (by exact rfl) (by exact rfl) (by exact rfl) (by decide); k_whole; intro L' h' F' N' B' X' T'; (try dsimp only); (try k_fold))
  k_with "exec Raise some none" => (k_here; refine exec_raiseJ rfl ?_)
  k_with "RaiseJ" => (refine raiseJ_of (by assumption) (by assumption) (by assumption) (by assumption) (by assumption) ?_; k_whole)
  k_with "leaving ref" => (k_here; k_dflt (first | (refine leave_firstJ (by assumption) (by assumption) (by assumption) (by assumption) (by assumption) (by assumption) (by assumption) (by assumption) (by assumption) ?_; k_whole; intro h8 R8) | (refine leave_onJ' (by assumption) (by assumption) (by assumption) ?_; k_whole; intro h8 R8)))
  trivial
variable {w : World} {p : Program} {loose : List Str} {mean : ExcName → Option Value} {mg mb : Str → Option Value}
def sgn (t : Str) (i : Int) : Str := Txt.slice t (some i) (some (i + 1))
set_option maxHeartbeats 8000000 in
theorem sign_c (t : Str) (tk : Tok) (i : Int) (ti : Tok) (h0 : 0 ≤ i) (h1 : i < 2 ^ 20) (hlen : t.length ≤ 1048576) :
    Ct w p loose mean mg mb 148 2 20 [.str t tk, .int i ti] (fun v tl => ∃ k, v = .str (sgn t i) k ∧ tl = []) False := by
  unfold Ct topA
  intro dp un gd cn cs a ccd outer A₀ base h₀ L m s Q E B F X₀ T hck hdp hun hret hexc
  walk_at "ct_enter"
  k_steps
  all_goals exact hret _ _ _ _ ⟨_, rfl, rfl⟩ (Ext.of (by assumption) News.nil (fun _ h => h))

/-- whether the text x stands in the text S -/
abbrev noIn (S x : Str) : Bool := (Builtin.Str.occurrences S x 0 S.length 1).isEmpty
def blanks : Str := Str.ofString " \t\n\r"
def skpF (t : Str) : Nat → Int → Int
  | 0, i => i
  | f + 1, i => if i < (t.length : Int) then (if noIn (Str.ofString " \t\n\r") (Txt.item t i) = true then i else skpF t f (i + 1)) else i
def skp (t : Str) (i : Int) : Int := skpF t (t.length + 1 - i.toNat) i
theorem skp_go {t : Str} {j : Int} (h0 : 0 ≤ j) (h1 : j < (t.length : Int)) (h2 : noIn (Str.ofString " \t\n\r") (Txt.item t j) = false) : skp t (j + 1) = skp t j := by
  unfold skp
  rw [show t.length + 1 - j.toNat = (t.length + 1 - (j + 1).toNat) + 1 from by omega]
  rw [skpF, if_pos h1, if_neg (by rw [h2]; decide)]
theorem skp_end1 {t : Str} {j : Int} (h1 : ¬ j < (t.length : Int)) : skp t j = j := by
  unfold skp
  cases t.length + 1 - j.toNat with
  | zero => rfl
  | succ n => rw [skpF, if_neg h1]
theorem skp_end2 {t : Str} {j : Int} (h2 : noIn (Str.ofString " \t\n\r") (Txt.item t j) = true) : skp t j = j := by
  unfold skp
  cases t.length + 1 - j.toNat with
  | zero => rfl
  | succ n => rw [skpF, if_pos h2]; split <;> rfl
theorem skp_turn {t : Str} {i j : Int} (h : skp t j = skp t i) (h0 : 0 ≤ j) (h1 : j < (t.length : Int)) (h2 : noIn (Str.ofString " \t\n\r") (Txt.item t j) = false) (hlen : t.length ≤ 1048576) : 0 ≤ j + 1 ∧ j + 1 < 2 ^ 21 ∧ skp t (j + 1) = skp t i :=
  ⟨by omega, by omega, (skp_go h0 h1 h2).trans h⟩
set_option maxHeartbeats 8000000 in
theorem skip_c (t : Str) (tk : Tok) (i : Int) (ti : Tok) (h0 : 0 ≤ i) (h1 : i < 2 ^ 20) (hlen : t.length ≤ 1048576) :
    Ct w p loose mean mg mb 155 2 20 [.str t tk, .int i ti] (fun v tl => ∃ k, v = .int (skp t i) k ∧ tl = []) False := by
  unfold Ct topA
  intro dp un gd cn cs a ccd outer A₀ base h₀ L m s Q E B F X₀ T hck hdp hun hret hexc
  (k_with "exec While BoolOp cons nil" => k_while (fun (_ : List Int) j => 0 ≤ j ∧ j < 2 ^ 21 ∧ skp t j = skp t i) (fun _ j => ((t.length : Int) - j).toNat) "at")
  (k_with "state" => exact skp_turn (by assumption) (by assumption) (by assumption) (by assumption) (by assumption))
  walk_at "ct_enter"
  k_steps
  all_goals ((try dsimp only); (try k_unfold); (try dsimp only); refine hret _ _ _ _ ⟨_, congrArg (fun z => Value.int z _) ?_, rfl⟩ (Ext.of (by assumption) News.nil (fun _ h => h)); first | exact (skp_end1 (by assumption)).symm.trans (by assumption) | exact (skp_end2 (by assumption)).symm.trans (by assumption))
end
theorem anew_L2 : True := by
  w_top off
  k_with_none
  trivial
section -- L2
theorem kfill10 (w : World) (h : Heap) : (kfr w.params).In h → PySem.Challenge.rw_sz0076_01 = PySem.Challenge.rw_sz0076_01 → True := by
  k_fill
  intros
  trivial
end
section -- L2
theorem rows_L2_1 : True := by
  k_with_none
  k_with "ct_enter" => (refine enterC (K := kfr _) (by assumption) (by assumption) (by assumption) (by assumption) (by exact rfl) (by assumption) (by k_is) (by k_is) (by ktr_room) (by exact BindsTo.of_eq rfl) (by exact locs rfl) ?_ (by exact rfl) (by exact rfl) (by exact rfl) (by decide); k_whole; intro L' h' F' N' B' X' T'; (try dsimp only); (try k_fold))
  k_with "exec Raise some none" => (k_here; refine exec_raiseJ rfl ?_)
  k_with "RaiseJ" => (refine raiseJ_of (by assumption) (by assumption) (by assumption) (by assumption) (by assumption) ?_; k_whole)
  k_with "leaving ref" => (k_here; k_dflt (first | (refine leave_firstJ (by assumption) (by assumption) (by assumption) (by assumption) (by assumption) (by assumption) (by assumption) (by assumption) (by assumption) ?_; k_whole; intro h8 R8) | (refine leave_onJ' (by assumption) (by assumption) (by assumption) ?_; k_whole; intro h8 R8)))
  trivial
variable {w : World} {p : Program} {loose : List Str} {mean : ExcName → Option Value} {mg mb : Str → Option Value}
/-- what a sign is worth as a figure -/
def fig (c : Nat) : Int := if 48 ≤ c ∧ c ≤ 57 then (c : Int) - 48 else if 97 ≤ c ∧ c ≤ 122 then (c : Int) - 87 else if 65 ≤ c ∧ c ≤ 90 then (c : Int) - 55 else 36
theorem one_lt (a b : Nat) : ((#[a] : Array Nat).toList < [b]) ↔ a < b := by simp [List.cons_lt_cons_iff]
theorem one_lt_one (a b : Nat) : ([a] < [b]) ↔ a < b := by simp [List.cons_lt_cons_iff]
theorem getc (c : Nat) : (#[c] : Array Nat).getD 0 0 = c := rfl
theorem c0 : (Str.ofString "0").cps.toList = [48] := by decide +kernel
theorem c9 : (Str.ofString "9").cps.toList = [57] := by decide +kernel
theorem ca : (Str.ofString "a").cps.toList = [97] := by decide +kernel
theorem cz : (Str.ofString "z").cps.toList = [122] := by decide +kernel
theorem cA : (Str.ofString "A").cps.toList = [65] := by decide +kernel
theorem cZ : (Str.ofString "Z").cps.toList = [90] := by decide +kernel
theorem one_of {x : Str} (h : x.length = 1) : ∃ c, x = ⟨#[c]⟩ := by
  obtain ⟨⟨l⟩⟩ := x
  match l, h with
  | [c], _ => exact ⟨c, rfl⟩
set_option maxHeartbeats 8000000 in
theorem figure_c (x : Str) (tk : Tok) (h1 : x.length = 1) :
    Ct w p loose mean mg mb 63 2 20 [.str x tk] (fun v tl => ∃ k, v = .int (fig (x.cps.getD 0 0)) k ∧ tl = []) False := by
  obtain ⟨c, rfl⟩ := one_of h1
  unfold Ct topA
  intro dp un gd cn cs a ccd outer A₀ base h₀ L m s Q E B F X₀ T hck hdp hun hret hexc
  walk_at "ct_enter"
  k_steps
  all_goals (
    (try dsimp only); (try k_unfold); (try dsimp only)
    refine hret _ _ _ _ ⟨_, congrArg (fun z => Value.int z _) ?_, rfl⟩ (Ext.of (by assumption) News.nil (fun _ h => h))
    simp only [c0, c9, ca, cz, cA, cZ, one_lt, one_lt_one, getc, Nat.not_lt] at *
    show _ = fig c
    unfold fig
    repeat' split
    all_goals omega)
end
theorem anew_L3 : True := by
  w_top off
  k_with_none
  trivial
section -- L3
theorem kfill11 (w : World) (h : Heap) : (kfr w.params).In h → PySem.Challenge.rw_sz0076_01 = PySem.Challenge.rw_sz0076_01 → True := by
  k_fill
  intros
  trivial
end
section -- L3
theorem rows_L3_1 : True := by
  k_with_none
  k_with "ct_enter" => (refine enterC (K := kfr _) (by assumption) (by assumption) (by assumption) (by assumption) (by exact rfl) (by assumption) (by k_is) (by k_is) (by ktr_room) (by exact BindsTo.of_eq rfl) (by exact locs rfl) ?_ (by exact rfl) (by exact rfl) (by exact rfl) (by decide); k_whole; intro L' h' F' N' B' X' T'; (try dsimp only); (try k_fold))
  k_with "exec Raise some none" => (k_here; refine exec_raiseJ rfl ?_)
  k_with "RaiseJ" => (refine raiseJ_of (by assumption) (by assumption) (by assumption) (by assumption) (by assumption) ?_; k_whole)
  k_with "leaving ref" => (k_here; k_dflt (first | (refine leave_firstJ (by assumption) (by assumption) (by assumption) (by assumption) (by assumption) (by assumption) (by assumption) (by assumption) (by assumption) ?_; k_whole; intro h8 R8) | (refine leave_onJ' (by assumption) (by assumption) (by assumption) ?_; k_whole; intro h8 R8)))
  trivial
variable {w : World} {p : Program} {loose : List Str} {mean : ExcName → Option Value} {mg mb : Str → Option Value}

section
variable {f : Addr} {dd uu dp un : Nat} {vs : List Value} {Exc : Prop} {gd : Option (List Code)} {cn : Str} {cs : Scope} {a : Addr} {ccd : Value} {outer : List Env} {A₀ : Around} {base h₀ : Heap} {L : Addr} {m : Str → Option Value} {s : Shared} {Q E : Value → Shared → Prop} {news : List (Addr × Obj)}
theorem Ct.use {Ret : Value → List (Addr × Obj) → Prop} (C : Ct w p loose mean mg mb f dd uu vs Ret Exc) (B : Below A₀ base outer h₀) (F : Fr h₀ L s.heap m) (X : (kfr w.params).In h₀) (N : News h₀ L s.heap news) (T : Top p loose mean mg mb h₀) (hck : cs.kind = .function) (hd : dp + dd < recursionLimit) (hu : un + uu < cLine)
    (ret : ∀ v tl h' tk', Ret v tl → Fr h₀ L h' m → News h₀ L h' (tl ++ news) → (∀ p ∈ tl, ∀ q ∈ news, p.1 ≠ q.1) → Q v { s with heap := h', toks := tk' })
    (exc : Exc → ∀ e h' tk', RJ 122 base s.heap (envOf cn cs L a ccd :: outer) e h' → E (.ref e) { s with heap := h', toks := tk' }) :
    wpAny (model PySem.Challenge.rw_sz0076_01.prog w) (topA dp un gd cn cs L a ccd outer) (call (.ref f) vs) Q E s :=
  C dp un gd cn cs a ccd outer A₀ base h₀ L m s Q E B F X T hck hd hu (fun v tl h' tk' r x => ret v tl h' tk' r (x.fr F) (x.led F N) (x.apart N)) exc
/-- a def of ints and texts alone -/
theorem Ct.useV {mk : Tok → Value} (C : Ct w p loose mean mg mb f dd uu vs (fun v tl => ∃ k, v = mk k ∧ tl = []) False) (B : Below A₀ base outer h₀) (F : Fr h₀ L s.heap m) (X : (kfr w.params).In h₀) (N : News h₀ L s.heap news) (T : Top p loose mean mg mb h₀) (hck : cs.kind = .function) (hd : dp + dd < recursionLimit) (hu : un + uu < cLine)
    (ret : ∀ k h' tk', Fr h₀ L h' m → News h₀ L h' news → Q (mk k) { s with heap := h', toks := tk' }) :
    wpAny (model PySem.Challenge.rw_sz0076_01.prog w) (topA dp un gd cn cs L a ccd outer) (call (.ref f) vs) Q E s :=
  C.use B F X N T hck hd hu (fun v tl h' tk' r F' N' _ => by obtain ⟨k, rfl, rfl⟩ := r; exact ret k h' tk' F' N') (fun x => x.elim)
end
theorem rows_L3_2 : True := by
  k_with "use_fig" => (refine Ct.useV (mk := fun k => Value.int _ k) (figure_c _ _ (by omega)) (by assumption) (by assumption) (by assumption) (by assumption) (by assumption) (by exact rfl) (by ktr_room) (by ktr_units) ?_; k_whole; intro k9 h9 tk9 F9 N9; (try dsimp only))
  k_with "call ref" => (k_here; (with_reducible show wpAny _ _ (call (Value.ref 63) _) _ _ _); walk_at "use_fig")
  trivial

def cpa (t : Str) (i : Int) : Nat := (Txt.item t i).cps.getD 0 0
def renF (t : Str) : Nat → Int → Int
  | 0, i => i
  | f + 1, i => if i < (t.length : Int) then (if fig (cpa t i) < 10 then renF t f (i + 1) else i) else i
def ren (t : Str) (i : Int) : Int := renF t (t.length + 1 - i.toNat) i
theorem ren_go {t : Str} {j : Int} (h0 : 0 ≤ j) (h1 : j < (t.length : Int)) (h2 : fig (cpa t j) < 10) : ren t (j + 1) = ren t j := by
  unfold ren
  rw [show t.length + 1 - j.toNat = (t.length + 1 - (j + 1).toNat) + 1 from by omega]
  rw [renF, if_pos h1, if_pos h2]
theorem ren_end1 {t : Str} {j : Int} (h1 : ¬ j < (t.length : Int)) : ren t j = j := by
  unfold ren
  cases t.length + 1 - j.toNat with
  | zero => rfl
  | succ n => rw [renF, if_neg h1]
theorem ren_end2 {t : Str} {j : Int} (h2 : ¬ fig (cpa t j) < 10) : ren t j = j := by
  unfold ren
  cases t.length + 1 - j.toNat with
  | zero => rfl
  | succ n => rw [renF, if_neg h2]; split <;> rfl
theorem ren_turn {t : Str} {i j : Int} (h : ren t j = ren t i) (h0 : 0 ≤ j) (h1 : j < (t.length : Int)) (h2 : fig ((Txt.item t j).cps.getD 0 0) < 10) (hlen : t.length ≤ 1048576) : 0 ≤ j + 1 ∧ j + 1 < 2 ^ 21 ∧ ren t (j + 1) = ren t i :=
  ⟨by omega, by omega, (ren_go h0 h1 h2).trans h⟩
set_option maxHeartbeats 8000000 in
theorem runend_c (t : Str) (tk : Tok) (i : Int) (ti : Tok) (tr : Tok) (h0 : 0 ≤ i) (h1 : i < 2 ^ 20) (hlen : t.length ≤ 1048576) :
    Ct w p loose mean mg mb 70 4 40 [.str t tk, .int i ti, .int 10 tr] (fun v tl => ∃ k, v = .int (ren t i) k ∧ tl = []) False := by
  unfold Ct topA
  intro dp un gd cn cs a ccd outer A₀ base h₀ L m s Q E B F X₀ T hck hdp hun hret hexc
  (k_with "exec While BoolOp cons nil" => k_while (fun (_ : List Int) j => 0 ≤ j ∧ j < 2 ^ 21 ∧ ren t j = ren t i) (fun _ j => ((t.length : Int) - j).toNat) "at")
  (k_with "state" => exact ren_turn (by assumption) (by assumption) (by assumption) (by assumption) (by assumption))
  walk_at "ct_enter"
  k_steps
  all_goals ((try dsimp only); (try k_unfold); (try dsimp only); refine hret _ _ _ _ ⟨_, congrArg (fun z => Value.int z _) ?_, rfl⟩ (Ext.of (by assumption) News.nil (fun _ h => h)); first | exact (ren_end1 (by assumption)).symm.trans (by assumption) | exact (ren_end2 (by assumption)).symm.trans (by assumption))
end
theorem anew_L4 : True := by
  w_top off
  k_with_none
  trivial
section -- L4
theorem kfill12 (w : World) (h : Heap) : (kfr w.params).In h → PySem.Challenge.rw_sz0076_01 = PySem.Challenge.rw_sz0076_01 → True := by
  k_fill
  intros
  trivial
end
end
section
local macro_rules | `(tactic| k_room) => `(tactic| ktr_room)
section
local macro_rules | `(tactic| k_units) => `(tactic| ktr_units)
section
local macro_rules | `(tactic| size_fits) => `(tactic| exact Nat.le_of_ble_eq_true rfl)
section
local macro_rules | `(tactic| walk_at $s:str) => `(tactic| k_extra $s)
section
local macro_rules | `(tactic| walk_at "none such") => `(tactic| skip)
section -- L4
theorem rows_L4_1 : True := by
  k_with_none
  k_with "ct_enter" => (refine enterC (K := kfr _) (by assumption) (by assumption) (by assumption) (by assumption) (by exact rfl) (by assumption) (by k_is) (by k_is) (by ktr_room) (by exact BindsTo.of_eq rfl) (by exact locs rfl) ?_ (by exact rfl) (by exact rfl) (by exact rfl) (by decide); k_whole; intro L' h' F' N' B' X' T'; (try dsimp only); (try k_fold))
  k_with "exec Raise some none" => (k_here; refine exec_raiseJ rfl ?_)
  k_with "RaiseJ" => (refine raiseJ_of (by assumption) (by assumption) (by assumption) (by assumption) (by assumption) ?_; k_whole)
  k_with "leaving ref" => (k_here; k_dflt (first | (refine leave_firstJ (by assumption) (by assumption) (by assumption) (by assumption) (by assumption) (by assumption) (by assumption) (by assumption) (by assumption) ?_; k_whole; intro h8 R8) | (refine leave_onJ' (by assumption) (by assumption) (by assumption) ?_; k_whole; intro h8 R8)))
  k_with "ct_open" => ((try dsimp only); (try k_unfold); (try dsimp only))
  k_with "eval Call" => (k_here; (with_reducible show wpAny _ _ (eval (Expr.Call (Expr.Name _ _) _ _ _) _) _ _ _); refine Call_ ?_)
  k_with "ite" => (first | (refine ite_t (by with_reducible assumption) ?_) | (refine ite_f (by with_reducible assumption) ?_))
  k_with "ite" => (k_dflt (first | (refine ite_pos (by first | omega | ((simp only [beq_iff_eq, decide_eq_true_eq]); omega)) ?_) | (refine ite_neg (by first | omega | ((simp only [beq_iff_eq, decide_eq_true_eq]); omega)) ?_)))
  k_with "ite" => (k_dflt (first | (refine ite_pos (by omega) ?_) | (refine ite_neg (by omega) ?_)))
  k_with "callWith" => (k_here; (with_reducible refine callWith_method1 ?_ (by with_unfolding_all exact rfl) (by with_unfolding_all exact rfl)))
  k_with "callWith ref" => (k_here; (with_reducible refine callWith_K0 (K := kfr _) (by exact Frag.In.keeps (by assumption) (Fr.keep (by assumption))) (by k_is) ?_); k_dflt (k_whole))
  trivial
variable {w : World} {p : Program} {loose : List Str} {mean : ExcName → Option Value} {mg mb : Str → Option Value}
set_option maxHeartbeats 8000000 in
theorem width_c (tk : Tok) :
    Ct w p loose mean mg mb 21 2 30 [.int 1 tk] (fun v tl => ∃ k, v = .int 1 k ∧ tl = []) False := by
  unfold Ct topA
  intro dp un gd cn cs a ccd outer A₀ base h₀ L m s Q E B F X₀ T hck hdp hun hret hexc
  walk_at "ct_enter"
  k_steps
  all_goals (walk_at "ct_open"; refine hret _ _ _ _ ⟨_, congrArg (fun z => Value.int z _) ?_, rfl⟩ (Ext.of (by assumption) News.nil (fun _ h => h)); rfl)
set_option maxHeartbeats 8000000 in
theorem assembled_c (t1 t2 t3 : Tok) :
    Ct w p loose mean mg mb 56 3 40 [.int 0 t1, .int 4503599627370496 t2, .int (-52) t3] (fun v tl => ∃ k, v = .int 4607182418800017408 k ∧ tl = []) False := by
  unfold Ct topA
  intro dp un gd cn cs a ccd outer A₀ base h₀ L m s Q E B F X₀ T hck hdp hun hret hexc
  walk_at "ct_enter"
  k_steps
  all_goals (walk_at "ct_open"; refine hret _ _ _ _ ⟨_, congrArg (fun z => Value.int z _) ?_, rfl⟩ (Ext.of (by assumption) News.nil (fun _ h => h)); decide +kernel)
end
end
theorem anew_L5 : True := by
  w_top off
  k_with_none
  trivial
section -- L5
theorem kfill13 (w : World) (h : Heap) : (kfr w.params).In h → PySem.Challenge.rw_sz0076_01 = PySem.Challenge.rw_sz0076_01 → True := by
  k_fill
  intros
  trivial
end
section -- L5
theorem rows_L5_1 : True := by
  k_with_none
  k_with "ct_enter" => (refine enterC (K := kfr _) (by assumption) (by assumption) (by assumption) (by assumption) (by exact rfl) (by assumption) (by k_is) (by k_is) (by ktr_room) (by exact BindsTo.of_eq rfl) (by exact locs rfl) ?_ (by exact rfl) (by exact rfl) (by exact rfl) (by decide); k_whole; intro L' h' F' N' B' X' T'; (try dsimp only); (try k_fold))
  k_with "exec Raise some none" => (k_here; refine exec_raiseJ rfl ?_)
  k_with "RaiseJ" => (refine raiseJ_of (by assumption) (by assumption) (by assumption) (by assumption) (by assumption) ?_; k_whole)
  k_with "leaving ref" => (k_here; k_dflt (first | (refine leave_firstJ (by assumption) (by assumption) (by assumption) (by assumption) (by assumption) (by assumption) (by assumption) (by assumption) (by assumption) ?_; k_whole; intro h8 R8) | (refine leave_onJ' (by assumption) (by assumption) (by assumption) ?_; k_whole; intro h8 R8)))
  k_with "ct_open" => ((try dsimp only); (try k_unfold); (try dsimp only))
  k_with "eval Call" => (k_here; (with_reducible show wpAny _ _ (eval (Expr.Call (Expr.Name _ _) _ _ _) _) _ _ _); refine Call_ ?_)
  k_with "ite" => (first | (refine ite_t (by with_reducible assumption) ?_) | (refine ite_f (by with_reducible assumption) ?_))
  k_with "ite" => (k_dflt (first | (refine ite_pos (by first | omega | ((simp only [beq_iff_eq, decide_eq_true_eq]); omega)) ?_) | (refine ite_neg (by first | omega | ((simp only [beq_iff_eq, decide_eq_true_eq]); omega)) ?_)))
  k_with "ite" => (k_dflt (first | (refine ite_pos (by omega) ?_) | (refine ite_neg (by omega) ?_)))
  k_with "callWith" => (k_here; (with_reducible refine callWith_method1 ?_ (by with_unfolding_all exact rfl) (by with_unfolding_all exact rfl)))
  k_with "callWith ref" => (k_here; (with_reducible refine callWith_K0 (K := kfr _) (by exact Frag.In.keeps (by assumption) (Fr.keep (by assumption))) (by k_is) ?_); k_dflt (k_whole))
  trivial
variable {w : World} {p : Program} {loose : List Str} {mean : ExcName → Option Value} {mg mb : Str → Option Value}
section
variable {f : Addr} {dd uu dp un : Nat} {vs vs' : List Value} {Exc : Prop} {gd : Option (List Code)} {cn : Str} {cs : Scope} {a : Addr} {ccd : Value} {outer : List Env} {A₀ : Around} {base h₀ : Heap} {L : Addr} {m : Str → Option Value} {s : Shared} {Q E : Value → Shared → Prop} {news : List (Addr × Obj)}
/-- arguments that are equal ints -/
theorem Ct.cast {Ret : Value → List (Addr × Obj) → Prop} (e : vs' = vs) (C : Ct w p loose mean mg mb f dd uu vs Ret Exc) : Ct w p loose mean mg mb f dd uu vs' Ret Exc := e ▸ C
theorem Ct.useN {Ret : Value → List (Addr × Obj) → Prop} (C : Ct w p loose mean mg mb f dd uu vs Ret False) (B : Below A₀ base outer h₀) (F : Fr h₀ L s.heap m) (X : (kfr w.params).In h₀) (N : News h₀ L s.heap news) (T : Top p loose mean mg mb h₀) (hck : cs.kind = .function) (hd : dp + dd < recursionLimit) (hu : un + uu < cLine)
    (ret : ∀ v tl h' tk', Ret v tl → Fr h₀ L h' m → News h₀ L h' (tl ++ news) → (∀ p ∈ tl, ∀ q ∈ news, p.1 ≠ q.1) → Q v { s with heap := h', toks := tk' }) :
    wpAny (model PySem.Challenge.rw_sz0076_01.prog w) (topA dp un gd cn cs L a ccd outer) (call (.ref f) vs) Q E s := C.use B F X N T hck hd hu ret fun x => x.elim
theorem vs1 {a a' : Int} {t : Tok} (h : a = a') : [Value.int a t] = [Value.int a' t] := by rw [h]
theorem vs3 {a a' b b' c c' : Int} {t u v : Tok} (h1 : a = a') (h2 : b = b') (h3 : c = c') : [Value.int a t, Value.int b u, Value.int c v] = [Value.int a' t, Value.int b' u, Value.int c' v] := by rw [h1, h2, h3]
end
theorem rows_L5_2 : True := by
  k_with "call ref" => (k_here; (with_reducible show wpAny _ _ (call (Value.ref 21) _) _ _ _); k_dflt (refine Ct.useV (mk := fun k => Value.int _ k) (Ct.cast (vs1 (by decide)) (width_c _)) (by assumption) (by assumption) (by assumption) (by assumption) (by assumption) (by exact rfl) (by ktr_room) (by ktr_units) ?_; k_whole; intro k9 h9 tk9 F9 N9; (try dsimp only)))
  k_with "call ref" => (k_here; (with_reducible show wpAny _ _ (call (Value.ref 56) _) _ _ _); k_dflt (refine Ct.useV (mk := fun k => Value.int _ k) (Ct.cast (vs3 (by decide) (by decide) (by decide)) (assembled_c _ _ _)) (by assumption) (by assumption) (by assumption) (by assumption) (by assumption) (by exact rfl) (by ktr_room) (by ktr_units) ?_; k_whole; intro k9 h9 tk9 F9 N9; (try dsimp only)))
  trivial
set_option maxHeartbeats 8000000 in
theorem ratio_c (t1 t2 t3 : Tok) :
    Ct w p loose mean mg mb 49 6 60 [.int 0 t1, .int 1 t2, .int 1 t3] (fun v tl => ∃ k, v = .int 4607182418800017408 k ∧ tl = []) False := by
  unfold Ct topA
  intro dp un gd cn cs a ccd outer A₀ base h₀ L m s Q E B F X₀ T hck hdp hun hret hexc
  walk_at "ct_enter"
  k_steps
  all_goals (walk_at "ct_open"; refine hret _ _ _ _ ⟨_, rfl, rfl⟩ (Ext.of (by assumption) News.nil (fun _ h => h)))
end
theorem anew_L6 : True := by
  w_top off
  k_with_none
  trivial
section -- L6
theorem kfill14 (w : World) (h : Heap) : (kfr w.params).In h → PySem.Challenge.rw_sz0076_01 = PySem.Challenge.rw_sz0076_01 → True := by
  k_fill
  intros
  trivial
end
section -- L6
theorem rows_L6_1 : True := by
  k_with_none
  k_with "ct_enter" => (refine enterC (K := kfr _) (by assumption) (by assumption) (by assumption) (by assumption) (by exact rfl) (by assumption) (by k_is) (by k_is) (by ktr_room) (by exact BindsTo.of_eq rfl) (by exact locs rfl) ?_ (by exact rfl) (by exact rfl) (by exact rfl) (by decide); k_whole; intro L' h' F' N' B' X' T'; (try dsimp only); (try k_fold))
  k_with "exec Raise some none" => (k_here; refine exec_raiseJ rfl ?_)
  k_with "RaiseJ" => (refine raiseJ_of (by assumption) (by assumption) (by assumption) (by assumption) (by assumption) ?_; k_whole)
  k_with "leaving ref" => (k_here; k_dflt (first | (refine leave_firstJ (by assumption) (by assumption) (by assumption) (by assumption) (by assumption) (by assumption) (by assumption) (by assumption) (by assumption) ?_; k_whole; intro h8 R8) | (refine leave_onJ' (by assumption) (by assumption) (by assumption) ?_; k_whole; intro h8 R8)))
  k_with "ct_open" => ((try dsimp only); (try k_unfold); (try dsimp only))
  k_with "eval Call" => (k_here; (with_reducible show wpAny _ _ (eval (Expr.Call (Expr.Name _ _) _ _ _) _) _ _ _); refine Call_ ?_)
  k_with "ite" => (first | (refine ite_t (by with_reducible assumption) ?_) | (refine ite_f (by with_reducible assumption) ?_))
  k_with "ite" => (k_dflt (first | (refine ite_pos (by first | omega | ((simp only [beq_iff_eq, decide_eq_true_eq]); omega)) ?_) | (refine ite_neg (by first | omega | ((simp only [beq_iff_eq, decide_eq_true_eq]); omega)) ?_)))
  k_with "ite" => (k_dflt (first | (refine ite_pos (by omega) ?_) | (refine ite_neg (by omega) ?_)))
  k_with "callWith" => (k_here; (with_reducible refine callWith_method1 ?_ (by with_unfolding_all exact rfl) (by with_unfolding_all exact rfl)))
  k_with "callWith ref" => (k_here; (with_reducible refine callWith_K0 (K := kfr _) (by exact Frag.In.keeps (by assumption) (Fr.keep (by assumption))) (by k_is) ?_); k_dflt (k_whole))
  trivial
variable {w : World} {p : Program} {loose : List Str} {mean : ExcName → Option Value} {mg mb : Str → Option Value}
theorem rows_L6_2 : True := by
  k_with "call ref" => (k_here; (with_reducible show wpAny _ _ (call (Value.ref 63) _) _ _ _); k_dflt (refine Ct.useV (mk := fun k => Value.int _ k) (figure_c _ _ (by omega)) (by assumption) (by assumption) (by assumption) (by assumption) (by assumption) (by exact rfl) (by ktr_room) (by ktr_units) ?_; k_whole; intro k9 h9 tk9 F9 N9; (try dsimp only)))
  trivial
def wor (t : Str) (e : Int) : Int := List.foldl (fun a' k' => if 1 ≤ (Txt.item t k').length ∧ (Txt.item t k').length ≤ 1 then a' * 10 + fig ((Txt.item t k').cps.getD 0 0) else a') 0 (rangeKs 0 (e - 0).toNat)
set_option maxHeartbeats 8000000 in
theorem worth_c (t : Str) (tk : Tok) (e : Int) (t1 t2 t3 : Tok) (h0 : 0 ≤ e) (h1 : e ≤ (t.length : Int)) (hlen : t.length ≤ 1048576) :
    Ct w p loose mean mg mb 77 4 40 [.str t tk, .int 0 t1, .int e t2, .int 10 t3] (fun v tl => ∃ k, v = .int (wor t e) k ∧ tl = []) False := by
  unfold Ct topA
  intro dp un gd cn cs a ccd outer A₀ base h₀ L m s Q E B F X₀ T hck hdp hun hret hexc
  walk_at "ct_enter"
  k_steps
  all_goals (walk_at "ct_open"; exact hret _ _ _ _ ⟨_, rfl, rfl⟩ (Ext.of (by assumption) News.nil (fun _ h => h)))
theorem wor_1 : wor (Str.ofString "1") ((Str.ofString "1").length : Int) = 1 := by decide +kernel
theorem worth_c1 (tk t1 t2 t3 : Tok) :
    Ct w p loose mean mg mb 77 4 40 [.str (Str.ofString "1") tk, .int 0 t1, .int ((Str.ofString "1").length : Int) t2, .int 10 t3] (fun v tl => ∃ k, v = .int 1 k ∧ tl = []) False := by
  have h := worth_c (w := w) (p := p) (loose := loose) (mean := mean) (mg := mg) (mb := mb) (Str.ofString "1") tk ((Str.ofString "1").length : Int) t1 t2 t3 (by decide +kernel) (by decide +kernel) (by decide +kernel)
  rw [wor_1] at h
  exact h
theorem rows_L6_3 : True := by
  k_with "call ref" => (k_here; (with_reducible show wpAny _ _ (call (Value.ref 77) _) _ _ _); k_dflt (refine Ct.useV (mk := fun k => Value.int _ k) (worth_c1 _ _ _ _) (by assumption) (by assumption) (by assumption) (by assumption) (by assumption) (by exact rfl) (by ktr_room) (by ktr_units) ?_; k_whole; intro k9 h9 tk9 F9 N9; (try dsimp only)))
  k_with "call ref" => (k_here; (with_reducible show wpAny _ _ (call (Value.ref 49) _) _ _ _); k_dflt (refine Ct.useV (mk := fun k => Value.int _ k) (Ct.cast (vs3 (by decide) (by decide) (by decide)) (ratio_c _ _ _)) (by assumption) (by assumption) (by assumption) (by assumption) (by assumption) (by exact rfl) (by ktr_room) (by ktr_units) ?_; k_whole; intro k9 h9 tk9 F9 N9; (try dsimp only)))
  trivial
set_option maxHeartbeats 8000000 in
theorem fromdec_c1 (tk ti : Tok) :
    Ct w p loose mean mg mb 84 10 90 [.str (Str.ofString "1") tk, .int 0 ti] (fun v tl => ∃ k, v = .int 4607182418800017408 k ∧ tl = []) False := by
  unfold Ct topA
  intro dp un gd cn cs a ccd outer A₀ base h₀ L m s Q E B F X₀ T hck hdp hun hret hexc
  walk_at "ct_enter"
  k_steps
  all_goals (walk_at "ct_open"; exact hret _ _ _ _ ⟨_, rfl, rfl⟩ (Ext.of (by assumption) News.nil (fun _ h => h)))
set_option maxHeartbeats 8000000 in
theorem fromdec_c0 (tk ti : Tok) :
    Ct w p loose mean mg mb 84 10 90 [.str (Str.ofString "0") tk, .int 0 ti] (fun v tl => ∃ k, v = .int 0 k ∧ tl = []) False := by
  unfold Ct topA
  intro dp un gd cn cs a ccd outer A₀ base h₀ L m s Q E B F X₀ T hck hdp hun hret hexc
  walk_at "ct_enter"
  k_steps
  all_goals (walk_at "ct_open"; exact hret _ _ _ _ ⟨_, rfl, rfl⟩ (Ext.of (by assumption) News.nil (fun _ h => h)))
end
theorem anew_L7 : True := by
  w_top off
  k_with_none
  trivial
section -- L7
theorem kfill15 (w : World) (h : Heap) : (kfr w.params).In h → PySem.Challenge.rw_sz0076_01 = PySem.Challenge.rw_sz0076_01 → True := by
  k_fill
  intros
  trivial
theorem ite_t {b : Bool} {A B : Prop} (h : b = true) (k : A) : if b = true then A else B := by rw [if_pos h]; exact k
theorem ite_f {b : Bool} {A B : Prop} (h : b = false) (k : B) : if b = true then A else B := by rw [if_neg (by rw [h]; decide)]; exact k
end
section -- L7
theorem rows_L7_1 : True := by
  k_with_none
  k_with "ct_enter" => (refine enterC (K := kfr _) (by assumption) (by assumption) (by assumption) (by assumption) (by exact rfl) (by assumption) (by k_is) (by k_is) (by ktr_room) (by exact BindsTo.of_eq rfl) (by exact locs rfl) ?_ (by exact rfl) (by exact rfl) (by exact rfl) (by decide); k_whole; intro L' h' F' N' B' X' T'; (try dsimp only); (try k_fold))
  k_with "exec Raise some none" => (k_here; refine exec_raiseJ rfl ?_)
  k_with "RaiseJ" => (refine raiseJ_of (by assumption) (by assumption) (by assumption) (by assumption) (by assumption) ?_; k_whole)
  k_with "leaving ref" => (k_here; k_dflt (first | (refine leave_firstJ (by assumption) (by assumption) (by assumption) (by assumption) (by assumption) (by assumption) (by assumption) (by assumption) (by assumption) ?_; k_whole; intro h8 R8) | (refine leave_onJ' (by assumption) (by assumption) (by assumption) ?_; k_whole; intro h8 R8)))
  k_with "ct_open" => ((try dsimp only); (try k_unfold); (try dsimp only))
  k_with "eval Call" => (k_here; (with_reducible show wpAny _ _ (eval (Expr.Call (Expr.Name _ _) _ _ _) _) _ _ _); refine Call_ ?_)
  k_with "ite" => (first | (refine ite_t (by with_reducible assumption) ?_) | (refine ite_f (by with_reducible assumption) ?_))
  k_with "ite" => (k_dflt (first | (refine ite_pos (by first | omega | ((simp only [beq_iff_eq, decide_eq_true_eq]); omega)) ?_) | (refine ite_neg (by first | omega | ((simp only [beq_iff_eq, decide_eq_true_eq]); omega)) ?_)))
  k_with "ite" => (k_dflt (first | (refine ite_pos (by omega) ?_) | (refine ite_neg (by omega) ?_)))
  k_with "callWith" => (k_here; (with_reducible refine callWith_method1 ?_ (by with_unfolding_all exact rfl) (by with_unfolding_all exact rfl)))
  k_with "callWith ref" => (k_here; (with_reducible refine callWith_K0 (K := kfr _) (by exact Frag.In.keeps (by assumption) (Fr.keep (by assumption))) (by k_is) ?_); k_dflt (k_whole))
  trivial
variable {w : World} {p : Program} {loose : List Str} {mean : ExcName → Option Value} {mg mb : Str → Option Value}
abbrev tup2 (a b : Value) (n : Nat) : Obj := { cls := .type "tuple", data := .seq #[a, b] n }
set_option maxHeartbeats 8000000 in
theorem expo_c (t : Str) (tk : Tok) (i : Int) (ti : Tok) (h0 : 0 ≤ i) (h1 : i < 2 ^ 20) (hlen : t.length ≤ 1048576) (hx : (t.length : Int) ≤ i ∨ noIn (Str.ofString "eE") (Txt.item t i) = true) :
    Ct w p loose mean mg mb 105 5 50 [.str t tk, .int i ti] (fun v tl => ∃ D k1 k2 n, v = .ref D ∧ tl = [(D, tup2 (.int 0 k1) (.int i k2) n)]) False := by
  unfold Ct topA
  intro dp un gd cn cs a ccd outer A₀ base h₀ L m s Q E B F X₀ T hck hdp hun hret hexc
  walk_at "ct_enter"
  rcases hx with hx | hx
  all_goals k_steps
  all_goals (walk_at "ct_open"; exact hret _ _ _ _ ⟨_, _, _, _, rfl, rfl⟩ (Ext.of (by assumption) (by assumption) (fun _ h => h)))

section
variable {f : Addr} {dd uu dp un : Nat} {vs vs' : List Value} {Exc : Prop} {gd : Option (List Code)} {cn : Str} {cs : Scope} {a : Addr} {ccd : Value} {outer : List Env} {A₀ : Around} {base h₀ : Heap} {L : Addr} {m : Str → Option Value} {s : Shared} {Q E : Value → Shared → Prop} {news : List (Addr × Obj)}
def AllNe (d : Addr) : List (Addr × Obj) → Prop
  | [] => True
  | p :: r => @Ne Nat d p.1 ∧ AllNe d r
theorem AllNe.of {d : Addr} : ∀ {l : List (Addr × Obj)}, (∀ q ∈ l, d ≠ q.1) → AllNe d l
  | [], _ => trivial
  | p :: _, h => ⟨h p (.head _), AllNe.of fun q hq => h q (.tail _ hq)⟩
theorem Ct.useT2 {mk1 mk2 : Tok → Value} (C : Ct w p loose mean mg mb f dd uu vs (fun v tl => ∃ D k1 k2 n, v = .ref D ∧ tl = [(D, tup2 (mk1 k1) (mk2 k2) n)]) False) (B : Below A₀ base outer h₀) (F : Fr h₀ L s.heap m) (X : (kfr w.params).In h₀) (N : News h₀ L s.heap news) (T : Top p loose mean mg mb h₀) (hck : cs.kind = .function) (hd : dp + dd < recursionLimit) (hu : un + uu < cLine)
    (ret : ∀ D k1 k2 n h' tk', Fr h₀ L h' m → News h₀ L h' ((D, tup2 (mk1 k1) (mk2 k2) n) :: news) → AllNe D news → Q (.ref D) { s with heap := h', toks := tk' }) :
    wpAny (model PySem.Challenge.rw_sz0076_01.prog w) (topA dp un gd cn cs L a ccd outer) (call (.ref f) vs) Q E s :=
  C.useN B F X N T hck hd hu fun v tl h' tk' r F' N' l => by
    obtain ⟨D, k1, k2, n, rfl, rfl⟩ := r
    exact ret D k1 k2 n h' tk' F' N' (AllNe.of fun q hq => l _ (List.mem_singleton.mpr rfl) q hq)
theorem Ct.useVP {mk : Tok → Value} {P : Prop} (C : Ct w p loose mean mg mb f dd uu vs (fun v tl => ∃ k, v = mk k ∧ tl = []) False ∧ P) (B : Below A₀ base outer h₀) (F : Fr h₀ L s.heap m) (X : (kfr w.params).In h₀) (N : News h₀ L s.heap news) (T : Top p loose mean mg mb h₀) (hck : cs.kind = .function) (hd : dp + dd < recursionLimit) (hu : un + uu < cLine)
    (ret : P → ∀ k h' tk', Fr h₀ L h' m → News h₀ L h' news → Q (mk k) { s with heap := h', toks := tk' }) :
    wpAny (model PySem.Challenge.rw_sz0076_01.prog w) (topA dp un gd cn cs L a ccd outer) (call (.ref f) vs) Q E s := C.1.useV B F X N T hck hd hu (ret C.2)
end
theorem skp_b {t : Str} {i : Int} : i ≤ skp t i ∧ (skp t i ≤ i ∨ skp t i ≤ (t.length : Int)) := by
  unfold skp
  generalize t.length + 1 - i.toNat = n
  induction n generalizing i with
  | zero => unfold skpF; omega
  | succ n ih =>
    unfold skpF
    split
    · split
      · omega
      · have := ih (i := i + 1); omega
    · omega
theorem ren_b {t : Str} {i : Int} : i ≤ ren t i ∧ (ren t i ≤ i ∨ ren t i ≤ (t.length : Int)) := by
  unfold ren
  generalize t.length + 1 - i.toNat = n
  induction n generalizing i with
  | zero => unfold renF; omega
  | succ n ih =>
    unfold renF
    split
    · split
      · have := ih (i := i + 1); omega
      · omega
    · omega
theorem skip_u (t : Str) (tk : Tok) (i : Int) (ti : Tok) (h0 : 0 ≤ i) (h1 : i < 2 ^ 20) (hlen : t.length ≤ 1048576) :
    Ct w p loose mean mg mb 155 2 20 [.str t tk, .int i ti] (fun v tl => ∃ k, v = .int (skp t i) k ∧ tl = []) False ∧ (i ≤ skp t i ∧ (skp t i ≤ i ∨ skp t i ≤ (t.length : Int))) := ⟨skip_c t tk i ti h0 h1 hlen, skp_b⟩
theorem runend_u (t : Str) (tk : Tok) (i : Int) (ti tr : Tok) (h0 : 0 ≤ i) (h1 : i < 2 ^ 20) (hlen : t.length ≤ 1048576) :
    Ct w p loose mean mg mb 70 4 40 [.str t tk, .int i ti, .int 10 tr] (fun v tl => ∃ k, v = .int (ren t i) k ∧ tl = []) False ∧ (i ≤ ren t i ∧ (ren t i ≤ i ∨ ren t i ≤ (t.length : Int))) := ⟨runend_c t tk i ti tr h0 h1 hlen, ren_b⟩
theorem vsi {x x' : Str} {a a' : Int} {t u : Tok} (h1 : x = x') (h2 : a = a') : [Value.str x t, Value.int a u] = [Value.str x' t, Value.int a' u] := by rw [h1, h2]
theorem rows_L7_2 : True := by
  k_with "call ref" => (k_here; (with_reducible show wpAny _ _ (call (Value.ref 148) _) _ _ _); k_dflt (refine Ct.useV (mk := fun k => Value.str _ k) (sign_c _ _ _ _ (by omega) (by omega) (by omega)) (by assumption) (by assumption) (by assumption) (by assumption) (by assumption) (by exact rfl) (by ktr_room) (by ktr_units) ?_; k_whole; intro k9 h9 tk9 F9 N9; (try dsimp only)))
  k_with "call ref" => (k_here; (with_reducible show wpAny _ _ (call (Value.ref 70) _) _ _ _); k_dflt (refine Ct.useVP (mk := fun k => Value.int _ k) (runend_u _ _ _ _ _ (by omega) (by omega) (by omega)) (by assumption) (by assumption) (by assumption) (by assumption) (by assumption) (by exact rfl) (by ktr_room) (by ktr_units) ?_; k_whole; intro b9 k9 h9 tk9 F9 N9; (try dsimp only)))
  k_with "call ref" => (k_here; (with_reducible show wpAny _ _ (call (Value.ref 105) _) _ _ _); k_dflt (refine Ct.useT2 (mk1 := fun k => Value.int _ k) (mk2 := fun k => Value.int _ k) (expo_c _ _ _ _ (by omega) (by omega) (by omega) (by assumption)) (by assumption) (by assumption) (by assumption) (by assumption) (by assumption) (by exact rfl) (by ktr_room) (by ktr_units) ?_; k_whole; intro D9 a9 c9 n9 h9 tk9 F9 N9 l9; (try simp only [AllNe, and_true] at l9); (try dsimp only)))
  trivial
/-- the double that one figure tells -/
def DecOf (w : World) (p : Program) (loose : List Str) (mean : ExcName → Option Value) (mg mb : Str → Option Value) (D : Str) (bits : Int) : Prop :=
  ∀ tk ti, Ct w p loose mean mg mb 84 10 90 [.str D tk, .int 0 ti] (fun v tl => ∃ k, v = .int bits k ∧ tl = []) False
section
variable {dp un : Nat} {gd : Option (List Code)} {cn : Str} {cs : Scope} {a : Addr} {ccd : Value} {outer : List Env} {A₀ : Around} {base h₀ : Heap} {L : Addr} {m : Str → Option Value} {s : Shared} {Q E : Value → Shared → Prop} {news : List (Addr × Obj)}
theorem DecOf.use {D x : Str} {bits n : Int} {t u : Tok} (H : DecOf w p loose mean mg mb D bits) (e1 : x = D) (e2 : n = 0) (B : Below A₀ base outer h₀) (F : Fr h₀ L s.heap m) (X : (kfr w.params).In h₀) (N : News h₀ L s.heap news) (T : Top p loose mean mg mb h₀) (hck : cs.kind = .function) (hd : dp + 10 < recursionLimit) (hu : un + 90 < cLine)
    (ret : ∀ k h' tk', Fr h₀ L h' m → News h₀ L h' news → Q (.int bits k) { s with heap := h', toks := tk' }) :
    wpAny (model PySem.Challenge.rw_sz0076_01.prog w) (topA dp un gd cn cs L a ccd outer) (call (.ref 84) [.str x t, .int n u]) Q E s :=
  (Ct.cast (vsi e1 e2) (H t u)).useV B F X N T hck hd hu ret
end
theorem rows_L7_3 : True := by
  k_with "call ref" => (k_here; (with_reducible show wpAny _ _ (call (Value.ref 84) _) _ _ _); k_dflt (refine DecOf.use (by assumption) (by assumption) (by rfl) (by assumption) (by assumption) (by assumption) (by assumption) (by assumption) (by exact rfl) (by ktr_room) (by ktr_units) ?_; k_whole; intro k9 h9 tk9 F9 N9; (try dsimp only)))
  trivial
set_option maxHeartbeats 500000 in
theorem number_c (D : Str) (bits : Int) (hdec : DecOf w p loose mean mg mb D bits)
    (t : Str) (tk : Tok) (i : Int) (ti : Tok) (h0 : 0 ≤ i) (h1 : i < (t.length : Int)) (hlen : t.length ≤ 1000) (hm : (sgn t i == Str.ofString "-") = false) (hren : ren t i = i + 1) (hfig : Txt.slice t (some i) (some (ren t i)) = D) (hdot : (sgn t (ren t i) == Str.ofString ".") = false)
    (hx : (t.length : Int) ≤ ren t i ∨ noIn (Str.ofString "eE") (Txt.item t (ren t i)) = true) :
    Ct w p loose mean mg mb 162 14 130 [.str t tk, .int i ti] (fun v tl => ∃ D k1 k2 n, v = .ref D ∧ tl = [(D, tup2 (.int bits k1) (.int (ren t i) k2) n)]) False := by
  unfold Ct topA
  intro dp un gd cn cs a ccd outer A₀ base h₀ L m s Q E B F X₀ T hck hdp hun hret hexc
  walk_at "ct_enter"
  k_steps
  all_goals (walk_at "ct_open"; exact hret _ _ _ _ ⟨_, _, _, _, rfl, rfl⟩ (Ext.of (by assumption) (by assumption) (fun _ h => List.mem_cons.mpr (.inl (List.mem_singleton.mp h)))))
end
section -- PT
open PySem PySem.W PyProof.Rows PySem.Calls PySem.StrLaws
theorem sgn_in {t : Str} {j : Int} (h0 : 0 ≤ j) (h1 : j < (t.length : Int)) : ∃ c, sgn t j = ⟨#[c]⟩ ∧ Txt.item t j = ⟨#[c]⟩ ∧ t.cps[j.toNat]? = some c := by
  obtain ⟨c, hc⟩ := some_at h0 h1
  refine ⟨c, ?_, ?_, hc⟩
  · have e : sgn t j = sliceText t (some j) (some (j + 1)) := rfl
    have hl : t.cps.toList.length = t.length := by simp [Str.length]
    rw [e, sliceText_plain ⟨h0, by omega, by omega⟩]
    have hd : (t.cps.toList.drop j.toNat).take (j + 1 - j).toNat = [c] := by
      have e1 : (j + 1 - j).toNat = 1 := by omega
      have hlt : j.toNat < t.cps.toList.length := by omega
      rw [e1, List.drop_eq_getElem_cons hlt]
      have hc' : t.cps.toList[j.toNat]? = some c := by rw [Array.getElem?_toList]; exact hc
      rw [List.getElem?_eq_getElem hlt] at hc'
      rw [Option.some.inj hc']
      rfl
    rw [hd]
  · unfold Txt.item
    have e : Txt.charAt t j = some c := at_nonneg h0 hc
    rw [e]
    rfl
theorem sgn_out {t : Str} {j : Int} (h1 : (t.length : Int) ≤ j) : sgn t j = ⟨#[]⟩ := by
  have e : sgn t j = sliceText t (some j) (some (j + 1)) := rfl
  have hs : Builtin.Str.strSliceIndices (some j) (some (j + 1)) 1 t.length = [] := by
    unfold Builtin.Str.strSliceIndices sliceRange
    have a : ¬ j < 0 := by omega
    have b : ¬ j + 1 < 0 := by omega
    have c : max (0 : Int) (min j (t.length : Int)) = (t.length : Int) := by omega
    have d : max (0 : Int) (min (j + 1) (t.length : Int)) = (t.length : Int) := by omega
    simp [a, b, c, d]
  rw [e]
  unfold sliceText
  rw [hs]
  split
  · rename_i h
    have hl : t.length = 0 := by simp at h; omega
    obtain ⟨⟨l⟩⟩ := t
    cases l with
    | nil => rfl
    | cons a r => simp [Str.length] at hl
  · rfl
theorem emp : Str.ofString "" = (⟨#[]⟩ : Str) := by decide +kernel
theorem sgn_lt {t : Str} {j : Int} (h : (sgn t j == Str.ofString "") = false) : j < (t.length : Int) := by
  rcases Int.lt_or_le j (t.length : Int) with q | q
  · exact q
  · rw [sgn_out q, emp] at h
    exact absurd h (by decide)
theorem sgn_one {t : Str} {j : Int} (h0 : 0 ≤ j) (h : (sgn t j == Str.ofString "") = false) : (sgn t j).length = 1 := by
  obtain ⟨c, e, _⟩ := sgn_in h0 (sgn_lt h)
  rw [e]; rfl
theorem sgn_le {t : Str} {j : Int} (h0 : 0 ≤ j) : (sgn t j).length ≤ 1 := by
  rcases Int.lt_or_le j (t.length : Int) with q | q
  · obtain ⟨c, e, _⟩ := sgn_in h0 q
    rw [e]; exact Nat.le_refl 1
  · rw [sgn_out q]; exact Nat.zero_le 1
theorem sgn_item {t : Str} {j : Int} (h0 : 0 ≤ j) (h1 : j < (t.length : Int)) : Txt.item t j = sgn t j := by
  obtain ⟨c, e1, e2, _⟩ := sgn_in h0 h1
  rw [e1, e2]
theorem sgn_at {t : Str} {j : Int} {x : Str} (h : (sgn t j == x) = true) (hx : (x == Str.ofString "") = false) : j < (t.length : Int) := by
  refine sgn_lt ?_
  rw [eq_of_beq h]
  exact hx
end
theorem anew_L8 : True := by
  w_top off
  k_with_none
  trivial
section -- L8
theorem kfill16 (w : World) (h : Heap) : (kfr w.params).In h → PySem.Challenge.rw_sz0076_01 = PySem.Challenge.rw_sz0076_01 → True := by
  k_fill
  intros
  trivial
section
variable {w : World} {p : Program} {loose : List Str} {mean : ExcName → Option Value} {mg mb : Str → Option Value} {f : Addr} {dd uu dp un : Nat} {vs vs' : List Value} {Exc : Prop} {gd : Option (List Code)} {cn : Str} {cs : Scope} {a : Addr} {ccd : Value} {outer : List Env} {A₀ : Around} {base h₀ : Heap} {L : Addr} {m : Str → Option Value} {s : Shared} {Q E : Value → Shared → Prop}
/-- a call that ends in a SyntaxError alone -/
theorem Ct.useE (C : Ct w p loose mean mg mb f dd uu vs (fun _ _ => False) True) (B : Below A₀ base outer h₀) (F : Fr h₀ L s.heap m) (X : (kfr w.params).In h₀) (T : Top p loose mean mg mb h₀) (hck : cs.kind = .function) (hd : dp + dd < recursionLimit) (hu : un + uu < cLine)
    (exc : ∀ e h' tk', RJ 122 base s.heap (envOf cn cs L a ccd :: outer) e h' → E (.ref e) { s with heap := h', toks := tk' }) :
    wpAny (model PySem.Challenge.rw_sz0076_01.prog w) (topA dp un gd cn cs L a ccd outer) (call (.ref f) vs) Q E s :=
  C dp un gd cn cs a ccd outer A₀ base h₀ L m s Q E B F X T hck hd hu (fun _ _ _ _ r => r.elim) fun _ => exc
theorem sign_u (t : Str) (tk : Tok) (i : Int) (ti : Tok) (h0 : 0 ≤ i) (h1 : i < 2 ^ 20) (hlen : t.length ≤ 1048576) :
    Ct w p loose mean mg mb 148 2 20 [.str t tk, .int i ti] (fun v tl => ∃ k, v = .str (sgn t i) k ∧ tl = []) False ∧ (sgn t i).length ≤ 1 := ⟨sign_c t tk i ti h0 h1 hlen, sgn_le h0⟩
end
end
section -- L8
theorem rows_L8_1 : True := by
  k_with_none
  k_with "ct_enter" => (refine enterC (K := kfr _) (by assumption) (by assumption) (by assumption) (by assumption) (by exact rfl) (by assumption) (by k_is) (by k_is) (by ktr_room) (by exact BindsTo.of_eq rfl) (by exact locs rfl) ?_ (by exact rfl) (by exact rfl) (by exact rfl) (by decide); k_whole; intro L' h' F' N' B' X' T'; (try dsimp only); (try k_fold))
  k_with "exec Raise some none" => (k_here; refine exec_raiseJ rfl ?_)
  k_with "RaiseJ" => (refine raiseJ_of (by assumption) (by assumption) (by assumption) (by assumption) (by assumption) ?_; k_whole)
  k_with "leaving ref" => (k_here; k_dflt (first | (refine leave_firstJ (by assumption) (by assumption) (by assumption) (by assumption) (by assumption) (by assumption) (by assumption) (by assumption) (by assumption) ?_; k_whole; intro h8 R8) | (refine leave_onJ' (by assumption) (by assumption) (by assumption) ?_; k_whole; intro h8 R8)))
  k_with "ct_open" => ((try dsimp only); (try k_unfold); (try dsimp only))
  k_with "eval Call" => (k_here; (with_reducible show wpAny _ _ (eval (Expr.Call (Expr.Name _ _) _ _ _) _) _ _ _); refine Call_ ?_)
  k_with "ite" => (first | (refine ite_t (by with_reducible assumption) ?_) | (refine ite_f (by with_reducible assumption) ?_))
  k_with "ite" => (k_dflt (first | (refine ite_pos (by first | omega | ((simp only [beq_iff_eq, decide_eq_true_eq]); omega)) ?_) | (refine ite_neg (by first | omega | ((simp only [beq_iff_eq, decide_eq_true_eq]); omega)) ?_)))
  k_with "ite" => (k_dflt (first | (refine ite_pos (by omega) ?_) | (refine ite_neg (by omega) ?_)))
  k_with "callWith" => (k_here; (with_reducible refine callWith_method1 ?_ (by with_unfolding_all exact rfl) (by with_unfolding_all exact rfl)))
  k_with "callWith ref" => (k_here; (with_reducible refine callWith_K0 (K := kfr _) (by exact Frag.In.keeps (by assumption) (Fr.keep (by assumption))) (by k_is) ?_); k_dflt (k_whole))
  trivial
variable {w : World} {p : Program} {loose : List Str} {mean : ExcName → Option Value} {mg mb : Str → Option Value}
theorem rows_L8_2 : True := by
  k_with "call ref" => (k_here; (with_reducible show wpAny _ _ (call (Value.ref 148) _) _ _ _); k_dflt (refine Ct.useVP (mk := fun k => Value.str _ k) (sign_u _ _ _ _ (by omega) (by omega) (by omega)) (by assumption) (by assumption) (by assumption) (by assumption) (by assumption) (by exact rfl) (by ktr_room) (by ktr_units) ?_; k_whole; intro b9 k9 h9 tk9 F9 N9; (try dsimp only)))
  k_with "call ref" => (k_here; (with_reducible show wpAny _ _ (call (Value.ref 141) _) _ _ _); k_dflt (refine Ct.useE (refuse_c _ _ _ _ (by omega) (by omega) (by omega)) (by assumption) (by assumption) (by assumption) (by assumption) (by exact rfl) (by ktr_room) (by ktr_units) ?_; k_whole; intro e9 h9 tk9 R9; (try dsimp only)))
  k_with "call builtin:ord" => (k_here; k_dflt (refine ord_of_one (by exact sgn_one (by assumption) (by assumption)) ?_))
  trivial

inductive JS where
  | bad | other | ok (l : List Str) (j : Int)
def jsF (t : Str) : Nat → Int → List Str → JS
  | 0, _, _ => .other
  | f + 1, i, acc =>
    if (sgn t i == Str.ofString "\"") = true then .ok acc (i + 1)
    else if (sgn t i == Str.ofString "") = true then .bad
    else if ((sgn t i).cps.getD 0 0 : Int) < 32 then .bad
    else if (sgn t i == Str.ofString "\\") = false then jsF t f (i + 1) (acc ++ [sgn t i])
    else if (sgn t (i + 1) == Str.ofString "n") = true then (match f with | 0 => .other | g + 1 => jsF t g (i + 2) (acc ++ [Str.ofString "\n"]))
    else if (sgn t (i + 1) == Str.ofString "") = true then .bad
    else .other
theorem jsF_s (t : Str) (f : Nat) (i : Int) (acc : List Str) : jsF t (f + 1 + 1) i acc =
    if (sgn t i == Str.ofString "\"") = true then .ok acc (i + 1)
    else if (sgn t i == Str.ofString "") = true then .bad
    else if ((sgn t i).cps.getD 0 0 : Int) < 32 then .bad
    else if (sgn t i == Str.ofString "\\") = false then jsF t (f + 1) (i + 1) (acc ++ [sgn t i])
    else if (sgn t (i + 1) == Str.ofString "n") = true then jsF t f (i + 2) (acc ++ [Str.ofString "\n"])
    else if (sgn t (i + 1) == Str.ofString "") = true then .bad
    else .other := rfl
def js (t : Str) (i : Int) (acc : List Str) : JS := jsF t (t.length + 2 - i.toNat) i acc
def jstr (t : Str) (i : Int) : JS := if (sgn t i == Str.ofString "\"") = true then js t (i + 1) [] else .bad

theorem bne_f {a b : Str} (h : (a != b) = false) : (a == b) = true := by simpa [bne] using h
theorem bne_t {a b : Str} (h : (a != b) = true) : (a == b) = false := by simpa [bne] using h
section
variable {t : Str} {j : Int} {acc : List Str}
theorem js_unf (h0 : 0 ≤ j) (h1 : j ≤ (t.length : Int)) : js t j acc =
    if (sgn t j == Str.ofString "\"") = true then .ok acc (j + 1)
    else if (sgn t j == Str.ofString "") = true then .bad
    else if ((sgn t j).cps.getD 0 0 : Int) < 32 then .bad
    else if (sgn t j == Str.ofString "\\") = false then js t (j + 1) (acc ++ [sgn t j])
    else if (sgn t (j + 1) == Str.ofString "n") = true then js t (j + 2) (acc ++ [Str.ofString "\n"])
    else if (sgn t (j + 1) == Str.ofString "") = true then .bad
    else .other := by
  unfold js
  have e0 : t.length + 2 - j.toNat = (t.length - j.toNat) + 1 + 1 := by omega
  have e1 : t.length + 2 - (j + 1).toNat = (t.length - j.toNat) + 1 := by omega
  have e2 : t.length + 2 - (j + 2).toNat = t.length - j.toNat := by omega
  rw [e0, e1, e2]
  exact jsF_s t _ j acc
theorem js_end (h0 : 0 ≤ j) (h1 : j ≤ (t.length : Int)) (a : (sgn t j == Str.ofString "\"") = true) : js t j acc = .ok acc (j + 1) := by
  rw [js_unf h0 h1, if_pos a]
theorem js_bad1 (h0 : 0 ≤ j) (h1 : j ≤ (t.length : Int)) (a : (sgn t j == Str.ofString "\"") = false) (b : (sgn t j == Str.ofString "") = true) : js t j acc = .bad := by
  rw [js_unf h0 h1, if_neg (by rw [a]; decide), if_pos b]
theorem js_bad2 (h0 : 0 ≤ j) (h1 : j ≤ (t.length : Int)) (a : (sgn t j == Str.ofString "\"") = false) (c : ((sgn t j).cps.getD 0 0 : Int) < 32) : js t j acc = .bad := by
  rw [js_unf h0 h1, if_neg (by rw [a]; decide), if_pos c, ite_self]
theorem js_go (h0 : 0 ≤ j) (h1 : j ≤ (t.length : Int)) (a : (sgn t j == Str.ofString "\"") = false) (b : (sgn t j == Str.ofString "") = false) (c : ¬ ((sgn t j).cps.getD 0 0 : Int) < 32) (d : (sgn t j == Str.ofString "\\") = false) :
    js t j acc = js t (j + 1) (acc ++ [sgn t j]) := by
  rw [js_unf h0 h1, if_neg (by rw [a]; decide), if_neg (by rw [b]; decide), if_neg c, if_pos d]
theorem js_esc (h0 : 0 ≤ j) (h1 : j ≤ (t.length : Int)) (a : (sgn t j == Str.ofString "\"") = false) (b : (sgn t j == Str.ofString "") = false) (c : ¬ ((sgn t j).cps.getD 0 0 : Int) < 32) (d : (sgn t j == Str.ofString "\\") = true) (hno : js t j acc ≠ .other) :
    ((sgn t (j + 1) == Str.ofString "n") = true ∧ js t j acc = js t (j + 2) (acc ++ [Str.ofString "\n"])) ∨ ((sgn t (j + 1) == Str.ofString "") = true ∧ js t j acc = .bad) := by
  have u := js_unf (acc := acc) h0 h1
  rw [if_neg (by rw [a]; decide), if_neg (by rw [b]; decide), if_neg c, if_neg (by rw [d]; decide)] at u
  by_cases e : (sgn t (j + 1) == Str.ofString "n") = true
  · exact .inl ⟨e, by rw [u, if_pos e]⟩
  · rw [if_neg e] at u
    by_cases g : (sgn t (j + 1) == Str.ofString "") = true
    · exact .inr ⟨g, by rw [u, if_pos g]⟩
    · rw [if_neg g] at u
      exact absurd u hno
end

/-- the state of json_string's loop: the signs found, with their marks; the place -/
structure SS where
  l : List (Str × Tok)
  at_ : Int
  tk : Tok
  n : Nat
def ssLed (lf : Addr) (c : SS) : List (Addr × Obj) := [(lf, listOf (strValues c.l).toArray c.n)]
theorem led_start {g h : Heap} {L D lf : Addr} {o : Obj} (N : News g L h [(D, o), (lf, listOf #[] 0)]) : ∃ lf', lf' = lf ∧ ∀ i k, News g L h (ssLed lf' ⟨[], i, k, 0⟩) := ⟨lf, rfl, fun _ _ x hx => N x (List.mem_cons_of_mem _ hx)⟩
def ssPs (c : SS) : List (Str × Value) := [(Str.ofString "at", .int c.at_ c.tk)]
theorem sv_size {l : List (Str × Tok)} {j : Int} {t : Str} (h : (l.length : Int) ≤ j) (hj : j ≤ (t.length : Int)) (ht : t.length ≤ 1000) : (strValues l).toArray.size ≤ sizeLine := by
  have e : (strValues l).toArray.size = l.length := by simp [strValues]
  have d : 1000 ≤ sizeLine := by decide
  omega
theorem sv_push (l : List (Str × Tok)) (x : Str) (k : Tok) : (strValues l).toArray.push (.str x k) = (strValues (l ++ [(x, k)])).toArray := by simp [strValues]
theorem rows_L8_3 : True := by
  k_with "call builtin:list.append" => (k_here; k_dflt (refine append_one (by assumption) (by assumption) ?_ (by exact sv_size (by assumption) (by assumption) (by assumption)); rw [sv_push]; intro h8 F8 N8))
  trivial
def ssP (t : Str) (R : JS) (c : SS) : Prop := js t c.at_ (c.l.map (·.1)) = R ∧ 0 ≤ c.at_ ∧ c.at_ ≤ (t.length : Int) ∧ (c.l.length : Int) ≤ c.at_ ∧ (((c.l.map (·.1)).map (·.length)).sum : Int) ≤ c.at_
theorem ss_end {t : Str} {R : JS} {h₀ h' : Heap} {L lf : Addr} {s : Shared} {m₀ m' : Str → Option Value} {l : List (Str × Tok)} {j j' : Int} {tj tj' k : Tok} {n n' tk : Nat} {x : Str}
    (F : Fr h₀ L h' m') (N : News h₀ L h' [(lf, listOf (strValues (l ++ [(x, k)])).toArray n')]) (hat : m' (Str.ofString "at") = some (.int j' tj'))
    (hr : ∀ z, z ≠ Str.ofString "at" → z ≠ Str.ofString "sign" → m' z = m₀ z) (hjs : js t j' ((l.map (·.1)) ++ [x]) = R) (h0 : 0 ≤ j') (h1 : j' ≤ (t.length : Int)) (hl1 : (l.length : Int) ≤ j)
    (hl2 : (((l.map (·.1)).map (·.length)).sum : Int) ≤ j) (hx : x.length ≤ 1) (hj : j < j') (hj0 : j ≤ (t.length : Int)) :
    KswEnd h₀ L s (ssLed lf) ssPs (fun _ => True) [Str.ofString "sign"] m₀ (ssP t R) (fun c => ((t.length : Int) + 2 - c.at_).toNat) ⟨l, j, tj, n⟩ { s with heap := h', toks := tk } := by
  refine ksw_end ⟨l ++ [(x, k)], j', tj', n'⟩ F N (fun _ h => h) trivial ?_ ?_ ⟨?_, h0, h1, ?_, ?_⟩ ?_
  · intro p hp; obtain rfl := List.mem_singleton.mp hp; exact hat
  · intro z h2 h3
    refine hr z (h2 _ (List.mem_singleton.mpr rfl)) fun e => ?_
    rw [e] at h3
    exact absurd h3 (by decide +kernel)
  · show js t j' ((l ++ [(x, k)]).map (·.1)) = R
    rw [List.map_append]; exact hjs
  · show ((l ++ [(x, k)]).length : Int) ≤ j'
    rw [List.length_append]; simp only [List.length_cons, List.length_nil]; omega
  · show ((((l ++ [(x, k)]).map (·.1)).map (·.length)).sum : Int) ≤ j'
    simp only [List.map_append, List.map_cons, List.map_nil, List.sum_append, List.sum_cons, List.sum_nil] at hl2 ⊢
    omega
  · show ((t.length : Int) + 2 - j').toNat < ((t.length : Int) + 2 - j).toNat
    omega
theorem sum_cast : ∀ l : List Str, (l.map (fun x => (x.length : Int))).sum = (((l.map (·.length)).sum : Nat) : Int)
  | [] => rfl
  | a :: r => by simp only [List.map_cons, List.sum_cons, sum_cast r]; omega
theorem join_ss {A : Around} {s : Shared} {Q E : Value → Shared → Prop} {g : Heap} {L lf : Addr} {l : List (Str × Tok)} {n : Nat} {j : Int} {t : Str} {k : Tok} (N : News g L s.heap [(lf, listOf (strValues l).toArray n)])
    (h1 : (l.length : Int) ≤ j) (h2 : (((l.map (·.1)).map (·.length)).sum : Int) ≤ j) (h3 : j ≤ (t.length : Int)) (h4 : t.length ≤ 1000)
    (h : ∀ t' k', Q (.str (Txt.join (Str.ofString "") (l.map (·.1))) t') { s with toks := k' }) :
    wpAny (model PySem.Challenge.rw_sz0076_01.prog w) A (call (.builtin "str.join") [.str (Str.ofString "") k, .ref lf]) Q E s := by
  refine SC.join (l := l) ⟨_, (N _ (.head _)).1, rfl, _, rfl⟩ rfl (joinOk_of ?_) h
  have z : (Str.ofString "").length = 0 := by decide +kernel
  rw [sum_cast] at h2
  rw [z]
  omega
theorem esc_u {x : Str} (h : (x == Str.ofString "u") = true) (h2 : (x == Str.ofString "n") = true ∨ (x == Str.ofString "") = true) : False := by
  rw [eq_of_beq h] at h2
  exact absurd h2 (by decide +kernel)
abbrev inEsc (x : Str) : Bool := (decide (x = ⟨#[34]⟩) || (decide (x = ⟨#[92]⟩) || (decide (x = ⟨#[47]⟩) || (decide (x = ⟨#[98]⟩) || (decide (x = ⟨#[102]⟩) || (decide (x = ⟨#[110]⟩) || (decide (x = ⟨#[114]⟩) || (decide (x = ⟨#[116]⟩) || false))))))))
theorem esc_z {x : Str} (h : inEsc x = true) (h2 : (x == Str.ofString "") = true) : False := by
  rw [eq_of_beq h2] at h
  exact absurd h (by decide +kernel)
theorem esc_n {x : Str} (h : inEsc x = false) (h2 : (x == Str.ofString "n") = true) : False := by
  rw [eq_of_beq h2] at h
  exact absurd h (by decide +kernel)
set_option maxHeartbeats 1500000 in
theorem string_c (t : Str) (tk : Tok) (i : Int) (ti : Tok) (h0 : 0 ≤ i) (h1 : i < 2 ^ 12) (hlen : t.length ≤ 1000) (R : JS) (hR : jstr t i = R) (hno : R ≠ .other) :
    Ct w p loose mean mg mb 176 12 110 [.str t tk, .int i ti] (fun v tl => ∃ D k1 k2 n l e, R = .ok l e ∧ v = .ref D ∧ tl = [(D, tup2 (.str (Txt.join (Str.ofString "") l) k1) (.int e k2) n)]) (R = .bad) := by
  unfold Ct topA
  intro dp un gd cn cs a ccd outer A₀ base h₀ L m s Q E B F X₀ T hck hdp hun hret hexc
  walk_at "ct_enter"
  repeat' (first | ((fail_if_success (with_reducible show wpAny _ _ (exec (Stmt.While _ _ _ _) _) _ _ _)); (first | (k_unfold; (try dsimp only)) | (k_end; wrow_close) | walk1 | (dsimp only; walk1) | (leave1; try dsimp only))))
  · refine hexc ?_ _ _ _ (by assumption)
    rw [← hR, jstr, if_neg (by rw [bne_t (by assumption)]; decide)]
  · (rename Fr _ _ _ _ => F9); (rename News _ _ _ _ => N9)
    have hq : (sgn t i == Str.ofString "\"") = true := bne_f (by assumption)
    have hi : i < (t.length : Int) := sgn_at hq (by decide +kernel)
    rw [jstr, if_pos hq] at hR
    obtain ⟨lf, hlf, N8⟩ := led_start N9
    subst hlf
    refine' ksw_while (σ := SS) (ssLed lf) ssPs (fun _ => True) [Str.ofString "sign"] (ssP t R) (fun c => ((t.length : Int) + 2 - c.at_).toNat) ⟨[], i + 1, ?ka, 0⟩ F9 ?kn trivial ?hk ?hp ?turn
    case hk => intro p hp; obtain rfl := List.mem_singleton.mp hp; exact rfl
    case kn => exact N8 _ _
    case hp => exact ⟨hR, by show (0 : Int) ≤ i + 1; omega, by show i + 1 ≤ (t.length : Int); omega, by show (0 : Int) ≤ i + 1; omega, by show (0 : Int) ≤ i + 1; omega⟩
    rintro ⟨l, j, tj, n⟩ u h tk9 _ ⟨hjs, hj0, hj1, hl1, hl2⟩ hF hN
    dsimp only [ssLed, ssPs] at hF hN
    dsimp only at hjs hj0 hj1 hl1 hl2
    clear F9 N9 N8
    k_fold
    repeat' (first | ((fail_if_success (with_reducible show wpAny _ _ (call (Value.ref 169) _) _ _ _)); (fail_if_success (with_reducible show wpAny _ _ (call (Value.builtin _) _) _ _ _)); (first | (k_unfold; (try dsimp only)) | (k_end; wrow_close) | walk1 | (dsimp only; walk1) | (leave1; try dsimp only))))
    · refine hexc ?_ _ _ _ (by assumption)
      rw [← hjs]
      exact js_bad1 hj0 hj1 (bne_t (by assumption)) (by assumption)
    · walk_at "call builtin:ord"
      repeat' (first | ((fail_if_success (with_reducible show wpAny _ _ (call (Value.ref 169) _) _ _ _)); (fail_if_success (with_reducible show KswPost _ _ _ _ _ _ _ _ _ _ _ _ _ _)); (fail_if_success (with_reducible show KswEnd _ _ _ _ _ _ _ _ _ _ _ _)); (first | (k_unfold; (try dsimp only)) | (k_end; wrow_close) | walk1 | (dsimp only; walk1) | (leave1; try dsimp only))))
      · refine hexc ?_ _ _ _ (by assumption)
        rw [← hjs]
        exact js_bad2 hj0 hj1 (bne_t (by assumption)) (by assumption)
      · have hlt : j < (t.length : Int) := sgn_lt (by assumption)
        refine ss_end (by assumption) (by assumption) rfl ?_ ((js_go hj0 hj1 (bne_t (by assumption)) (by assumption) (by assumption) (bne_t (by assumption))).symm.trans hjs) (by omega) (by omega) hl1 hl2 (by assumption) (by omega) hj1
        intro z h1 h2
        simp [kstB, ssPs, h1, h2]
      · exfalso
        rcases js_esc hj0 hj1 (bne_t (by assumption)) (by assumption) (by assumption) (bne_f (by assumption)) (hjs ▸ hno) with ⟨q, _⟩ | ⟨q, _⟩
        · exact esc_u (by assumption) (.inl q)
        · exact esc_u (by assumption) (.inr q)
      · rcases js_esc hj0 hj1 (bne_t (by assumption)) (by assumption) (by assumption) (bne_f (by assumption)) (hjs ▸ hno) with ⟨q, q2⟩ | ⟨q, _⟩
        · have hlt : j + 1 < (t.length : Int) := sgn_at q (by decide +kernel)
          have hit : Txt.item t (j + 1) = Str.ofString "n" := (sgn_item (by omega) hlt).trans (eq_of_beq q)
          iterate 1 (first | (k_unfold; (try dsimp only)) | (k_end; wrow_close) | walk1 | (dsimp only; walk1) | (leave1; try dsimp only))
          rw [hit]
          repeat' (first | ((fail_if_success (with_reducible show KswEnd _ _ _ _ _ _ _ _ _ _ _ _)); (first | (k_unfold; (try dsimp only)) | (k_end; wrow_close) | walk1 | (dsimp only; walk1) | (leave1; try dsimp only))))
          refine ss_end (by assumption) (by assumption) rfl ?_ (q2.symm.trans hjs) (by omega) (by omega) hl1 hl2 (by decide +kernel) (by omega) hj1
          intro z h1 h2
          simp [kstB, ssPs, h1, h2]
        · exact (esc_z (by assumption) q).elim
      · refine hexc ?_ _ _ _ (by assumption)
        rw [← hjs]
        rcases js_esc hj0 hj1 (bne_t (by assumption)) (by assumption) (by assumption) (bne_f (by assumption)) (hjs ▸ hno) with ⟨q, _⟩ | ⟨_, q⟩
        · exact (esc_n (by assumption) q).elim
        · exact q
    · refine join_ss (by assumption) hl1 hl2 hj1 hlen ?_
      intro tj1 kj1
      try dsimp only
      k_steps
      have hend := (js_end hj0 hj1 (bne_f (by assumption))).symm.trans hjs
      all_goals (walk_at "ct_open"; exact hret _ _ _ _ ⟨_, _, _, _, _, _, hend.symm, rfl, rfl⟩ (Ext.of (by assumption) (by assumption) (fun _ h => List.mem_cons.mpr (.inl (List.mem_singleton.mp h)))))
end
theorem anew_L9 : True := by
  w_top off
  k_with_none
  trivial
section -- L9
theorem kfill17 (w : World) (h : Heap) : (kfr w.params).In h → PySem.Challenge.rw_sz0076_01 = PySem.Challenge.rw_sz0076_01 → True := by
  k_fill
  intros
  trivial
section
variable {w : World} {p : Program} {loose : List Str} {mean : ExcName → Option Value} {mg mb : Str → Option Value} {f : Addr} {dd uu dp un : Nat} {vs vs' : List Value} {Exc : Prop} {gd : Option (List Code)} {cn : Str} {cs : Scope} {a : Addr} {ccd : Value} {outer : List Env} {A₀ : Around} {base h₀ : Heap} {L : Addr} {m : Str → Option Value} {s : Shared} {Q E : Value → Shared → Prop} {news : List (Addr × Obj)}
/-- a call of json_string -/
theorem Ct.useS {R : JS} (C : Ct w p loose mean mg mb f dd uu vs (fun v tl => ∃ D k1 k2 n l e, R = .ok l e ∧ v = .ref D ∧ tl = [(D, tup2 (.str (Txt.join (Str.ofString "") l) k1) (.int e k2) n)]) (R = .bad)) (B : Below A₀ base outer h₀) (F : Fr h₀ L s.heap m) (X : (kfr w.params).In h₀) (N : News h₀ L s.heap news) (T : Top p loose mean mg mb h₀) (hck : cs.kind = .function) (hd : dp + dd < recursionLimit) (hu : un + uu < cLine)
    (ret : ∀ D k1 k2 n l e, R = .ok l e → ∀ h' tk', Fr h₀ L h' m → News h₀ L h' ((D, tup2 (.str (Txt.join (Str.ofString "") l) k1) (.int e k2) n) :: news) → AllNe D news → Q (.ref D) { s with heap := h', toks := tk' })
    (exc : R = .bad → ∀ e h' tk', RJ 122 base s.heap (envOf cn cs L a ccd :: outer) e h' → E (.ref e) { s with heap := h', toks := tk' }) :
    wpAny (model PySem.Challenge.rw_sz0076_01.prog w) (topA dp un gd cn cs L a ccd outer) (call (.ref f) vs) Q E s :=
  C.use B F X N T hck hd hu (fun v tl h' tk' r F' N' l => by
    obtain ⟨D, k1, k2, n, l9, e, hr, rfl, rfl⟩ := r
    exact ret D k1 k2 n l9 e hr h' tk' F' N' (AllNe.of fun q hq => l _ (List.mem_singleton.mpr rfl) q hq)) exc
end
end
section -- L9
theorem rows_L9_1 : True := by
  k_with_none
  k_with "ct_enter" => (refine enterC (K := kfr _) (by assumption) (by assumption) (by assumption) (by assumption) (by exact rfl) (by assumption) (by k_is) (by k_is) (by ktr_room) (by exact BindsTo.of_eq rfl) (by exact locs rfl) ?_ (by exact rfl) (by exact rfl) (by exact rfl) (by decide); k_whole; intro L' h' F' N' B' X' T'; (try dsimp only); (try k_fold))
  k_with "exec Raise some none" => (k_here; refine exec_raiseJ rfl ?_)
  k_with "RaiseJ" => (refine raiseJ_of (by assumption) (by assumption) (by assumption) (by assumption) (by assumption) ?_; k_whole)
  k_with "leaving ref" => (k_here; k_dflt (first | (refine leave_firstJ (by assumption) (by assumption) (by assumption) (by assumption) (by assumption) (by assumption) (by assumption) (by assumption) (by assumption) ?_; k_whole; intro h8 R8) | (refine leave_onJ' (by assumption) (by assumption) (by assumption) ?_; k_whole; intro h8 R8)))
  k_with "ct_open" => ((try dsimp only); (try k_unfold); (try dsimp only))
  k_with "eval Call" => (k_here; (with_reducible show wpAny _ _ (eval (Expr.Call (Expr.Name _ _) _ _ _) _) _ _ _); refine Call_ ?_)
  k_with "ite" => (first | (refine ite_t (by with_reducible assumption) ?_) | (refine ite_f (by with_reducible assumption) ?_))
  k_with "ite" => (k_dflt (first | (refine ite_pos (by first | omega | ((simp only [beq_iff_eq, decide_eq_true_eq]); omega)) ?_) | (refine ite_neg (by first | omega | ((simp only [beq_iff_eq, decide_eq_true_eq]); omega)) ?_)))
  k_with "ite" => (k_dflt (first | (refine ite_pos (by omega) ?_) | (refine ite_neg (by omega) ?_)))
  k_with "callWith" => (k_here; (with_reducible refine callWith_method1 ?_ (by with_unfolding_all exact rfl) (by with_unfolding_all exact rfl)))
  k_with "callWith ref" => (k_here; (with_reducible refine callWith_K0 (K := kfr _) (by exact Frag.In.keeps (by assumption) (Fr.keep (by assumption))) (by k_is) ?_); k_dflt (k_whole))
  trivial
variable {w : World} {p : Program} {loose : List Str} {mean : ExcName → Option Value} {mg mb : Str → Option Value}
theorem rows_L9_2 : True := by
  k_with "call ref" => (k_here; (with_reducible show wpAny _ _ (call (Value.ref 148) _) _ _ _); k_dflt (refine Ct.useVP (mk := fun k => Value.str _ k) (sign_u _ _ _ _ (by omega) (by omega) (by omega)) (by assumption) (by assumption) (by assumption) (by assumption) (by assumption) (by exact rfl) (by ktr_room) (by ktr_units) ?_; k_whole; intro b9 k9 h9 tk9 F9 N9; (try dsimp only)))
  k_with "call ref" => (k_here; (with_reducible show wpAny _ _ (call (Value.ref 141) _) _ _ _); k_dflt (refine Ct.useE (refuse_c _ _ _ _ (by omega) (by omega) (by omega)) (by assumption) (by assumption) (by assumption) (by assumption) (by exact rfl) (by ktr_room) (by ktr_units) ?_; k_whole; intro e9 h9 tk9 R9; (try dsimp only)))
  k_with "call ref" => (k_here; (with_reducible show wpAny _ _ (call (Value.ref 176) _) _ _ _); k_dflt (refine Ct.useS (string_c _ _ _ _ (by omega) (by omega) (by omega) _ (by assumption) (by assumption)) (by assumption) (by assumption) (by assumption) (by assumption) (by assumption) (by exact rfl) (by ktr_room) (by ktr_units) ?_ ?_; k_whole; (intros; (try dsimp only))))
  k_with "call ref" => (k_here; (with_reducible show wpAny _ _ (call (Value.ref 162) _) _ _ _); k_dflt (refine Ct.useT2 (mk1 := fun k => Value.int _ k) (mk2 := fun k => Value.int _ k) (number_c _ _ (by assumption) _ _ _ _ (by omega) (by omega) (by omega) (by assumption) (by assumption) (by assumption) (by assumption) (by assumption)) (by assumption) (by assumption) (by assumption) (by assumption) (by assumption) (by exact rfl) (by ktr_room) (by ktr_units) ?_; k_whole; intro D9 k91 k92 n9 h9 tk9 F9 N9 l9; (try dsimp only)))
  trivial
theorem subd {x a : Addr × Obj} {r : List (Addr × Obj)} (h : x ∈ [a, a]) : x ∈ a :: r := by
  rcases List.mem_cons.mp h with e | e
  · exact List.mem_cons.mpr (.inl e)
  · exact List.mem_cons.mpr (.inl (List.mem_singleton.mp e))
theorem sub2 {x a b : Addr × Obj} {r : List (Addr × Obj)} (h : x ∈ [a, b]) : x ∈ a :: b :: r := by
  rcases List.mem_cons.mp h with e | e
  · exact List.mem_cons.mpr (.inl e)
  · exact List.mem_cons.mpr (.inr (List.mem_cons.mpr (.inl (List.mem_singleton.mp e))))
abbrev wd4 (t : Str) (i : Int) : Str := Txt.slice t (some i) (some (i + 4))
abbrev wd5 (t : Str) (i : Int) : Str := Txt.slice t (some i) (some (i + 5))

set_option maxHeartbeats 800000 in
theorem plain_null (t : Str) (tk : Tok) (i : Int) (ti : Tok) (h0 : 0 ≤ i) (h1 : i ≤ 1000) (hlen : t.length ≤ 1000) (w1 : (wd4 t i == Str.ofString "null") = true) :
    Ct w p loose mean mg mb 183 16 150 [.str t tk, .int i ti] (fun v tl => ∃ D k n, v = .ref D ∧ tl = [(D, tup2 (.ref 127) (.int (i + 4) k) n), (D, tup2 (.ref 127) (.int (i + 4) k) n)]) False := by
  unfold Ct topA
  intro dp un gd cn cs a ccd outer A₀ base h₀ L m s Q E B F X₀ T hck hdp hun hret hexc
  walk_at "ct_enter"
  k_steps
  all_goals (walk_at "ct_open"; exact hret _ _ _ _ ⟨_, _, _, rfl, rfl⟩ (Ext.of (by assumption) (by assumption) (fun _ h => subd h)))

set_option maxHeartbeats 800000 in
theorem plain_true (t : Str) (tk : Tok) (i : Int) (ti : Tok) (h0 : 0 ≤ i) (h1 : i ≤ 1000) (hlen : t.length ≤ 1000) (w1 : (wd4 t i == Str.ofString "null") = false) (w2 : (wd4 t i == Str.ofString "true") = true) :
    Ct w p loose mean mg mb 183 16 150 [.str t tk, .int i ti] (fun v tl => ∃ D k n, v = .ref D ∧ tl = [(D, tup2 (.ref 129) (.int (i + 4) k) n), (D, tup2 (.ref 129) (.int (i + 4) k) n)]) False := by
  unfold Ct topA
  intro dp un gd cn cs a ccd outer A₀ base h₀ L m s Q E B F X₀ T hck hdp hun hret hexc
  walk_at "ct_enter"
  k_steps
  all_goals (walk_at "ct_open"; exact hret _ _ _ _ ⟨_, _, _, rfl, rfl⟩ (Ext.of (by assumption) (by assumption) (fun _ h => subd h)))

/-- a tree's value told as data, by two things: what the modules hold, and one new object -/
def Bears (w : World) (X : Addr) (oX : Obj) (T : Value) (d : PyData) : Prop := ∀ h, (kfr w.params).In h → h.get? X = some oX → ∃ as, Reads h T d as
theorem f_null (P : Params) : ∃ k n, (kfr P).lookup 127 = some (tup2 (.str (Str.ofString "null") k) .none n) := ⟨_, _, rfl⟩
theorem f_true (P : Params) : ∃ k n, (kfr P).lookup 129 = some (tup2 (.str (Str.ofString "bool") k) (.bool true) n) := ⟨_, _, rfl⟩
inductive PR where
  | bad | other | ok (d : PyData) (e : Int)
def figs : Str := Str.ofString "0123456789"
def pln (t : Str) (i : Int) : PR :=
  if (wd4 t i == Str.ofString "null") = true then .ok (.tuple [.str (Str.ofString "null"), .none]) (i + 4)
  else if (wd4 t i == Str.ofString "true") = true then .ok (.tuple [.str (Str.ofString "bool"), .bool true]) (i + 4)
  else if (wd5 t i == Str.ofString "false") = true then .other
  else if (sgn t i == Str.ofString "\"") = true then
    match jstr t i with
    | .ok l e => .ok (.tuple [.str (Str.ofString "string"), .str (Txt.join (Str.ofString "") l)]) e
    | .bad => .bad
    | .other => .other
  else if (sgn t i == Str.ofString "-") = true then .other
  else if (sgn t i == Str.ofString "") = true then .bad
  else if noIn (Str.ofString "0123456789") (Txt.item t i) = true then .bad
  else if ren t i = i + 1 ∧ (sgn t (ren t i) == Str.ofString ".") = false ∧ ((t.length : Int) ≤ ren t i ∨ noIn (Str.ofString "eE") (Txt.item t (ren t i)) = true) then
    if Txt.slice t (some i) (some (ren t i)) = Str.ofString "1" then .ok (.tuple [.str (Str.ofString "number"), .int 4607182418800017408]) (ren t i)
    else if Txt.slice t (some i) (some (ren t i)) = Str.ofString "0" then .ok (.tuple [.str (Str.ofString "number"), .int 0]) (ren t i)
    else .other
  else .other
theorem Ct.mono {f : Addr} {dd uu : Nat} {vs : List Value} {R R' : Value → List (Addr × Obj) → Prop} {X X' : Prop} (C : Ct w p loose mean mg mb f dd uu vs R X) (h1 : ∀ v tl, R v tl → R' v tl) (h2 : X → X') : Ct w p loose mean mg mb f dd uu vs R' X' := by
  unfold Ct at *
  intro dp un gd cn cs a ccd outer A₀ base h₀ L m s Q E B F X₀ T hck hdp hun hret hexc
  exact C dp un gd cn cs a ccd outer A₀ base h₀ L m s Q E B F X₀ T hck hdp hun (fun v tl h' tk' r => hret v tl h' tk' (h1 v tl r)) (fun x => hexc (h2 x))
theorem dec1 : DecOf w p loose mean mg mb (Str.ofString "1") 4607182418800017408 := fun tk ti => fromdec_c1 tk ti
theorem dec0 : DecOf w p loose mean mg mb (Str.ofString "0") 0 := fun tk ti => fromdec_c0 tk ti
theorem bears_new {X : Addr} {k : Str} {v : Value} {d : PyData} {kd : Tok} {n : Nat} (hv : ∀ h, Reads h v d []) : Bears w X (tup2 (.str k kd) v n) (.ref X) (.tuple [.str k, d]) :=
  fun h _ hx => ⟨_, reads_tuple_at hx rfl rfl (.cons (Reads.str _ _) (.cons (hv h) .nil))⟩
def PlH (w : World) (p : Program) (loose : List Str) (mean : ExcName → Option Value) (mg mb : Str → Option Value) (t : Str) (i : Int) (R : PR) : Prop :=
  (∃ J, (sgn t i == Str.ofString "\"") = true ∧ jstr t i = J ∧ J ≠ .other ∧ (∀ l e, J = .ok l e → R = .ok (.tuple [.str (Str.ofString "string"), .str (Txt.join (Str.ofString "") l)]) e) ∧ (J = .bad → R = .bad)) ∨
  ((sgn t i == Str.ofString "\"") = false ∧ (sgn t i != Str.ofString "-") = true ∧ (sgn t i == Str.ofString "") = true ∧ R = .bad) ∨
  ((sgn t i == Str.ofString "\"") = false ∧ (sgn t i != Str.ofString "-") = true ∧ (sgn t i == Str.ofString "") = false ∧ i < (t.length : Int) ∧ noIn (Str.ofString "0123456789") (Txt.item t i) = true ∧ R = .bad) ∨
  (∃ D bits, DecOf w p loose mean mg mb D bits ∧ (sgn t i == Str.ofString "\"") = false ∧ (sgn t i != Str.ofString "-") = true ∧ (sgn t i == Str.ofString "") = false ∧ i < (t.length : Int) ∧ noIn (Str.ofString "0123456789") (Txt.item t i) = false ∧
    (sgn t i == Str.ofString "-") = false ∧ ren t i = i + 1 ∧ Txt.slice t (some i) (some (ren t i)) = D ∧ (sgn t (ren t i) == Str.ofString ".") = false ∧ ((t.length : Int) ≤ ren t i ∨ noIn (Str.ofString "eE") (Txt.item t (ren t i)) = true) ∧ R = .ok (.tuple [.str (Str.ofString "number"), .int bits]) (ren t i))
set_option maxHeartbeats 2000000 in
theorem plain_rest (t : Str) (tk : Tok) (i : Int) (ti : Tok) (h0 : 0 ≤ i) (h1 : i ≤ 1000) (hlen : t.length ≤ 1000) (w1 : (wd4 t i == Str.ofString "null") = false) (w2 : (wd4 t i == Str.ofString "true") = false) (w3 : (wd5 t i == Str.ofString "false") = false) (R : PR) (H : PlH w p loose mean mg mb t i R) :
    Ct w p loose mean mg mb 183 16 150 [.str t tk, .int i ti] (fun v tl => ∃ D T k n X oX d e, R = .ok d e ∧ v = .ref D ∧ tl = [(D, tup2 (.ref T) (.int e k) n), (X, oX)] ∧ Bears w X oX (.ref T) d) (R = .bad) := by
  unfold Ct topA
  intro dp un gd cn cs a ccd outer A₀ base h₀ L m s Q E B F X₀ T hck hdp hun hret hexc
  walk_at "ct_enter"
  (repeat' (first | ((fail_if_success (with_reducible show wpAny _ _ (exec (Stmt.If (Expr.Compare (Expr.Call _ _ _ _) _ _ _) _ _ _) _) _ _ _)); (fail_if_success (with_reducible show Q _ _)); (fail_if_success (with_reducible show E _ _)); (first | (k_unfold; (try dsimp only)) | (k_end; wrow_close) | walk1 | (dsimp only; walk1) | (leave1; try dsimp only)))))
  rcases H with ⟨J, q, hj, hnj, hk, hb⟩ | ⟨q, d1, d2, hb⟩ | ⟨q, d1, d2, hit, d3, hb⟩ | ⟨D, bits, hdec, q, d1, d2, hit, d3, hm, hren, hfig, hdot, hx, hk⟩
  · k_steps
    · walk_at "ct_open"
      exact hret _ _ _ _ ⟨_, _, _, _, _, _, _, _, hk _ _ (by assumption), rfl, rfl, bears_new fun h => Reads.str _ _⟩ (Ext.of (by assumption) (by assumption) (fun _ h => sub2 h))
    · exact hexc (hb (by assumption)) _ _ _ (by assumption)
  · k_steps
    all_goals exact hexc hb _ _ _ (by assumption)
  · k_steps
    all_goals exact hexc hb _ _ _ (by assumption)
  · k_steps
    all_goals (walk_at "ct_open"; exact hret _ _ _ _ ⟨_, _, _, _, _, _, _, _, hk, rfl, rfl, bears_new fun h => Reads.int _ _⟩ (Ext.of (by assumption) (by assumption) (fun _ h => sub2 h)))
theorem plain_c (t : Str) (tk : Tok) (i : Int) (ti : Tok) (h0 : 0 ≤ i) (h1 : i ≤ 1000) (hlen : t.length ≤ 1000) (R : PR) (hR : pln t i = R) (hno : R ≠ .other) :
    Ct w p loose mean mg mb 183 16 150 [.str t tk, .int i ti] (fun v tl => ∃ D T k n X oX d e, R = .ok d e ∧ v = .ref D ∧ tl = [(D, tup2 (.ref T) (.int e k) n), (X, oX)] ∧ Bears w X oX (.ref T) d) (R = .bad) := by
  subst hR
  by_cases w1 : (wd4 t i == Str.ofString "null") = true
  · have hp : pln t i = .ok (.tuple [.str (Str.ofString "null"), .none]) (i + 4) := by unfold pln; rw [if_pos w1]
    refine (plain_null t tk i ti h0 h1 hlen w1).mono ?_ False.elim
    rintro v tl ⟨D, k, n, rfl, rfl⟩
    refine ⟨_, _, _, _, _, _, _, _, hp, rfl, rfl, fun h X _ => ?_⟩
    obtain ⟨k, n, e⟩ := f_null w.params
    exact ⟨_, reads_tuple_at (X _ _ e) rfl rfl (.cons (Reads.str _ _) (.cons Reads.none .nil))⟩
  have v1 : (wd4 t i == Str.ofString "null") = false := by simpa using w1
  by_cases w2 : (wd4 t i == Str.ofString "true") = true
  · have hp : pln t i = .ok (.tuple [.str (Str.ofString "bool"), .bool true]) (i + 4) := by unfold pln; rw [if_neg w1, if_pos w2]
    refine (plain_true t tk i ti h0 h1 hlen v1 w2).mono ?_ False.elim
    rintro v tl ⟨D, k, n, rfl, rfl⟩
    refine ⟨_, _, _, _, _, _, _, _, hp, rfl, rfl, fun h X _ => ?_⟩
    obtain ⟨k, n, e⟩ := f_true w.params
    exact ⟨_, reads_tuple_at (X _ _ e) rfl rfl (.cons (Reads.str _ _) (.cons (Reads.bool _) .nil))⟩
  have v2 : (wd4 t i == Str.ofString "true") = false := by simpa using w2
  by_cases w3 : (wd5 t i == Str.ofString "false") = true
  · exact absurd (by unfold pln; rw [if_neg w1, if_neg w2, if_pos w3]) hno
  have v3 : (wd5 t i == Str.ofString "false") = false := by simpa using w3
  by_cases q : (sgn t i == Str.ofString "\"") = true
  · have hp : pln t i = match jstr t i with
      | .ok l e => .ok (.tuple [.str (Str.ofString "string"), .str (Txt.join (Str.ofString "") l)]) e
      | .bad => .bad
      | .other => .other := by unfold pln; rw [if_neg w1, if_neg w2, if_neg w3, if_pos q]
    have hj : jstr t i ≠ .other := by
      intro z
      rw [z] at hp
      exact hno hp
    refine plain_rest t tk i ti h0 h1 hlen v1 v2 v3 _ (.inl ⟨_, q, rfl, hj, fun l e hr => ?_, fun hr => ?_⟩)
    · rw [hr] at hp; exact hp
    · rw [hr] at hp; exact hp
  have vq : (sgn t i == Str.ofString "\"") = false := by simpa using q
  by_cases m : (sgn t i == Str.ofString "-") = true
  · exact absurd (by unfold pln; rw [if_neg w1, if_neg w2, if_neg w3, if_neg q, if_pos m]) hno
  have vm : (sgn t i == Str.ofString "-") = false := by simpa using m
  have vm' : (sgn t i != Str.ofString "-") = true := by rw [bne, vm]; rfl
  by_cases z : (sgn t i == Str.ofString "") = true
  · have hp : pln t i = .bad := by unfold pln; rw [if_neg w1, if_neg w2, if_neg w3, if_neg q, if_neg m, if_pos z]
    exact plain_rest t tk i ti h0 h1 hlen v1 v2 v3 _ (.inr (.inl ⟨vq, vm', z, hp⟩))
  have vz : (sgn t i == Str.ofString "") = false := by simpa using z
  have hit : i < (t.length : Int) := sgn_lt vz
  by_cases g : noIn (Str.ofString "0123456789") (Txt.item t i) = true
  · have hp : pln t i = .bad := by unfold pln; rw [if_neg w1, if_neg w2, if_neg w3, if_neg q, if_neg m, if_neg z, if_pos g]
    exact plain_rest t tk i ti h0 h1 hlen v1 v2 v3 _ (.inr (.inr (.inl ⟨vq, vm', vz, hit, g, hp⟩)))
  have vg : noIn (Str.ofString "0123456789") (Txt.item t i) = false := by simpa only [Bool.not_eq_true] using g
  by_cases c : ren t i = i + 1 ∧ (sgn t (ren t i) == Str.ofString ".") = false ∧ ((t.length : Int) ≤ ren t i ∨ noIn (Str.ofString "eE") (Txt.item t (ren t i)) = true)
  · by_cases e1 : Txt.slice t (some i) (some (ren t i)) = Str.ofString "1"
    · have hp : pln t i = .ok (.tuple [.str (Str.ofString "number"), .int 4607182418800017408]) (ren t i) := by unfold pln; rw [if_neg w1, if_neg w2, if_neg w3, if_neg q, if_neg m, if_neg z, if_neg g, if_pos c, if_pos e1]
      exact plain_rest t tk i ti h0 h1 hlen v1 v2 v3 _ (.inr (.inr (.inr ⟨_, _, dec1, vq, vm', vz, hit, vg, vm, c.1, e1, c.2.1, c.2.2, hp⟩)))
    · by_cases e0 : Txt.slice t (some i) (some (ren t i)) = Str.ofString "0"
      · have hp : pln t i = .ok (.tuple [.str (Str.ofString "number"), .int 0]) (ren t i) := by unfold pln; rw [if_neg w1, if_neg w2, if_neg w3, if_neg q, if_neg m, if_neg z, if_neg g, if_pos c, if_neg e1, if_pos e0]
        exact plain_rest t tk i ti h0 h1 hlen v1 v2 v3 _ (.inr (.inr (.inr ⟨_, _, dec0, vq, vm', vz, hit, vg, vm, c.1, e0, c.2.1, c.2.2, hp⟩)))
      · exact absurd (by unfold pln; rw [if_neg w1, if_neg w2, if_neg w3, if_neg q, if_neg m, if_neg z, if_neg g, if_pos c, if_neg e1, if_neg e0]) hno
  · exact absurd (by unfold pln; rw [if_neg w1, if_neg w2, if_neg w3, if_neg q, if_neg m, if_neg z, if_neg g, if_neg c]) hno
end
section -- L10
theorem kfill18 (w : World) (h : Heap) : (kfr w.params).In h → PySem.Challenge.rw_sz0076_01 = PySem.Challenge.rw_sz0076_01 → True := by
  k_fill
  intros
  trivial
section
variable {w : World} {p : Program} {loose : List Str} {mean : ExcName → Option Value} {mg mb : Str → Option Value} {f : Addr} {dd uu dp un : Nat} {vs vs' : List Value} {Exc : Prop} {gd : Option (List Code)} {cn : Str} {cs : Scope} {a : Addr} {ccd : Value} {outer : List Env} {A₀ : Around} {base h₀ : Heap} {L : Addr} {m : Str → Option Value} {s : Shared} {Q E : Value → Shared → Prop} {news : List (Addr × Obj)}
/-- a call of json_plain -/
theorem Ct.useP {R : PR} (C : Ct w p loose mean mg mb f dd uu vs (fun v tl => ∃ D T k n X oX d e, R = .ok d e ∧ v = .ref D ∧ tl = [(D, tup2 (.ref T) (.int e k) n), (X, oX)] ∧ Bears w X oX (.ref T) d) (R = .bad)) (B : Below A₀ base outer h₀) (F : Fr h₀ L s.heap m) (X : (kfr w.params).In h₀) (N : News h₀ L s.heap news) (T : Top p loose mean mg mb h₀) (hck : cs.kind = .function) (hd : dp + dd < recursionLimit) (hu : un + uu < cLine)
    (ret : ∀ D T k n X oX d e, R = .ok d e → Bears w X oX (.ref T) d → ∀ h' tk', Fr h₀ L h' m → News h₀ L h' ((D, tup2 (.ref T) (.int e k) n) :: (X, oX) :: news) → AllNe D news → AllNe X news → Q (.ref D) { s with heap := h', toks := tk' })
    (exc : R = .bad → ∀ e h' tk', RJ 122 base s.heap (envOf cn cs L a ccd :: outer) e h' → E (.ref e) { s with heap := h', toks := tk' }) :
    wpAny (model PySem.Challenge.rw_sz0076_01.prog w) (topA dp un gd cn cs L a ccd outer) (call (.ref f) vs) Q E s :=
  C.use B F X N T hck hd hu (fun v tl h' tk' r F' N' l => by
    obtain ⟨D, T, k, n, X, oX, d, e, hr, rfl, rfl, hb⟩ := r
    exact ret D T k n X oX d e hr hb h' tk' F' N' (AllNe.of fun q hq => l _ (.head _) q hq) (AllNe.of fun q hq => l _ (.tail _ (.head _)) q hq)) exc
def jsSt (t : Str) (i : Int) (acc : List Str) (X Y : JS) : JS :=
    if (sgn t i == Str.ofString "\"") = true then .ok acc (i + 1)
    else if (sgn t i == Str.ofString "") = true then .bad
    else if ((sgn t i).cps.getD 0 0 : Int) < 32 then .bad
    else if (sgn t i == Str.ofString "\\") = false then X
    else if (sgn t (i + 1) == Str.ofString "n") = true then Y
    else if (sgn t (i + 1) == Str.ofString "") = true then .bad
    else .other
theorem jsF_1 (t : Str) (i : Int) (acc : List Str) : jsF t 1 i acc = jsSt t i acc .other .other := rfl
theorem jsF_2 (t : Str) (f : Nat) (i : Int) (acc : List Str) : jsF t (f + 1 + 1) i acc = jsSt t i acc (jsF t (f + 1) (i + 1) (acc ++ [sgn t i])) (jsF t f (i + 2) (acc ++ [Str.ofString "\n"])) := rfl
theorem jsSt_b {t : Str} {i : Int} {acc l : List Str} {e : Int} {X Y : JS} (h : jsSt t i acc X Y = .ok l e) (hX : X = .ok l e → i + 1 < e ∧ e ≤ (t.length : Int)) (hY : Y = .ok l e → i + 2 < e ∧ e ≤ (t.length : Int)) : i < e ∧ e ≤ (t.length : Int) := by
  unfold jsSt at h
  by_cases q : (sgn t i == Str.ofString "\"") = true
  · rw [if_pos q] at h
    cases h
    have := sgn_at q (by decide +kernel)
    omega
  rw [if_neg q] at h
  by_cases q2 : (sgn t i == Str.ofString "") = true
  · rw [if_pos q2] at h; cases h
  rw [if_neg q2] at h
  by_cases q3 : ((sgn t i).cps.getD 0 0 : Int) < 32
  · rw [if_pos q3] at h; cases h
  rw [if_neg q3] at h
  by_cases q4 : (sgn t i == Str.ofString "\\") = false
  · rw [if_pos q4] at h
    have := hX h
    omega
  rw [if_neg q4] at h
  by_cases q5 : (sgn t (i + 1) == Str.ofString "n") = true
  · rw [if_pos q5] at h
    have := hY h
    omega
  rw [if_neg q5] at h
  by_cases q6 : (sgn t (i + 1) == Str.ofString "") = true
  · rw [if_pos q6] at h; cases h
  rw [if_neg q6] at h; cases h
theorem jsF_b2 {t : Str} (f : Nat) : (∀ {i : Int} {acc l : List Str} {e : Int}, jsF t f i acc = .ok l e → i < e ∧ e ≤ (t.length : Int)) ∧ (∀ {i : Int} {acc l : List Str} {e : Int}, jsF t (f + 1) i acc = .ok l e → i < e ∧ e ≤ (t.length : Int)) := by
  induction f with
  | zero =>
    refine ⟨fun h => ?_, fun h => ?_⟩
    · rw [show jsF t 0 _ _ = .other from rfl] at h; cases h
    · rw [jsF_1] at h
      exact jsSt_b h (fun z => nomatch z) (fun z => nomatch z)
  | succ f ih =>
    refine ⟨ih.2, fun h => ?_⟩
    rw [jsF_2] at h
    exact jsSt_b h (fun z => ih.2 z) (fun z => ih.1 z)
theorem jsF_b {t : Str} (f : Nat) {i : Int} {acc l : List Str} {e : Int} (h : jsF t f i acc = .ok l e) : i < e ∧ e ≤ (t.length : Int) := (jsF_b2 f).1 h
theorem jstr_b {t : Str} {i : Int} {l : List Str} {e : Int} (h : jstr t i = .ok l e) : i < e ∧ e ≤ (t.length : Int) := by
  unfold jstr js at h
  by_cases q : (sgn t i == Str.ofString "\"") = true
  · rw [if_pos q] at h
    have := jsF_b _ h
    omega
  · rw [if_neg q] at h; cases h
theorem pln_b {t : Str} {i : Int} {d : PyData} {e : Int} (h : pln t i = .ok d e) : i ≤ e ∧ (e ≤ i + 4 ∨ e ≤ (t.length : Int)) := by
  have hr := ren_b (t := t) (i := i)
  unfold pln at h
  by_cases w1 : (wd4 t i == Str.ofString "null") = true
  · rw [if_pos w1] at h; cases h; omega
  rw [if_neg w1] at h
  by_cases w2 : (wd4 t i == Str.ofString "true") = true
  · rw [if_pos w2] at h; cases h; omega
  rw [if_neg w2] at h
  by_cases w3 : (wd5 t i == Str.ofString "false") = true
  · rw [if_pos w3] at h; cases h
  rw [if_neg w3] at h
  by_cases q : (sgn t i == Str.ofString "\"") = true
  · rw [if_pos q] at h
    rcases hj : jstr t i with _ | _ | ⟨l, e'⟩
    · rw [hj] at h; cases h
    · rw [hj] at h; cases h
    · rw [hj] at h
      cases h
      have := jstr_b hj
      omega
  rw [if_neg q] at h
  by_cases m : (sgn t i == Str.ofString "-") = true
  · rw [if_pos m] at h; cases h
  rw [if_neg m] at h
  by_cases z : (sgn t i == Str.ofString "") = true
  · rw [if_pos z] at h; cases h
  rw [if_neg z] at h
  by_cases g : noIn (Str.ofString "0123456789") (Txt.item t i) = true
  · rw [if_pos g] at h; cases h
  rw [if_neg g] at h
  split at h
  · split at h
    · cases h; omega
    · split at h
      · cases h; omega
      · cases h
  · cases h
end
end
section -- RD
def rdA3 (t : Str) (d1 d2 : PyData) (e2 : Int) : PR :=
  if (sgn t (skp t e2) == Str.ofString ",") = true then .other
  else if (sgn t (skp t e2) != Str.ofString "]") = true then .bad
  else if (sgn t (skp t (skp t e2 + 1)) != Str.ofString "") = true then .bad
  else .ok (.tuple [.str (Str.ofString "array"), .list [d1, d2]]) 0
def rdA2 (t : Str) (d1 : PyData) (e1 : Int) : PR :=
  if (sgn t (skp t e1) == Str.ofString ",") = true then
    if (sgn t (skp t (skp t e1 + 1)) == Str.ofString "[") = true then .other
    else if (sgn t (skp t (skp t e1 + 1)) == Str.ofString "{") = true then .other
    else match pln t (skp t (skp t e1 + 1)) with
      | .bad => .bad
      | .other => .other
      | .ok d2 e2 => rdA3 t d1 d2 e2
  else if (sgn t (skp t e1) != Str.ofString "]") = true then .bad else .other
def rdA1 (t : Str) : PR :=
  if (sgn t (skp t (skp t 0 + 1)) == Str.ofString "]") = true then .other
  else if (sgn t (skp t (skp t (skp t 0 + 1))) == Str.ofString "[") = true then .other
  else if (sgn t (skp t (skp t (skp t 0 + 1))) == Str.ofString "{") = true then .other
  else match pln t (skp t (skp t (skp t 0 + 1))) with
    | .bad => .bad
    | .other => .other
    | .ok d1 e1 => rdA2 t d1 e1
def rdO5 (t : Str) (l1 : List Str) (d1 : PyData) (l2 : List Str) (d2 : PyData) (e2 : Int) : PR :=
  if (sgn t (skp t e2) == Str.ofString ",") = true then .other
  else if (sgn t (skp t e2) != Str.ofString "}") = true then .bad
  else if (sgn t (skp t (skp t e2 + 1)) != Str.ofString "") = true then .bad
  else .ok (.tuple [.str (Str.ofString "object"), .list [.tuple [.str (Txt.join (Str.ofString "") l1), d1], .tuple [.str (Txt.join (Str.ofString "") l2), d2]]]) 0
def rdO4 (t : Str) (l1 : List Str) (d1 : PyData) (l2 : List Str) (e : Int) : PR :=
  if (sgn t (skp t e) != Str.ofString ":") = true then .bad
  else if (sgn t (skp t (skp t e + 1)) == Str.ofString "[") = true then .other
  else if (sgn t (skp t (skp t e + 1)) == Str.ofString "{") = true then .other
  else match pln t (skp t (skp t e + 1)) with
    | .bad => .bad
    | .other => .other
    | .ok d2 e2 => rdO5 t l1 d1 l2 d2 e2
def rdO3 (t : Str) (l1 : List Str) (d1 : PyData) (e1 : Int) : PR :=
  if (sgn t (skp t e1) == Str.ofString ",") = true then
    match jstr t (skp t (skp t e1 + 1)) with
      | .bad => .bad
      | .other => .other
      | .ok l2 e => rdO4 t l1 d1 l2 e
  else if (sgn t (skp t e1) != Str.ofString "}") = true then .bad else .other
def rdO2 (t : Str) (l1 : List Str) (e : Int) : PR :=
  if (sgn t (skp t e) != Str.ofString ":") = true then .bad
  else if (sgn t (skp t (skp t e + 1)) == Str.ofString "[") = true then .other
  else if (sgn t (skp t (skp t e + 1)) == Str.ofString "{") = true then .other
  else match pln t (skp t (skp t e + 1)) with
    | .bad => .bad
    | .other => .other
    | .ok d1 e1 => rdO3 t l1 d1 e1
def rdO1 (t : Str) : PR :=
  if (sgn t (skp t (skp t 0 + 1)) == Str.ofString "}") = true then .other
  else match jstr t (skp t (skp t (skp t 0 + 1))) with
    | .bad => .bad
    | .other => .other
    | .ok l1 e => rdO2 t l1 e
def rd (t : Str) : PR :=
  if (sgn t (skp t 0) == Str.ofString "[") = true then rdA1 t
  else if (sgn t (skp t 0) == Str.ofString "{") = true then rdO1 t
  else match pln t (skp t 0) with
    | .bad => .bad
    | _ => .other
section
variable {t : Str} {d1 d2 : PyData} {e e1 e2 : Int} {l1 l2 : List Str} {R : PR}
theorem bof {b : Bool} (h : ¬ b = true) : b = false := by simpa using h
theorem rdA1_no (h : rdA1 t = R) (hno : R ≠ .other) : (sgn t (skp t (skp t 0 + 1)) == Str.ofString "]") = false ∧ (sgn t (skp t (skp t (skp t 0 + 1))) == Str.ofString "[") = false ∧ (sgn t (skp t (skp t (skp t 0 + 1))) == Str.ofString "{") = false ∧ pln t (skp t (skp t (skp t 0 + 1))) ≠ .other ∧ (pln t (skp t (skp t (skp t 0 + 1))) = .bad → R = .bad) ∧ (∀ d e, pln t (skp t (skp t (skp t 0 + 1))) = .ok d e → rdA2 t d e = R) := by
  subst h
  unfold rdA1 at *
  split at hno
  · exact absurd rfl hno
  split at hno
  · exact absurd rfl hno
  split at hno
  · exact absurd rfl hno
  rename_i a b c
  refine ⟨bof a, bof b, bof c, fun z => hno (by rw [z]), fun z => ?_, fun d e z => ?_⟩
  · rw [if_neg a, if_neg b, if_neg c, z]
  · rw [if_neg a, if_neg b, if_neg c, z]
theorem rdA2_no (h : rdA2 t d1 e1 = R) (hno : R ≠ .other) : ((sgn t (skp t e1) == Str.ofString ",") = false ∧ (sgn t (skp t e1) != Str.ofString "]") = true ∧ R = .bad) ∨
    ((sgn t (skp t e1) == Str.ofString ",") = true ∧ (sgn t (skp t (skp t e1 + 1)) == Str.ofString "[") = false ∧ (sgn t (skp t (skp t e1 + 1)) == Str.ofString "{") = false ∧ pln t (skp t (skp t e1 + 1)) ≠ .other ∧ (pln t (skp t (skp t e1 + 1)) = .bad → R = .bad) ∧ (∀ d e, pln t (skp t (skp t e1 + 1)) = .ok d e → rdA3 t d1 d e = R)) := by
  subst h
  unfold rdA2 at *
  split at hno
  · rename_i x
    split at hno
    · exact absurd rfl hno
    split at hno
    · exact absurd rfl hno
    rename_i b c
    refine .inr ⟨x, bof b, bof c, fun z => hno (by rw [z]), fun z => ?_, fun d e z => ?_⟩
    · rw [if_pos x, if_neg b, if_neg c, z]
    · rw [if_pos x, if_neg b, if_neg c, z]
  · rename_i x
    split at hno
    · rename_i y
      exact .inl ⟨bof x, y, by rw [if_neg x, if_pos y]⟩
    · exact absurd rfl hno
theorem rdA3_no (h : rdA3 t d1 d2 e2 = R) (hno : R ≠ .other) : (sgn t (skp t e2) == Str.ofString ",") = false := by
  subst h
  unfold rdA3 at hno
  split at hno
  · exact absurd rfl hno
  · exact bof ‹_›
theorem rdA3_bad1 (h : rdA3 t d1 d2 e2 = R) (a : (sgn t (skp t e2) == Str.ofString ",") = false) (b : (sgn t (skp t e2) != Str.ofString "]") = true) : R = .bad := by
  rw [← h, rdA3, if_neg (by rw [a]; decide), if_pos b]
theorem rdA3_bad2 (h : rdA3 t d1 d2 e2 = R) (a : (sgn t (skp t e2) == Str.ofString ",") = false) (b : (sgn t (skp t e2) != Str.ofString "]") = false) (c : (sgn t (skp t (skp t e2 + 1)) != Str.ofString "") = true) : R = .bad := by
  rw [← h, rdA3, if_neg (by rw [a]; decide), if_neg (by rw [b]; decide), if_pos c]
theorem rdA3_ok (h : rdA3 t d1 d2 e2 = R) (a : (sgn t (skp t e2) == Str.ofString ",") = false) (b : (sgn t (skp t e2) != Str.ofString "]") = false) (c : (sgn t (skp t (skp t e2 + 1)) != Str.ofString "") = false) : R = .ok (.tuple [.str (Str.ofString "array"), .list [d1, d2]]) 0 := by
  rw [← h, rdA3, if_neg (by rw [a]; decide), if_neg (by rw [b]; decide), if_neg (by rw [c]; decide)]
theorem rdO1_no (h : rdO1 t = R) (hno : R ≠ .other) : (sgn t (skp t (skp t 0 + 1)) == Str.ofString "}") = false ∧ jstr t (skp t (skp t (skp t 0 + 1))) ≠ .other ∧ (jstr t (skp t (skp t (skp t 0 + 1))) = .bad → R = .bad) ∧ (∀ l e, jstr t (skp t (skp t (skp t 0 + 1))) = .ok l e → rdO2 t l e = R) := by
  subst h
  unfold rdO1 at *
  split at hno
  · exact absurd rfl hno
  rename_i a
  refine ⟨bof a, fun z => hno (by rw [z]), fun z => ?_, fun d e z => ?_⟩
  · rw [if_neg a, z]
  · rw [if_neg a, z]
theorem rdO2_no (h : rdO2 t l1 e = R) (hno : R ≠ .other) : ((sgn t (skp t e) != Str.ofString ":") = true ∧ R = .bad) ∨
    ((sgn t (skp t e) != Str.ofString ":") = false ∧ (sgn t (skp t (skp t e + 1)) == Str.ofString "[") = false ∧ (sgn t (skp t (skp t e + 1)) == Str.ofString "{") = false ∧ pln t (skp t (skp t e + 1)) ≠ .other ∧ (pln t (skp t (skp t e + 1)) = .bad → R = .bad) ∧ (∀ d e', pln t (skp t (skp t e + 1)) = .ok d e' → rdO3 t l1 d e' = R)) := by
  subst h
  unfold rdO2 at *
  split at hno
  · rename_i x
    exact .inl ⟨x, by rw [if_pos x]⟩
  rename_i x
  split at hno
  · exact absurd rfl hno
  split at hno
  · exact absurd rfl hno
  rename_i b c
  refine .inr ⟨bof x, bof b, bof c, fun z => hno (by rw [z]), fun z => ?_, fun d e z => ?_⟩
  · rw [if_neg x, if_neg b, if_neg c, z]
  · rw [if_neg x, if_neg b, if_neg c, z]
theorem rdO4_no (h : rdO4 t l1 d1 l2 e = R) (hno : R ≠ .other) : ((sgn t (skp t e) != Str.ofString ":") = true ∧ R = .bad) ∨
    ((sgn t (skp t e) != Str.ofString ":") = false ∧ (sgn t (skp t (skp t e + 1)) == Str.ofString "[") = false ∧ (sgn t (skp t (skp t e + 1)) == Str.ofString "{") = false ∧ pln t (skp t (skp t e + 1)) ≠ .other ∧ (pln t (skp t (skp t e + 1)) = .bad → R = .bad) ∧ (∀ d e', pln t (skp t (skp t e + 1)) = .ok d e' → rdO5 t l1 d1 l2 d e' = R)) := by
  subst h
  unfold rdO4 at *
  split at hno
  · rename_i x
    exact .inl ⟨x, by rw [if_pos x]⟩
  rename_i x
  split at hno
  · exact absurd rfl hno
  split at hno
  · exact absurd rfl hno
  rename_i b c
  refine .inr ⟨bof x, bof b, bof c, fun z => hno (by rw [z]), fun z => ?_, fun d e z => ?_⟩
  · rw [if_neg x, if_neg b, if_neg c, z]
  · rw [if_neg x, if_neg b, if_neg c, z]
theorem rdO3_no (h : rdO3 t l1 d1 e1 = R) (hno : R ≠ .other) : ((sgn t (skp t e1) == Str.ofString ",") = false ∧ (sgn t (skp t e1) != Str.ofString "}") = true ∧ R = .bad) ∨
    ((sgn t (skp t e1) == Str.ofString ",") = true ∧ jstr t (skp t (skp t e1 + 1)) ≠ .other ∧ (jstr t (skp t (skp t e1 + 1)) = .bad → R = .bad) ∧ (∀ l e, jstr t (skp t (skp t e1 + 1)) = .ok l e → rdO4 t l1 d1 l e = R)) := by
  subst h
  unfold rdO3 at *
  split at hno
  · rename_i x
    refine .inr ⟨x, fun z => hno (by rw [z]), fun z => ?_, fun d e z => ?_⟩
    · rw [if_pos x, z]
    · rw [if_pos x, z]
  · rename_i x
    split at hno
    · rename_i y
      exact .inl ⟨bof x, y, by rw [if_neg x, if_pos y]⟩
    · exact absurd rfl hno
theorem rdO5_no (h : rdO5 t l1 d1 l2 d2 e2 = R) (hno : R ≠ .other) : (sgn t (skp t e2) == Str.ofString ",") = false := by
  subst h
  unfold rdO5 at hno
  split at hno
  · exact absurd rfl hno
  · exact bof ‹_›
theorem rdO5_bad1 (h : rdO5 t l1 d1 l2 d2 e2 = R) (a : (sgn t (skp t e2) == Str.ofString ",") = false) (b : (sgn t (skp t e2) != Str.ofString "}") = true) : R = .bad := by
  rw [← h, rdO5, if_neg (by rw [a]; decide), if_pos b]
theorem rdO5_bad2 (h : rdO5 t l1 d1 l2 d2 e2 = R) (a : (sgn t (skp t e2) == Str.ofString ",") = false) (b : (sgn t (skp t e2) != Str.ofString "}") = false) (c : (sgn t (skp t (skp t e2 + 1)) != Str.ofString "") = true) : R = .bad := by
  rw [← h, rdO5, if_neg (by rw [a]; decide), if_neg (by rw [b]; decide), if_pos c]
theorem rdO5_ok (h : rdO5 t l1 d1 l2 d2 e2 = R) (a : (sgn t (skp t e2) == Str.ofString ",") = false) (b : (sgn t (skp t e2) != Str.ofString "}") = false) (c : (sgn t (skp t (skp t e2 + 1)) != Str.ofString "") = false) : R = .ok (.tuple [.str (Str.ofString "object"), .list [.tuple [.str (Txt.join (Str.ofString "") l1), d1], .tuple [.str (Txt.join (Str.ofString "") l2), d2]]]) 0 := by
  rw [← h, rdO5, if_neg (by rw [a]; decide), if_neg (by rw [b]; decide), if_neg (by rw [c]; decide)]
end
end
theorem anew_R1 : True := by
  w_top off
  k_with_none
  trivial
section -- R1
theorem kfill32 (w : World) (h : Heap) : (kfr w.params).In h → PySem.Challenge.rw_sz0076_01 = PySem.Challenge.rw_sz0076_01 → True := by
  k_fill
  intros
  trivial
end
section -- R1
theorem rows_R1_1 : True := by
  k_with_none
  k_with "ct_enter" => (refine enterC (K := kfr _) (by assumption) (by assumption) (by assumption) (by assumption) (by exact rfl) (by assumption) (by k_is) (by k_is) (by ktr_room) (by exact BindsTo.of_eq rfl) (by exact locs rfl) ?_ (by exact rfl) (by exact rfl) (by exact rfl) (by decide); k_whole; intro L' h' F' N' B' X' T'; (try dsimp only); (try k_fold))
  k_with "exec Raise some none" => (k_here; refine exec_raiseJ rfl ?_)
  k_with "RaiseJ" => (refine raiseJ_of (by assumption) (by assumption) (by assumption) (by assumption) (by assumption) ?_; k_whole)
  k_with "leaving ref" => (k_here; k_dflt (first | (refine leave_firstJ (by assumption) (by assumption) (by assumption) (by assumption) (by assumption) (by assumption) (by assumption) (by assumption) (by assumption) ?_; k_whole; intro h8 R8) | (refine leave_onJ' (by assumption) (by assumption) (by assumption) ?_; k_whole; intro h8 R8)))
  k_with "ct_open" => ((try dsimp only); (try k_unfold); (try dsimp only))
  k_with "eval Call" => (k_here; (with_reducible show wpAny _ _ (eval (Expr.Call (Expr.Name _ _) _ _ _) _) _ _ _); refine Call_ ?_)
  k_with "ite" => (first | (refine ite_t (by with_reducible assumption) ?_) | (refine ite_f (by with_reducible assumption) ?_))
  k_with "ite" => (k_dflt (first | (refine ite_pos (by first | omega | ((simp only [beq_iff_eq, decide_eq_true_eq]); omega)) ?_) | (refine ite_neg (by first | omega | ((simp only [beq_iff_eq, decide_eq_true_eq]); omega)) ?_)))
  k_with "ite" => (k_dflt (first | (refine ite_pos (by omega) ?_) | (refine ite_neg (by omega) ?_)))
  k_with "callWith" => (k_here; (with_reducible refine callWith_method1 ?_ (by with_unfolding_all exact rfl) (by with_unfolding_all exact rfl)))
  k_with "callWith ref" => (k_here; (with_reducible refine callWith_K0 (K := kfr _) (by exact Frag.In.keeps (by assumption) (Fr.keep (by assumption))) (by k_is) ?_); k_dflt (k_whole))
  trivial
variable {w : World} {p : Program} {loose : List Str} {mean : ExcName → Option Value} {mg mb : Str → Option Value}
theorem f_kindT (P : Params) : findIn (kfr P) (.ref 122) "kind" = some none := by kernel_rfl
theorem f_find (P : Params) {es : List DictEntry} {j : Nat} {v : Value} (h : getL "kind" es = some (some v)) : findObj (kfr P) 122 (some (dictOf es j)) "kind" = some (.value v) := by
  obtain ⟨cd, hc, _, hdict⟩ := excPlain_of (f_plain P)
  unfold findObj
  rw [hc, Option.bind_some, f_kindT P, Option.bind_some]
  simp only [Option.bind_some, PySem.W.ownOf, hdict, if_true, lookIn_dict, h]
theorem jinst {h h₀ : Heap} {L e dx : Addr} {oe : Obj} {ws : Array Value} {es : List DictEntry} {j : Nat} (N : News h₀ L h [(e, oe), (dx, dictOf es j)]) (c1 : oe.cls = .ref 122) (c2 : oe.data = .fields ws) (c3 : oe.dict = some dx) : InstAt h e oe 122 (some (dictOf es j)) := by
  refine ⟨(N (e, oe) (.head _)).1, c1, ?_, ?_⟩
  · obtain ⟨_, _, _, _⟩ := oe
    dsimp only at c2
    subst c2
    rfl
  · rw [c3]
    exact (N (dx, dictOf es j) (.tail _ (.head _))).1
theorem rows_R1_2 : True := by
  k_with "getAttr ref" => (k_here; k_dflt (refine get_exc (K := kfr _) (by exact Frag.In.keeps (by assumption) (Fr.keep (by assumption))) (by exact jinst (by assumption) (by assumption) (by assumption) (by assumption)) (f_plain _) (f_ga _) (f_gh _) (by exact f_find _ (by assumption)) (by exact rfl) ?_; k_whole))
  trivial
theorem turn_fr {h₀ g g' h' : Heap} {L L' : Addr} {m m' : Str → Option Value} {news : List (Addr × Obj)} (T : KtsTurn [L] g g') (F' : Fr g' L' h' m') (F : Fr h₀ L g m) (N : News h₀ L g news) : Fr h₀ L h' m ∧ News h₀ L h' news := by
  have nL : h₀.get? L = none := Heap.get?_none_of_le F.above
  have up : ∀ b o, b ≠ L → g.get? b = some o → h'.get? b = some o := fun b o hb e => F'.keep _ _ (T.other b o e (by simpa using hb))
  refine ⟨⟨?_, fun b o e => up b o (fun z => by rw [z, nL] at e; cases e) (F.keep b o e), F.above⟩, fun p hp => ⟨up _ _ (N p hp).2.1 (N p hp).1, (N p hp).2⟩⟩
  obtain ⟨oL, es, ep, hL, hd, r⟩ := F.ns
  obtain ⟨sl, hs⟩ := T.frame L oL hL (by simp)
  exact ⟨_, es, ep, F'.keep _ _ hs, hd, r⟩
set_option maxHeartbeats 1000000 in
theorem refused_of (t : Str) (tk : Tok) {Ret : Value → List (Addr × Obj) → Prop} (C : Ct w p loose mean mg mb 253 40 600 [.str t tk] Ret True) (hno : ∀ v tl, ¬ Ret v tl)
    (dp un : Nat) (gd : Option (List Code)) (cn : Str) (cs : Scope) (a : Addr) (ccd : Value) (A₀ : Around) (base h₀ : Heap) (L : Addr) (m : Str → Option Value) (s : Shared) (Q E : Value → Shared → Prop) (news : List (Addr × Obj))
    (B : Below A₀ base [] h₀) (F : Fr h₀ L s.heap m) (X₀ : (kfr w.params).In h₀) (N : News h₀ L s.heap news) (T : Top p loose mean mg mb h₀) (XB : (kfr w.params).In base) (TB : Top p loose mean mg mb base) (hck : cs.kind = .function) (hdp : dp + 60 < recursionLimit) (hun : un + 800 < cLine)
    (hret : ∀ h' tk', Fr h₀ L h' m → News h₀ L h' news → Q (.bool true) { s with heap := h', toks := tk' }) :
    wpAny (model PySem.Challenge.rw_sz0076_01.prog w) (topA dp un gd cn cs L a ccd []) (call (.ref 265) [.str t tk]) Q E s := by
  unfold topA
  walk_at "ct_enter"
  repeat' (first | ((fail_if_success (with_reducible show wpAny _ _ (call (Value.ref 253) _) _ _ _)); (first | (k_unfold; (try dsimp only)) | (k_end; wrow_close) | walk1 | (dsimp only; walk1) | (leave1; try dsimp only))))
  refine' Ct.use C ?k1 ?k2 ?k3 ?k4 ?k5 ?q6 ?kd ?ku ?_ ?_
  case k1 => assumption
  case k2 => assumption
  case k3 => assumption
  case k4 => assumption
  case k5 => assumption
  case q6 => exact rfl
  case kd => ktr_room
  case ku => ktr_units
  · intro v tl h9 tk9 r
    exact absurd r (hno _ _)
  intro _ e9 h9 tk9 R9
  try dsimp only
  refine' caught_J (KF := kfr w.params) R9 ?F ?K XB TB KtsTurn.refl ?ex (f_kts _) ?k ?hk ?hlo ?hx ?hd
  case F => assumption
  case K => assumption
  case ex => k_is
  case hk => exact rfl
  case hlo => exact rfl
  case hx => exact rfl
  case hd => decide
  intro h8 g8 oe ws dx es j tk8 tk7 TT F8 N8 c1 c2 c3 c4 B8 X8 T8
  repeat' (first | ((fail_if_success (with_reducible show Q _ _)); (first | (k_unfold; (try dsimp only)) | (k_end; wrow_close) | walk1 | (dsimp only; walk1) | (leave1; try dsimp only))))
  rw [show (Str.ofString "SyntaxError" == Str.ofString "SyntaxError") = true from by decide]
  obtain ⟨F1, N1⟩ := turn_fr TT (by assumption) F N
  exact hret _ _ F1 N1
end
section -- S1
/-- the heap h' holds all of h but the things at ds, and the written objects besides -/
def ExtS (h h' : Heap) (ds : List Addr) (tl : List (Addr × Obj)) : Prop := (∀ b o, b ∉ ds → h.get? b = some o → h'.get? b = some o) ∧ ∀ p ∈ tl, h'.get? p.1 = some p.2 ∧ (h.get? p.1 = none ∨ p.1 ∈ ds)
/-- what a call of the def at f does, which may write the things of pre -/
def CtS (w : World) (p : Program) (loose : List Str) (mean : ExcName → Option Value) (mg mb : Str → Option Value) (f : Addr) (dd uu : Nat) (pre : List (Addr × Obj)) (vs : List Value) (Ret : Value → List (Addr × Obj) → Prop) (Exc : Prop) : Prop :=
  ∀ (dp un : Nat) (gd : Option (List Code)) (cn : Str) (cs : Scope) (a : Addr) (ccd : Value) (outer : List Env) (A₀ : Around) (base h₀ : Heap) (L : Addr) (m : Str → Option Value) (s : Shared) (Q E : Value → Shared → Prop),
    Below A₀ base outer h₀ → Fr h₀ L s.heap m → (kfr w.params).In h₀ → Top p loose mean mg mb h₀ → News h₀ L s.heap pre → cs.kind = .function → dp + dd < recursionLimit → un + uu < cLine →
    (∀ v tl h' tk', Ret v tl → ExtS s.heap h' (pre.map (·.1)) tl → Q v { s with heap := h', toks := tk' }) →
    (Exc → ∀ e h' tk' g, g = hideAll s.heap (pre.map (·.1)) → RJ 122 base g (envOf cn cs L a ccd :: outer) e h' → E (.ref e) { s with heap := h', toks := tk' }) →
    wpAny (model PySem.Challenge.rw_sz0076_01.prog w) (topA dp un gd cn cs L a ccd outer) (call (.ref f) vs) Q E s
section
variable {h₀ g h h' : Heap} {L L' : Addr} {m m' : Str → Option Value} {news tl pre : List (Addr × Obj)} {ds : List Addr}
theorem ExtS.of (e : g = hideAll h ds) (F : Fr g L' h' m') (N : News g L' h' news) (hs : ∀ p ∈ tl, p ∈ news) : ExtS h h' ds tl := by
  subst e
  refine ⟨fun b o hb e => F.keep b o (hideAll_get _ e hb), fun p hp => ⟨(N p (hs p hp)).1, ?_⟩⟩
  by_cases q : p.1 ∈ ds
  · exact .inr q
  · refine .inl ?_
    cases e : h.get? p.1 with
    | none => rfl
    | some ob => have := (N p (hs p hp)).2.2; rw [hideAll_get _ e q] at this; cases this
theorem pre_not (F : Fr h₀ L h m) (N : News h₀ L h pre) : L ∉ pre.map (·.1) ∧ ∀ b o, h₀.get? b = some o → b ∉ pre.map (·.1) := by
  refine ⟨fun q => ?_, fun b o e q => ?_⟩
  · obtain ⟨p, hp, e⟩ := List.mem_map.mp q
    exact (N p hp).2.1 e
  · obtain ⟨p, hp, z⟩ := List.mem_map.mp q
    have := (N p hp).2.2
    rw [z, e] at this; cases this
theorem ExtS.fr (x : ExtS h h' (pre.map (·.1)) tl) (F : Fr h₀ L h m) (N : News h₀ L h pre) : Fr h₀ L h' m := by
  obtain ⟨nL, nm⟩ := pre_not F N
  obtain ⟨oL, es, ep, hL, r⟩ := F.ns
  exact ⟨⟨oL, es, ep, x.1 _ _ nL hL, r⟩, fun b ob e => x.1 b ob (nm b ob e) (F.keep b ob e), F.above⟩
theorem frHidden (F : Fr h₀ L h m) (N : News h₀ L h pre) (e : g = hideAll h (pre.map (·.1))) : Fr h₀ L g m := by
  obtain ⟨nL, nm⟩ := pre_not F N
  obtain ⟨oL, es, ep, hL, r⟩ := F.ns
  subst e
  exact ⟨⟨oL, es, ep, hideAll_get _ hL nL, r⟩, fun b ob e => hideAll_get _ (F.keep b ob e) (nm b ob e), F.above⟩
theorem ExtS.led (x : ExtS h h' (pre.map (·.1)) tl) (F : Fr h₀ L h m) (N : News h₀ L h pre) : News h₀ L h' tl := fun p hp => by
  obtain ⟨oL, _, _, hL, _⟩ := F.ns
  have y := x.2 p hp
  refine ⟨y.1, fun z => ?_, ?_⟩
  · rcases y.2 with y | y
    · rw [z, hL] at y; cases y
    · exact (pre_not F N).1 (z ▸ y)
  · rcases y.2 with y | y
    · exact kts_none F.keep y
    · cases e : h₀.get? p.1 with
      | none => rfl
      | some o => exact absurd y ((pre_not F N).2 _ _ e)
theorem ExtS.old (x : ExtS h h' (pre.map (·.1)) tl) (N : News h₀ L h news) (hn : ∀ p ∈ news, p.1 ∉ pre.map (·.1)) : News h₀ L h' news := fun p hp =>
  ⟨x.1 _ _ (hn p hp) (N p hp).1, (N p hp).2⟩
theorem News.append {n1 n2 : List (Addr × Obj)} (N1 : News h₀ L h n1) (N2 : News h₀ L h n2) : News h₀ L h (n1 ++ n2) := fun p hp => (List.mem_append.mp hp).elim (N1 p) (N2 p)
theorem News.part {n1 : List (Addr × Obj)} (N : News h₀ L h news) (hs : ∀ p ∈ n1, p ∈ news) : News h₀ L h n1 := fun p hp => N p (hs p hp)
end
section
variable {prog : Program} {w : World} {A A₀ : Around} {E : Value → Shared → Prop} {s : Shared} {K : Frag} {L : Addr} {h₀ base : Heap} {m mg mb : Str → Option Value} {p : Program} {loose : List Str} {mean : ExcName → Option Value}
/-- into a def's body, all that stands but the things of pre being the ground -/
theorem enterS {pre : List (Addr × Obj)} {cn : Str} {cs : Scope} {a : Addr} {ccd : Value} {outer : List Env} {Q : Value → Shared → Prop} {name qual : Str} {params : Arguments} {body : List Stmt} {scope : Scope} {dV kV doc pm cdv ct oc : Value} {an od : Option Addr} {osl : Array (Option Value)} {f : Addr} {args : List Value} {binds : List (Str × Value)}
    (B : Below A₀ base outer h₀) (F : Fr h₀ L s.heap m) (X₀ : K.In h₀) (T : Top p loose mean mg mb h₀) (N : News h₀ L s.heap pre) (hA : A.frames = some (envOf cn cs L a ccd :: outer)) (hck : cs.kind = .function)
    (ho : K.lookup f = some ⟨oc, od, .func (fnOf name qual params body scope dV kV doc pm an cdv ct), osl⟩) (hcd : codeIn K cdv qual = true) (hroom : A.depth < recursionLimit)
    (hbind : BindsTo s (fnOf name qual params body scope dV kV doc pm an cdv ct) ⟨args, []⟩ binds) (hloc : ∀ y ∈ binds, scope.names.lookup y.1 = some .local)
    (h : ∀ g L' h₁ tk, g = hideAll s.heap (pre.map (·.1)) → Fr g L' h₁ (fun y => binds.reverse.lookup y) → News g L' h₁ pre → Below A base (envOf cn cs L a ccd :: outer) g → K.In g → Top p loose mean mg mb g →
      wpAny (model prog w) (A.deeper (envOf qual scope L' f cdv)) (execs body (envOf qual scope L' f cdv))
        (fun fl s' => Q (match fl with | .ret v => v | _ => .none) s')
        (fun e s' => wpAny (model prog w) (A.deeper (envOf qual scope L' f cdv)) (leaving (envOf qual scope L' f cdv) e) (fun _ s'' => E e s'') (fun e' s'' => E e' s'') s')
        { s with heap := h₁, toks := tk })
    (hco : scope.isCoroutine = false) (hgen : scope.isGenerator = false) (hk : scope.kind = .function)
    (hcell : ∀ x ∈ scope.names, x.2 ≠ .cell) : wpAny (model prog w) A (call (.ref f) args) Q E s := by
  have X := X₀.keeps F.keep
  obtain ⟨nL, nm⟩ := pre_not F N
  have st : h₀.StaysIn (hideAll s.heap (pre.map (·.1))) := fun b ob e => hideAll_get _ (F.keep b ob e) (nm b ob e)
  have B₁ := B.push (name := cn) (scope := cs) (a := a) (cd := ccd) F hck
  have B₂ : Below A base (envOf cn cs L a ccd :: outer) (hideAll s.heap (pre.map (·.1))) := ⟨hA, fun b ob e => st b ob (B.stays b ob e), funFrames_hideAll B₁.frames fun env' he b hb hf' => by
    cases he with
    | head => exact nL ((Option.some.inj ((show (envOf cn cs L a ccd).frame = some L from rfl).symm.trans hf') : L = b) ▸ hb)
    | tail _ he =>
      obtain ⟨L₁, o₁, hf₁, ho₁⟩ := funFrames_in B.frames env' he
      rw [hf₁] at hf'
      exact nm L₁ o₁ ho₁ ((Option.some.inj hf' : L₁ = b) ▸ hb)⟩
  refine wpAny_call (codeAny_call_def (fd := fnOf name qual params body scope dV kV doc pm an cdv ct) (body := body) (binds := binds) hroom (X _ _ ho) rfl (T.nolimit.keeps F.keep) (codeRec_of X hcd) rfl hbind hcell hloc (fun h₁ hns hk₁ => ?_) hco hgen hk)
  refine h _ _ h₁ _ rfl ⟨hns, fun b ob e => hk₁ b ob (of_hideAll _ e), Nat.le_of_eq (hideAll_size _ _)⟩ (fun p hp => ?_) B₂ (X₀.keeps st) (T.keeps st)
  exact ⟨hk₁ _ _ (N p hp).1, Nat.ne_of_lt (Heap.lt_size (N p hp).1), hideAll_none _ (List.mem_map.mpr ⟨p, hp, rfl⟩)⟩
end
/-- the reader's own dict -/
abbrev rdr (w : World) (t : Str) (i : Int) (lw lk : Addr) (q1 tt q2 ti q3 q4 : Tok) : Obj := dictOf [⟨PyData.keyHash w.params (Str.ofString "text"), .str (Str.ofString "text") q1, .str t tt⟩, ⟨PyData.keyHash w.params (Str.ofString "at"), .str (Str.ofString "at") q2, .int i ti⟩, ⟨PyData.keyHash w.params (Str.ofString "waiting"), .str (Str.ofString "waiting") q3, .ref lw⟩, ⟨PyData.keyHash w.params (Str.ofString "keys"), .str (Str.ofString "keys") q4, .ref lk⟩] 4
end
theorem anew_S2 : True := by
  w_top off
  k_with_none
  trivial
section -- S2
theorem kfill21 (w : World) (h : Heap) : (kfr w.params).In h → PySem.Challenge.rw_sz0076_01 = PySem.Challenge.rw_sz0076_01 → True := by
  k_fill
  intros
  trivial
end
section -- S2
theorem rows_S2_1 : True := by
  k_with_none
  k_with "ct_enter" => (refine enterC (K := kfr _) (by assumption) (by assumption) (by assumption) (by assumption) (by exact rfl) (by assumption) (by k_is) (by k_is) (by ktr_room) (by exact BindsTo.of_eq rfl) (by exact locs rfl) ?_ (by exact rfl) (by exact rfl) (by exact rfl) (by decide); k_whole; intro L' h' F' N' B' X' T'; (try dsimp only); (try k_fold))
  k_with "exec Raise some none" => (k_here; refine exec_raiseJ rfl ?_)
  k_with "RaiseJ" => (refine raiseJ_of (by assumption) (by assumption) (by assumption) (by assumption) (by assumption) ?_; k_whole)
  k_with "leaving ref" => (k_here; k_dflt (first | (refine leave_firstJ (by assumption) (by assumption) (by assumption) (by assumption) (by assumption) (by assumption) (by assumption) (by assumption) (by assumption) ?_; k_whole; intro h8 R8) | (refine leave_onJ' (by assumption) (by assumption) (by assumption) ?_; k_whole; intro h8 R8)))
  k_with "ct_open" => ((try dsimp only); (try k_unfold); (try dsimp only))
  k_with "eval Call" => (k_here; (with_reducible show wpAny _ _ (eval (Expr.Call (Expr.Name _ _) _ _ _) _) _ _ _); refine Call_ ?_)
  k_with "ite" => (first | (refine ite_t (by with_reducible assumption) ?_) | (refine ite_f (by with_reducible assumption) ?_))
  k_with "ite" => (k_dflt (first | (refine ite_pos (by first | omega | ((simp only [beq_iff_eq, decide_eq_true_eq]); omega)) ?_) | (refine ite_neg (by first | omega | ((simp only [beq_iff_eq, decide_eq_true_eq]); omega)) ?_)))
  k_with "ite" => (k_dflt (first | (refine ite_pos (by omega) ?_) | (refine ite_neg (by omega) ?_)))
  k_with "callWith" => (k_here; (with_reducible refine callWith_method1 ?_ (by with_unfolding_all exact rfl) (by with_unfolding_all exact rfl)))
  k_with "callWith ref" => (k_here; (with_reducible refine callWith_K0 (K := kfr _) (by exact Frag.In.keeps (by assumption) (Fr.keep (by assumption))) (by k_is) ?_); k_dflt (k_whole))
  trivial
variable {w : World} {p : Program} {loose : List Str} {mean : ExcName → Option Value} {mg mb : Str → Option Value}
theorem rows_S2_2 : True := by
  k_with "call ref" => (k_here; (with_reducible show wpAny _ _ (call (Value.ref 148) _) _ _ _); k_dflt (refine Ct.useVP (mk := fun k => Value.str _ k) (sign_u _ _ _ _ (by omega) (by omega) (by omega)) (by assumption) (by assumption) (by assumption) (by assumption) (by assumption) (by exact rfl) (by ktr_room) (by ktr_units) ?_; k_whole; intro b9 k9 h9 tk9 F9 N9; (try dsimp only)))
  k_with "call ref" => (k_here; (with_reducible show wpAny _ _ (call (Value.ref 155) _) _ _ _); k_dflt (refine Ct.useVP (mk := fun k => Value.int _ k) (skip_u _ _ _ _ (by omega) (by omega) (by omega)) (by assumption) (by assumption) (by assumption) (by assumption) (by assumption) (by exact rfl) (by ktr_room) (by ktr_units) ?_; k_whole; intro b9 k9 h9 tk9 F9 N9; (try dsimp only)))
  k_with "call ref" => (k_here; (with_reducible show wpAny _ _ (call (Value.ref 141) _) _ _ _); k_dflt (refine Ct.useE (refuse_c _ _ _ _ (by omega) (by omega) (by omega)) (by assumption) (by assumption) (by assumption) (by assumption) (by exact rfl) (by ktr_room) (by ktr_units) ?_; k_whole; intro e9 h9 tk9 R9; (try dsimp only)))
  trivial
theorem AllNe.get {d x : Addr} {o : Obj} : ∀ {l : List (Addr × Obj)}, AllNe d l → (x, o) ∈ l → d ≠ x
  | p :: _, h, hm => by
    rcases List.mem_cons.mp hm with e | e
    · rw [← show (x, o).1 = x from rfl, e]; exact h.1
    · exact AllNe.get h.2 e
end
section
local macro_rules | `(tactic| k_ne) => `(tactic| ((try dsimp only); first | exact AllNe.get (by assumption) (by k_mem) | exact (AllNe.get (by assumption) (by k_mem)).symm | (refine neN ?_; omega)))
section
local macro_rules | `(tactic| walk_at "none such") => `(tactic| skip)
section -- S2
variable {w : World} {p : Program} {loose : List Str} {mean : ExcName → Option Value} {mg mb : Str → Option Value}
theorem rows_S2_3 : True := by
  k_with "cts_enter" => (refine enterS (K := kfr _) (by assumption) (by assumption) (by assumption) (by assumption) (by assumption) (by exact rfl) (by assumption) (by k_is) (by k_is) (by ktr_room) (by exact BindsTo.of_eq rfl) (by exact locs rfl) ?_ (by exact rfl) (by exact rfl) (by exact rfl) (by decide); k_whole; intro g' L' h' tk' hg' F' N' B' X' T'; (try dsimp only); (try k_fold))
  trivial

set_option maxHeartbeats 4000000 in
theorem skipm_c {t : Str} {i : Int} {x d lw lk : Addr} {q1 tt q2 ti q3 q4 : Tok} (hlen : t.length ≤ 100) (h0 : 0 ≤ i) (h1 : i ≤ 1000) :
    CtS w p loose mean mg mb 204 4 60 [(x, instObj 242 d), (d, rdr w t i lw lk q1 tt q2 ti q3 q4)] [.ref x] (fun v tl => ∃ k k', v = .str (sgn t (skp t i)) k ∧ tl = [(x, instObj 242 d), (d, rdr w t (skp t i) lw lk q1 tt q2 k' q3 q4)]) False := by
  unfold CtS topA
  intro dp un gd cn cs a ccd outer A₀ base h₀ L m s Q E B F X₀ T N hck hdp hun hret hexc
  have e0 : AllNe x [(d, rdr w t i lw lk q1 tt q2 ti q3 q4)] := by
    refine ⟨fun z => ?_, trivial⟩
    have a := (N _ (.head _)).1
    have b := (N _ (.tail _ (.head _))).1
    dsimp only at a b
    rw [z, b] at a
    cases a
  walk_at "cts_enter"
  (repeat' (first | ((fail_if_success (with_reducible show Q _ _)); (fail_if_success (with_reducible show E _ _)); (first | ((with_reducible show wpAny _ _ (callWith _ (Prod.fst _) _ _ _) _ _ _); dsimp only; walk1) | (k_unfold; (try dsimp only)) | (k_end; wrow_close) | walk1 | (dsimp only; walk1) | (leave1; try dsimp only)))))
  all_goals (walk_at "ct_open"; exact hret _ _ _ _ ⟨_, _, rfl, rfl⟩ (ExtS.of (by assumption) (by assumption) (by assumption) (fun _ h => h)))
end
end
theorem anew_S3 : True := by
  w_top off
  k_with_none
  trivial
section -- S3
theorem kfill22 (w : World) (h : Heap) : (kfr w.params).In h → PySem.Challenge.rw_sz0076_01 = PySem.Challenge.rw_sz0076_01 → True := by
  k_fill
  intros
  trivial
end
end
end
section
local macro_rules | `(tactic| k_ne) => `(tactic| ((try dsimp only); first | exact AllNe.get (by assumption) (by k_mem) | exact (AllNe.get (by assumption) (by k_mem)).symm | (refine neN ?_; omega)))
section
local macro_rules | `(tactic| walk_at $s:str) => `(tactic| k_extra $s)
section -- S3
theorem rows_S3_1 : True := by
  k_with_none
  k_with "ct_enter" => (refine enterC (K := kfr _) (by assumption) (by assumption) (by assumption) (by assumption) (by exact rfl) (by assumption) (by k_is) (by k_is) (by ktr_room) (by exact BindsTo.of_eq rfl) (by exact locs rfl) ?_ (by exact rfl) (by exact rfl) (by exact rfl) (by decide); k_whole; intro L' h' F' N' B' X' T'; (try dsimp only); (try k_fold))
  k_with "exec Raise some none" => (k_here; refine exec_raiseJ rfl ?_)
  k_with "RaiseJ" => (refine raiseJ_of (by assumption) (by assumption) (by assumption) (by assumption) (by assumption) ?_; k_whole)
  k_with "leaving ref" => (k_here; k_dflt (first | (refine leave_firstJ (by assumption) (by assumption) (by assumption) (by assumption) (by assumption) (by assumption) (by assumption) (by assumption) (by assumption) ?_; k_whole; intro h8 R8) | (refine leave_onJ' (by assumption) (by assumption) (by assumption) ?_; k_whole; intro h8 R8)))
  k_with "ct_open" => ((try dsimp only); (try k_unfold); (try dsimp only))
  k_with "eval Call" => (k_here; (with_reducible show wpAny _ _ (eval (Expr.Call (Expr.Name _ _) _ _ _) _) _ _ _); refine Call_ ?_)
  k_with "ite" => (first | (refine ite_t (by with_reducible assumption) ?_) | (refine ite_f (by with_reducible assumption) ?_))
  k_with "ite" => (k_dflt (first | (refine ite_pos (by first | omega | ((simp only [beq_iff_eq, decide_eq_true_eq]); omega)) ?_) | (refine ite_neg (by first | omega | ((simp only [beq_iff_eq, decide_eq_true_eq]); omega)) ?_)))
  k_with "ite" => (k_dflt (first | (refine ite_pos (by omega) ?_) | (refine ite_neg (by omega) ?_)))
  k_with "callWith" => (k_here; (with_reducible refine callWith_method1 ?_ (by with_unfolding_all exact rfl) (by with_unfolding_all exact rfl)))
  k_with "callWith ref" => (k_here; (with_reducible refine callWith_K0 (K := kfr _) (by exact Frag.In.keeps (by assumption) (Fr.keep (by assumption))) (by k_is) ?_); k_dflt (k_whole))
  k_with "call ref" => (k_here; (with_reducible show wpAny _ _ (call (Value.ref 148) _) _ _ _); k_dflt (refine Ct.useVP (mk := fun k => Value.str _ k) (sign_u _ _ _ _ (by omega) (by omega) (by omega)) (by assumption) (by assumption) (by assumption) (by assumption) (by assumption) (by exact rfl) (by ktr_room) (by ktr_units) ?_; k_whole; intro b9 k9 h9 tk9 F9 N9; (try dsimp only)))
  k_with "call ref" => (k_here; (with_reducible show wpAny _ _ (call (Value.ref 155) _) _ _ _); k_dflt (refine Ct.useVP (mk := fun k => Value.int _ k) (skip_u _ _ _ _ (by omega) (by omega) (by omega)) (by assumption) (by assumption) (by assumption) (by assumption) (by assumption) (by exact rfl) (by ktr_room) (by ktr_units) ?_; k_whole; intro b9 k9 h9 tk9 F9 N9; (try dsimp only)))
  k_with "call ref" => (k_here; (with_reducible show wpAny _ _ (call (Value.ref 141) _) _ _ _); k_dflt (refine Ct.useE (refuse_c _ _ _ _ (by omega) (by omega) (by omega)) (by assumption) (by assumption) (by assumption) (by assumption) (by exact rfl) (by ktr_room) (by ktr_units) ?_; k_whole; intro e9 h9 tk9 R9; (try dsimp only)))
  k_with "cts_enter" => (refine enterS (K := kfr _) (by assumption) (by assumption) (by assumption) (by assumption) (by assumption) (by exact rfl) (by assumption) (by k_is) (by k_is) (by ktr_room) (by exact BindsTo.of_eq rfl) (by exact locs rfl) ?_ (by exact rfl) (by exact rfl) (by exact rfl) (by decide); k_whole; intro g' L' h' tk' hg' F' N' B' X' T'; (try dsimp only); (try k_fold))
  trivial
/-- the form of a thing: two things of unlike form cannot lie at one place -/
def shp (o : Obj) : Nat := match o.data with
  | .dict .. => 0
  | .plain => 1
  | .seq .. => 2
  | _ => 3
/-- nothing of the ledger lies at d, where o lies -/
inductive Off (d : Addr) (o : Obj) : List (Addr × Obj) → Prop
  | nil : Off d o []
  | skip {p r} : Nat.beq (shp p.2) (shp o) = false → Off d o r → Off d o (p :: r)
  | ne {p r} : p.1 ≠ d → Off d o r → Off d o (p :: r)
inductive UpdS (d : Addr) (o o' : Obj) : List (Addr × Obj) → List (Addr × Obj) → Prop
  | here {r} : Off d o r → UpdS d o o' ((d, o) :: r) ((d, o') :: r)
  | skip {p r r'} : Nat.beq (shp p.2) (shp o) = false → UpdS d o o' r r' → UpdS d o o' (p :: r) (p :: r')
  | ne {p r r'} : p.1 ≠ d → UpdS d o o' r r' → UpdS d o o' (p :: r) (p :: r')
section
variable {h₀ h h' : Heap} {L d x : Addr} {o o' : Obj} {l l' : List (Addr × Obj)}
theorem shp_ne {q : Addr × Obj} (hd : h.get? d = some o) (hq : h.get? q.1 = some q.2) (e : Nat.beq (shp q.2) (shp o) = false) : q.1 ≠ d := fun z => by
  rw [z, hd] at hq
  rw [← Option.some.inj hq] at e
  exact absurd (Nat.beq_refl (shp o)) (by rw [e]; decide)
theorem Off.all (hd : h.get? d = some o) : ∀ {l : List (Addr × Obj)}, Off d o l → (∀ q ∈ l, h.get? q.1 = some q.2) → ∀ q ∈ l, q.1 ≠ d
  | _, .nil, _, _, hq => nomatch hq
  | _, .skip e r, H, q, hq => by
    rcases List.mem_cons.mp hq with z | z
    · rw [z]; exact shp_ne hd (H _ (.head _)) e
    · exact Off.all hd r (fun q hq => H q (.tail _ hq)) q z
  | _, .ne e r, H, q, hq => by
    rcases List.mem_cons.mp hq with z | z
    · rw [z]; exact e
    · exact Off.all hd r (fun q hq => H q (.tail _ hq)) q z
theorem UpdS.mem : ∀ {l l' : List (Addr × Obj)}, UpdS d o o' l l' → (d, o) ∈ l
  | _, _, .here _ => .head _
  | _, _, .skip _ r => .tail _ r.mem
  | _, _, .ne _ r => .tail _ r.mem
theorem UpdS.go (hd : h.get? d = some o) : ∀ {l l' : List (Addr × Obj)}, UpdS d o o' l l' → (∀ q ∈ l, h.get? q.1 = some q.2) → Upd d o o' l l'
  | _, _, .here r, H => .head (r.all hd fun q hq => H q (.tail _ hq))
  | _, _, .skip e r, H => .tail (shp_ne hd (H _ (.head _)) e) (r.go hd fun q hq => H q (.tail _ hq))
  | _, _, .ne e r, H => .tail e (r.go hd fun q hq => H q (.tail _ hq))
theorem UpdS.upd (N : News h₀ L h l) (U : UpdS d o o' l l') : Upd d o o' l l' := U.go (N _ U.mem).1 fun q hq => (N q hq).1
theorem updMem (U : Upd d o o' l l') : (d, o) ∈ l ∧ ∀ q ∈ l', q = (d, o') ∨ (q ∈ l ∧ q.1 ≠ d) := by
  obtain ⟨a, b, rfl, rfl, ha, hb⟩ := U.split
  refine ⟨List.mem_append.mpr (.inr (.head _)), fun q hq => ?_⟩
  rcases List.mem_append.mp hq with z | z
  · exact .inr ⟨List.mem_append.mpr (.inl z), ha q z⟩
  · rcases List.mem_cons.mp z with z | z
    · exact .inl z
    · exact .inr ⟨List.mem_append.mpr (.inr (.tail _ z)), hb q z⟩
end
end
section
local macro_rules | `(tactic| k_upd) => `(tactic| (refine' UpdS.upd ?N ?U; (case N => k_asm); (case U => walk_at "upds")))
section -- S3
theorem rows_S3_2 : True := by
  k_with "upds" => (repeat' (first | ((with_reducible show UpdS _ _ _ _ _); (first | refine UpdS.here ?_ | (refine' UpdS.skip (by exact rfl) ?_) | (refine' UpdS.ne (by k_ne) ?_))) | ((with_reducible show Off _ _ _); (first | exact Off.nil | (refine' Off.skip (by exact rfl) ?_) | (refine' Off.ne (by k_ne) ?_)))))
  trivial
section
variable {f : Addr} {dd uu dp un : Nat} {vs : List Value} {gd : Option (List Code)} {cn : Str} {cs : Scope} {a : Addr} {ccd : Value} {outer : List Env} {A₀ : Around} {base h₀ : Heap} {L : Addr} {m : Str → Option Value} {s : Shared} {Q E : Value → Shared → Prop} {news : List (Addr × Obj)} {d x : Addr}
/-- a call that writes the reader's dict alone -/
theorem CtS.useD {mk : Tok → Value} {od : Obj} {od' : Tok → Obj} (C : CtS w p loose mean mg mb f dd uu [(x, instObj 242 d), (d, od)] vs (fun v tl => ∃ k k', v = mk k ∧ tl = [(x, instObj 242 d), (d, od' k')]) False) (B : Below A₀ base outer h₀) (F : Fr h₀ L s.heap m) (X : (kfr w.params).In h₀) (N : News h₀ L s.heap news) (T : Top p loose mean mg mb h₀)
    (hx : (x, instObj 242 d) ∈ news) (hdn : (d, od) ∈ news) (hck : cs.kind = .function) (hd : dp + dd < recursionLimit) (hu : un + uu < cLine)
    (ret : ∀ k k' h' tk', Fr h₀ L h' m → (∀ news', Upd d od (od' k') news news' → News h₀ L h' news') → Q (mk k) { s with heap := h', toks := tk' }) :
    wpAny (model PySem.Challenge.rw_sz0076_01.prog w) (topA dp un gd cn cs L a ccd outer) (call (.ref f) vs) Q E s := by
  have N1 : News h₀ L s.heap [(x, instObj 242 d), (d, od)] := fun q hq => by
    rcases List.mem_cons.mp hq with z | z
    · rw [z]; exact N _ hx
    · rw [List.mem_singleton.mp z]; exact N _ hdn
  refine C dp un gd cn cs a ccd outer A₀ base h₀ L m s Q E B F X T N1 hck hd hu (fun v tl h' tk' r x' => ?_) (fun z => z.elim)
  obtain ⟨k, k', rfl, rfl⟩ := r
  refine ret k k' h' tk' (x'.fr F N1) fun news' U => fun q hq => ?_
  have L1 := x'.led F N1
  rcases (updMem U).2 q hq with z | ⟨z, ne⟩
  · rw [z]; exact L1 _ (.tail _ (.head _))
  · by_cases y : q.1 = x
    · have a := (N _ z).1
      rw [y, (N _ hx).1] at a
      have b := L1 _ (.head _)
      refine ⟨?_, (N _ z).2⟩
      rw [y, ← a]; exact b.1
    · exact ⟨x'.1 _ _ (by simp [y, ne]) (N _ z).1, (N _ z).2⟩
theorem updMemS {d : Addr} {o o' : Obj} : ∀ {l l' : List (Addr × Obj)}, UpdS d o o' l l' → ∀ q ∈ l', q = (d, o') ∨ (q ∈ l ∧ (q.1 ≠ d ∨ Nat.beq (shp q.2) (shp o) = false))
  | _, _, .here r, q, hq => by
    rcases List.mem_cons.mp hq with z | z
    · exact .inl z
    · refine .inr ⟨.tail _ z, ?_⟩
      clear hq
      induction r with
      | nil => cases z
      | skip e r ih =>
        rcases List.mem_cons.mp z with z | z
        · rw [z]; exact .inr e
        · exact ih z
      | ne e r ih =>
        rcases List.mem_cons.mp z with z | z
        · rw [z]; exact .inl e
        · exact ih z
  | _, _, .skip e r, q, hq => by
    rcases List.mem_cons.mp hq with z | z
    · rw [z]; exact .inr ⟨.head _, .inr e⟩
    · rcases updMemS r q z with y | ⟨y1, y2⟩
      · exact .inl y
      · exact .inr ⟨.tail _ y1, y2⟩
  | _, _, .ne e r, q, hq => by
    rcases List.mem_cons.mp hq with z | z
    · rw [z]; exact .inr ⟨.head _, .inl e⟩
    · rcases updMemS r q z with y | ⟨y1, y2⟩
      · exact .inl y
      · exact .inr ⟨.tail _ y1, y2⟩
/-- a call that writes the reader's dict and one list -/
theorem CtS.useL {Ret : Value → List (Addr × Obj) → Prop} {Exc : Prop} {od : Obj} {ol : Obj} {k : Addr} (C : CtS w p loose mean mg mb f dd uu [(x, instObj 242 d), (d, od), (k, ol)] vs Ret Exc) (B : Below A₀ base outer h₀) (F : Fr h₀ L s.heap m) (X : (kfr w.params).In h₀) (N : News h₀ L s.heap news) (T : Top p loose mean mg mb h₀)
    (hx : (x, instObj 242 d) ∈ news) (hdn : (d, od) ∈ news) (hkn : (k, ol) ∈ news) (hck : cs.kind = .function) (hd : dp + dd < recursionLimit) (hu : un + uu < cLine)
    (ret : ∀ v tl h' tk', Ret v tl → Fr h₀ L h' m → (∀ od' ol' n1 n2, (x, instObj 242 d) ∈ tl → (d, od') ∈ tl → (k, ol') ∈ tl → UpdS d od od' news n1 → UpdS k ol ol' n1 n2 → News h₀ L h' n2) → Q v { s with heap := h', toks := tk' })
    (exc : Exc → ∀ e h' tk' g, Fr h₀ L g m → RJ 122 base g (envOf cn cs L a ccd :: outer) e h' → E (.ref e) { s with heap := h', toks := tk' }) :
    wpAny (model PySem.Challenge.rw_sz0076_01.prog w) (topA dp un gd cn cs L a ccd outer) (call (.ref f) vs) Q E s := by
  have N1 : News h₀ L s.heap [(x, instObj 242 d), (d, od), (k, ol)] := fun q hq => by
    rcases List.mem_cons.mp hq with z | z
    · rw [z]; exact N _ hx
    · rcases List.mem_cons.mp z with z | z
      · rw [z]; exact N _ hdn
      · rw [List.mem_singleton.mp z]; exact N _ hkn
  refine C dp un gd cn cs a ccd outer A₀ base h₀ L m s Q E B F X T N1 hck hd hu (fun v tl h' tk' r x' => ?_) (fun hE e h' tk' g hg R => exc hE e h' tk' g (frHidden F N1 hg) R)
  refine ret v tl h' tk' r (x'.fr F N1) fun od' ol' n1 n2 h1 h2 h3 U1 U2 => fun q hq => ?_
  have L1 := x'.led F N1
  rcases updMemS U2 q hq with z | ⟨z, c2⟩
  · rw [z]; exact L1 _ h3
  rcases updMemS U1 q z with z | ⟨z, c1⟩
  · rw [z]; exact L1 _ h2
  · have ne : q.1 ≠ d := c1.elim id (shp_ne (N _ hdn).1 (N _ z).1)
    have ne2 : q.1 ≠ k := c2.elim id (shp_ne (N _ hkn).1 (N _ z).1)
    by_cases y : q.1 = x
    · have a := (N _ z).1
      rw [y, (N _ hx).1] at a
      have b := L1 _ h1
      refine ⟨?_, (N _ z).2⟩
      rw [y, ← a]; exact b.1
    · exact ⟨x'.1 _ _ (by simp [y, ne, ne2]) (N _ z).1, (N _ z).2⟩
/-- a call of take_key -/
theorem CtS.useT {t : Str} {i : Int} {lw k : Addr} {q1 tt q2 ti q3 q4 : Tok} {ks : Array Value} {nk : Nat}
    (C : CtS w p loose mean mg mb f dd uu [(x, instObj 242 d), (d, rdr w t i lw k q1 tt q2 ti q3 q4), (k, W.listOf ks nk)] vs
      (fun v tl => ∃ l e k1 k', v = .none ∧ jstr t (skp t i) = .ok l e ∧ (sgn t (skp t e) != Str.ofString ":") = false ∧ tl = [(x, instObj 242 d), (d, rdr w t (skp t e + 1) lw k q1 tt q2 k' q3 q4), (k, W.listOf (ks.push (.str (Txt.join (Str.ofString "") l) k1)) (nk + 1))])
      (jstr t (skp t i) = .bad ∨ ∃ l e, jstr t (skp t i) = .ok l e ∧ (sgn t (skp t e) != Str.ofString ":") = true))
    (B : Below A₀ base outer h₀) (F : Fr h₀ L s.heap m) (X : (kfr w.params).In h₀) (N : News h₀ L s.heap news) (T : Top p loose mean mg mb h₀)
    (hx : (x, instObj 242 d) ∈ news) (hdn : (d, rdr w t i lw k q1 tt q2 ti q3 q4) ∈ news) (hkn : (k, W.listOf ks nk) ∈ news) (hck : cs.kind = .function) (hd : dp + dd < recursionLimit) (hu : un + uu < cLine)
    (ret : ∀ l e k1 k' h' tk', jstr t (skp t i) = .ok l e → (sgn t (skp t e) != Str.ofString ":") = false → Fr h₀ L h' m → (∀ n1 n2, UpdS d (rdr w t i lw k q1 tt q2 ti q3 q4) (rdr w t (skp t e + 1) lw k q1 tt q2 k' q3 q4) news n1 → UpdS k (W.listOf ks nk) (W.listOf (ks.push (.str (Txt.join (Str.ofString "") l) k1)) (nk + 1)) n1 n2 → News h₀ L h' n2) → Q .none { s with heap := h', toks := tk' })
    (exc : (jstr t (skp t i) = .bad ∨ ∃ l e, jstr t (skp t i) = .ok l e ∧ (sgn t (skp t e) != Str.ofString ":") = true) → ∀ e h' tk' g, Fr h₀ L g m → RJ 122 base g (envOf cn cs L a ccd :: outer) e h' → E (.ref e) { s with heap := h', toks := tk' }) :
    wpAny (model PySem.Challenge.rw_sz0076_01.prog w) (topA dp un gd cn cs L a ccd outer) (call (.ref f) vs) Q E s :=
  C.useL B F X N T hx hdn hkn hck hd hu (fun v tl h' tk' r F' H => by
    obtain ⟨l, e, k1, k', rfl, hr, hc, rfl⟩ := r
    exact ret l e k1 k' h' tk' hr hc F' fun n1 n2 U1 U2 => H _ _ n1 n2 (.head _) (.tail _ (.head _)) (.tail _ (.tail _ (.head _))) U1 U2) exc
end
variable {w : World} {p : Program} {loose : List Str} {mean : ExcName → Option Value} {mg mb : Str → Option Value}

/-- a place in the text, at most c behind the hundredth sign -/
def Ok (c : Nat) (i : Int) : Prop := 0 ≤ i ∧ i ≤ 100 + (c : Int)
theorem Ok.zero {c : Nat} : Ok c 0 := ⟨by decide, by omega⟩
theorem Ok.skp {c : Nat} {i : Int} {t : Str} (hlen : t.length ≤ 100) (h : Ok c i) : Ok c (skp t i) := by
  have b := skp_b (t := t) (i := i)
  unfold Ok at *
  omega
theorem Ok.add {c : Nat} {i : Int} (h : Ok c i) : Ok (c + 1) (i + 1) := by
  unfold Ok at *
  omega
theorem Ok.mono {c n : Nat} {i : Int} (h : Ok c i) (hc : Nat.ble c n = true) : Ok n i := by
  have := Nat.le_of_ble_eq_true hc
  unfold Ok at *
  omega
theorem Ok.jstr {c : Nat} {i : Int} {t : Str} {l : List Str} {e : Int} (hlen : t.length ≤ 100) (h : Ok c i) (hr : jstr t i = .ok l e) : Ok 0 e := by
  have b := jstr_b hr
  unfold Ok at *
  omega
theorem Ok.pln {c : Nat} {i : Int} {t : Str} {d : PyData} {e : Int} (hlen : t.length ≤ 100) (h : Ok c i) (hr : pln t i = .ok d e) : Ok (c + 4) e := by
  have b := pln_b hr
  unfold Ok at *
  omega
theorem Ok.lo {i : Int} (h : Ok 40 i) : 0 ≤ i := h.1
theorem Ok.hi {i N : Int} (h : Ok 40 i) (hN : decide ((140 : Int) < N) = true) : i < N := by
  have := of_decide_eq_true hN
  unfold Ok at h
  omega
theorem Ok.le {i N : Int} (h : Ok 40 i) (hN : decide ((140 : Int) ≤ N) = true) : i ≤ N := by
  have := of_decide_eq_true hN
  unfold Ok at h
  omega
theorem Ok.len {t : Str} {n : Nat} (hlen : t.length ≤ 100) (hn : Nat.ble 100 n = true) : t.length ≤ n := Nat.le_trans hlen (Nat.le_of_ble_eq_true hn)
theorem skipm_u {t : Str} {i : Int} {x d lw lk : Addr} {q1 tt q2 ti q3 q4 : Tok} (hlen : t.length ≤ 100) (h0 : Ok 40 i) :
    CtS w p loose mean mg mb 204 4 60 [(x, instObj 242 d), (d, rdr w t i lw lk q1 tt q2 ti q3 q4)] [.ref x] (fun v tl => ∃ k k', v = .str (sgn t (skp t i)) k ∧ tl = [(x, instObj 242 d), (d, rdr w t (skp t i) lw lk q1 tt q2 k' q3 q4)]) False :=
  skipm_c hlen h0.1 (by unfold Ok at h0; omega)
theorem rows_S3_3 : True := by
  k_with "oks" => (repeat' (first | (with_reducible (first | exact Ok.zero | (refine Ok.skp (by assumption) ?_))) | exact Ok.mono (by with_reducible assumption) (by exact rfl) | refine Ok.add ?_))
  k_with "call ref" => (k_here; (with_reducible show wpAny _ _ (call (Value.ref 204) _) _ _ _); k_dflt (refine CtS.useD (mk := fun k => Value.str _ k) (skipm_u (by assumption) ?_) (by assumption) (by assumption) (by assumption) (by assumption) (by assumption) (by k_mem) (by k_mem) (by exact rfl) (by ktr_room) (by ktr_units) ?_; (· walk_at "oks"); k_whole; intro k9 k9' h9 tk9 F9 H9; (have N9 := H9 _ (by k_upd)); clear H9; (try dsimp only)))
  k_with "call ref" => (k_here; (with_reducible show wpAny _ _ (call (Value.ref 141) _) _ _ _); k_dflt (refine Ct.useE (refuse_c _ _ _ _ (by exact Ok.lo (by walk_at "oks")) (by first | exact Ok.hi (by walk_at "oks") (by exact rfl) | exact Ok.le (by walk_at "oks") (by exact rfl)) (by exact Ok.len (by assumption) rfl)) (by assumption) (by assumption) (by assumption) (by assumption) (by exact rfl) (by ktr_room) (by ktr_units) ?_; k_whole; intro e9 h9 tk9 R9; (try dsimp only)))
  trivial
set_option maxHeartbeats 4000000 in
theorem takekey_c {t : Str} {i : Int} {x d lw lk : Addr} {q1 tt q2 ti q3 q4 : Tok} {ks : Array Value} {nk : Nat} (hlen : t.length ≤ 100) (h0 : Ok 40 i) (hz : ks.size ≤ sizeLine) (n1 : jstr t (skp t i) ≠ .other) :
    CtS w p loose mean mg mb 211 20 400 [(x, instObj 242 d), (d, rdr w t i lw lk q1 tt q2 ti q3 q4), (lk, W.listOf ks nk)] [.ref x]
      (fun v tl => ∃ l e k k', v = .none ∧ jstr t (skp t i) = .ok l e ∧ (sgn t (skp t e) != Str.ofString ":") = false ∧ tl = [(x, instObj 242 d), (d, rdr w t (skp t e + 1) lw lk q1 tt q2 k' q3 q4), (lk, W.listOf (ks.push (.str (Txt.join (Str.ofString "") l) k)) (nk + 1))])
      (jstr t (skp t i) = .bad ∨ ∃ l e, jstr t (skp t i) = .ok l e ∧ (sgn t (skp t e) != Str.ofString ":") = true) := by
  unfold CtS topA
  intro dp un gd cn cs a ccd outer A₀ base h₀ L m s Q E B F X₀ T N hck hdp hun hret hexc
  walk_at "cts_enter"
  (repeat' (first | ((fail_if_success (with_reducible show wpAny _ _ (call (Value.ref 176) _) _ _ _)); (fail_if_success (with_reducible show Q _ _)); (fail_if_success (with_reducible show E _ _)); (first | ((with_reducible show wpAny _ _ (callWith _ (Prod.fst _) _ _ _) _ _ _); dsimp only; walk1) | (k_unfold; (try dsimp only)) | (k_end; wrow_close) | walk1 | (dsimp only; walk1) | (leave1; try dsimp only)))))
  (refine' Ct.useS (string_c _ _ _ _ ?p0 ?p1 ?p2 _ rfl n1) ?k1 ?k2 ?k3 ?k4 ?k5 ?k6 ?kd ?ku ?_ ?_; (case p0 => exact Ok.lo (by walk_at "oks")); (case p1 => first | exact Ok.hi (by walk_at "oks") (by exact rfl) | exact Ok.le (by walk_at "oks") (by exact rfl)); (case p2 => exact Ok.len (by assumption) rfl); (case k1 | k2 | k3 | k4 | k5 => assumption); (case k6 => exact rfl); (case kd => ktr_room); (case ku => ktr_units); k_whole)
  rotate_left
  · intro hbad
    intro e9 h9 tk9 R9
    (try dsimp only)
    (repeat' (first | ((fail_if_success (with_reducible show wpAny _ _ (call (Value.ref 176) _) _ _ _)); (fail_if_success (with_reducible show Q _ _)); (fail_if_success (with_reducible show E _ _)); (first | ((with_reducible show wpAny _ _ (callWith _ (Prod.fst _) _ _ _) _ _ _); dsimp only; walk1) | (k_unfold; (try dsimp only)) | (k_end; wrow_close) | walk1 | (dsimp only; walk1) | (leave1; try dsimp only)))))
    exact hexc (.inl hbad) _ _ _ _ (by assumption) (by assumption)
  intro D1 k1 k1' m1 l1 e1 hr1 h1 tk1 F1 N1 lD1
  have b1 := Ok.jstr hlen (Ok.skp hlen h0) hr1
  (repeat' (first | ((fail_if_success (with_reducible show wpAny _ _ (call (Value.ref 176) _) _ _ _)); (fail_if_success (with_reducible show Q _ _)); (fail_if_success (with_reducible show E _ _)); (first | ((with_reducible show wpAny _ _ (callWith _ (Prod.fst _) _ _ _) _ _ _); dsimp only; walk1) | (k_unfold; (try dsimp only)) | (k_end; wrow_close) | walk1 | (dsimp only; walk1) | (leave1; try dsimp only)))))
  · exact hexc (.inr ⟨_, _, hr1, by with_reducible assumption⟩) _ _ _ _ (by assumption) (by assumption)
  · walk_at "ct_open"
    exact hret _ _ _ _ ⟨_, _, _, _, rfl, hr1, by with_reducible assumption, rfl⟩ (ExtS.of (by assumption) (by assumption) (by assumption) (fun q hq => by
      rcases List.mem_cons.mp hq with z | hq
      · rw [z]; k_mem
      · rcases List.mem_cons.mp hq with z | hq
        · rw [z]; k_mem
        · rw [List.mem_singleton.mp hq]; k_mem))
end
theorem anew_S4 : True := by
  w_top off
  k_with_none
  trivial
section -- S4
theorem kfill26 (w : World) (h : Heap) : (kfr w.params).In h → PySem.Challenge.rw_sz0076_01 = PySem.Challenge.rw_sz0076_01 → True := by
  k_fill
  intros
  trivial
end
end
end
section
local macro_rules | `(tactic| k_upd) => `(tactic| (refine' UpdS.upd ?N ?U; (case N => k_asm); (case U => walk_at "upds")))
section
local macro_rules | `(tactic| walk_at $s:str) => `(tactic| k_extra $s)
section
local macro_rules | `(tactic| walk_at "none such") => `(tactic| skip)
section -- S4
theorem rows_S4_1 : True := by
  k_with_none
  k_with "ct_enter" => (refine enterC (K := kfr _) (by assumption) (by assumption) (by assumption) (by assumption) (by exact rfl) (by assumption) (by k_is) (by k_is) (by ktr_room) (by exact BindsTo.of_eq rfl) (by exact locs rfl) ?_ (by exact rfl) (by exact rfl) (by exact rfl) (by decide); k_whole; intro L' h' F' N' B' X' T'; (try dsimp only); (try k_fold))
  k_with "exec Raise some none" => (k_here; refine exec_raiseJ rfl ?_)
  k_with "RaiseJ" => (refine raiseJ_of (by assumption) (by assumption) (by assumption) (by assumption) (by assumption) ?_; k_whole)
  k_with "leaving ref" => (k_here; k_dflt (first | (refine leave_firstJ (by assumption) (by assumption) (by assumption) (by assumption) (by assumption) (by assumption) (by assumption) (by assumption) (by assumption) ?_; k_whole; intro h8 R8) | (refine leave_onJ' (by assumption) (by assumption) (by assumption) ?_; k_whole; intro h8 R8)))
  k_with "ct_open" => ((try dsimp only); (try k_unfold); (try dsimp only))
  k_with "eval Call" => (k_here; (with_reducible show wpAny _ _ (eval (Expr.Call (Expr.Name _ _) _ _ _) _) _ _ _); refine Call_ ?_)
  k_with "ite" => (first | (refine ite_t (by with_reducible assumption) ?_) | (refine ite_f (by with_reducible assumption) ?_))
  k_with "ite" => (k_dflt (first | (refine ite_pos (by first | omega | ((simp only [beq_iff_eq, decide_eq_true_eq]); omega)) ?_) | (refine ite_neg (by first | omega | ((simp only [beq_iff_eq, decide_eq_true_eq]); omega)) ?_)))
  k_with "ite" => (k_dflt (first | (refine ite_pos (by omega) ?_) | (refine ite_neg (by omega) ?_)))
  k_with "callWith" => (k_here; (with_reducible refine callWith_method1 ?_ (by with_unfolding_all exact rfl) (by with_unfolding_all exact rfl)))
  k_with "callWith ref" => (k_here; (with_reducible refine callWith_K0 (K := kfr _) (by exact Frag.In.keeps (by assumption) (Fr.keep (by assumption))) (by k_is) ?_); k_dflt (k_whole))
  k_with "call ref" => (k_here; (with_reducible show wpAny _ _ (call (Value.ref 148) _) _ _ _); k_dflt (refine Ct.useVP (mk := fun k => Value.str _ k) (sign_u _ _ _ _ (by omega) (by omega) (by omega)) (by assumption) (by assumption) (by assumption) (by assumption) (by assumption) (by exact rfl) (by ktr_room) (by ktr_units) ?_; k_whole; intro b9 k9 h9 tk9 F9 N9; (try dsimp only)))
  k_with "call ref" => (k_here; (with_reducible show wpAny _ _ (call (Value.ref 155) _) _ _ _); k_dflt (refine Ct.useVP (mk := fun k => Value.int _ k) (skip_u _ _ _ _ (by omega) (by omega) (by omega)) (by assumption) (by assumption) (by assumption) (by assumption) (by assumption) (by exact rfl) (by ktr_room) (by ktr_units) ?_; k_whole; intro b9 k9 h9 tk9 F9 N9; (try dsimp only)))
  k_with "call ref" => (k_here; (with_reducible show wpAny _ _ (call (Value.ref 141) _) _ _ _); k_dflt (refine Ct.useE (refuse_c _ _ _ _ (by omega) (by omega) (by omega)) (by assumption) (by assumption) (by assumption) (by assumption) (by exact rfl) (by ktr_room) (by ktr_units) ?_; k_whole; intro e9 h9 tk9 R9; (try dsimp only)))
  k_with "cts_enter" => (refine enterS (K := kfr _) (by assumption) (by assumption) (by assumption) (by assumption) (by assumption) (by exact rfl) (by assumption) (by k_is) (by k_is) (by ktr_room) (by exact BindsTo.of_eq rfl) (by exact locs rfl) ?_ (by exact rfl) (by exact rfl) (by exact rfl) (by decide); k_whole; intro g' L' h' tk' hg' F' N' B' X' T'; (try dsimp only); (try k_fold))
  k_with "upds" => (repeat' (first | ((with_reducible show UpdS _ _ _ _ _); (first | refine UpdS.here ?_ | (refine' UpdS.skip (by exact rfl) ?_) | (refine' UpdS.ne (by k_ne) ?_))) | ((with_reducible show Off _ _ _); (first | exact Off.nil | (refine' Off.skip (by exact rfl) ?_) | (refine' Off.ne (by k_ne) ?_)))))
  k_with "oks" => (repeat' (first | (with_reducible (first | exact Ok.zero | (refine Ok.skp (by assumption) ?_))) | exact Ok.mono (by with_reducible assumption) (by exact rfl) | refine Ok.add ?_))
  k_with "call ref" => (k_here; (with_reducible show wpAny _ _ (call (Value.ref 204) _) _ _ _); k_dflt (refine CtS.useD (mk := fun k => Value.str _ k) (skipm_u (by assumption) ?_) (by assumption) (by assumption) (by assumption) (by assumption) (by assumption) (by k_mem) (by k_mem) (by exact rfl) (by ktr_room) (by ktr_units) ?_; (· walk_at "oks"); k_whole; intro k9 k9' h9 tk9 F9 H9; (have N9 := H9 _ (by k_upd)); clear H9; (try dsimp only)))
  k_with "call ref" => (k_here; (with_reducible show wpAny _ _ (call (Value.ref 141) _) _ _ _); k_dflt (refine Ct.useE (refuse_c _ _ _ _ (by exact Ok.lo (by walk_at "oks")) (by first | exact Ok.hi (by walk_at "oks") (by exact rfl) | exact Ok.le (by walk_at "oks") (by exact rfl)) (by exact Ok.len (by assumption) rfl)) (by assumption) (by assumption) (by assumption) (by assumption) (by exact rfl) (by ktr_room) (by ktr_units) ?_; k_whole; intro e9 h9 tk9 R9; (try dsimp only)))
  trivial
variable {w : World} {p : Program} {loose : List Str} {mean : ExcName → Option Value} {mg mb : Str → Option Value}
section
variable {f : Addr} {dd uu dp un : Nat} {vs : List Value} {gd : Option (List Code)} {cn : Str} {cs : Scope} {a : Addr} {ccd : Value} {outer : List Env} {A₀ : Around} {base h₀ : Heap} {L : Addr} {m : Str → Option Value} {s : Shared} {Q E : Value → Shared → Prop} {news : List (Addr × Obj)} {d x : Addr}
/-- a call of next_tree at a plain tree -/
theorem CtS.useN {R : PR} {od : Obj} {od' : Int → Tok → Obj} (C : CtS w p loose mean mg mb f dd uu [(x, instObj 242 d), (d, od)] vs (fun v tl => ∃ T X oX d' e k', R = .ok d' e ∧ v = .ref T ∧ tl = [(x, instObj 242 d), (d, od' e k'), (X, oX)] ∧ AllNe X [(x, instObj 242 d), (d, od)] ∧ Bears w X oX (.ref T) d') (R = .bad))
    (B : Below A₀ base outer h₀) (F : Fr h₀ L s.heap m) (X : (kfr w.params).In h₀) (N : News h₀ L s.heap news) (T : Top p loose mean mg mb h₀) (hx : (x, instObj 242 d) ∈ news) (hdn : (d, od) ∈ news) (hck : cs.kind = .function) (hd : dp + dd < recursionLimit) (hu : un + uu < cLine)
    (ret : ∀ T X oX d' e k', R = .ok d' e → Bears w X oX (.ref T) d' → ∀ h' tk', Fr h₀ L h' m → (∀ n1, UpdS d od (od' e k') news n1 → News h₀ L h' ((X, oX) :: n1)) → AllNe X news → Q (.ref T) { s with heap := h', toks := tk' })
    (exc : R = .bad → ∀ e h' tk' g, Fr h₀ L g m → RJ 122 base g (envOf cn cs L a ccd :: outer) e h' → E (.ref e) { s with heap := h', toks := tk' }) :
    wpAny (model PySem.Challenge.rw_sz0076_01.prog w) (topA dp un gd cn cs L a ccd outer) (call (.ref f) vs) Q E s := by
  have N1 : News h₀ L s.heap [(x, instObj 242 d), (d, od)] := fun q hq => by
    rcases List.mem_cons.mp hq with z | z
    · rw [z]; exact N _ hx
    · rw [List.mem_singleton.mp z]; exact N _ hdn
  refine C dp un gd cn cs a ccd outer A₀ base h₀ L m s Q E B F X T N1 hck hd hu (fun v tl h' tk' r x' => ?_) (fun hE e h' tk' g hg R => exc hE e h' tk' g (frHidden F N1 hg) R)
  obtain ⟨T', X', oX, d', e, k', hr, rfl, rfl, ⟨nx, nd, _⟩, hb⟩ := r
  have L1 := x'.led F N1
  have hX : s.heap.get? X' = none := by
    rcases (x'.2 (X', oX) (.tail _ (.tail _ (.head _)))).2 with y | y
    · exact y
    · rcases List.mem_cons.mp y with z | z
      · exact absurd z nx
      · exact absurd (List.mem_singleton.mp z) nd
  refine ret T' X' oX d' e k' hr hb h' tk' (x'.fr F N1) (fun n1 U1 => fun q hq => ?_) (AllNe.of fun q hq z => ?_)
  · rcases List.mem_cons.mp hq with z | hq
    · rw [z]; exact L1 _ (.tail _ (.tail _ (.head _)))
    rcases updMemS U1 q hq with z | ⟨z, c1⟩
    · rw [z]; exact L1 _ (.tail _ (.head _))
    · have ne : q.1 ≠ d := c1.elim id (shp_ne (N _ hdn).1 (N _ z).1)
      by_cases y : q.1 = x
      · have a := (N _ z).1
        rw [y, (N _ hx).1] at a
        have b := L1 _ (.head _)
        refine ⟨?_, (N _ z).2⟩
        rw [y, ← a]; exact b.1
      · exact ⟨x'.1 _ _ (by simp [y, ne]) (N _ z).1, (N _ z).2⟩
  · have := (N q hq).1
    rw [← z, hX] at this; cases this
end
set_option maxHeartbeats 2000000 in
theorem nexttree_c {t : Str} {i : Int} {x d lw lk : Addr} {q1 tt q2 ti q3 q4 : Tok} (hlen : t.length ≤ 100) (h0 : Ok 40 i) (f0 : (sgn t (skp t i) == Str.ofString "[") = false) (f1 : (sgn t (skp t i) == Str.ofString "{") = false) (n1 : pln t (skp t i) ≠ .other) :
    CtS w p loose mean mg mb 225 24 400 [(x, instObj 242 d), (d, rdr w t i lw lk q1 tt q2 ti q3 q4)] [.ref x]
      (fun v tl => ∃ T X oX d' e k', pln t (skp t i) = .ok d' e ∧ v = .ref T ∧ tl = [(x, instObj 242 d), (d, rdr w t e lw lk q1 tt q2 k' q3 q4), (X, oX)] ∧ AllNe X [(x, instObj 242 d), (d, rdr w t i lw lk q1 tt q2 ti q3 q4)] ∧ Bears w X oX (.ref T) d')
      (pln t (skp t i) = .bad) := by
  unfold CtS topA
  intro dp un gd cn cs a ccd outer A₀ base h₀ L m s Q E B F X₀ T N hck hdp hun hret hexc
  walk_at "cts_enter"
  (repeat' (first | ((fail_if_success (with_reducible show wpAny _ _ (call (Value.ref 183) _) _ _ _)); (fail_if_success (with_reducible show Q _ _)); (fail_if_success (with_reducible show E _ _)); (first | ((with_reducible show wpAny _ _ (callWith _ (Prod.fst _) _ _ _) _ _ _); dsimp only; walk1) | (k_unfold; (try dsimp only)) | (k_end; wrow_close) | walk1 | (dsimp only; walk1) | (leave1; try dsimp only)))))
  (refine' Ct.useP (plain_c _ _ _ _ ?p0 ?p1 ?p2 _ rfl n1) ?k1 ?k2 ?k3 ?k4 ?k5 ?k6 ?kd ?ku ?_ ?_; (case p0 => exact Ok.lo (by walk_at "oks")); (case p1 => first | exact Ok.hi (by walk_at "oks") (by exact rfl) | exact Ok.le (by walk_at "oks") (by exact rfl)); (case p2 => exact Ok.len (by assumption) rfl); (case k1 | k2 | k3 | k4 | k5 => assumption); (case k6 => exact rfl); (case kd => ktr_room); (case ku => ktr_units); k_whole)
  rotate_left
  · intro hbad
    intro e9 h9 tk9 R9
    (try dsimp only)
    (repeat' (first | ((fail_if_success (with_reducible show wpAny _ _ (call (Value.ref 183) _) _ _ _)); (fail_if_success (with_reducible show Q _ _)); (fail_if_success (with_reducible show E _ _)); (first | ((with_reducible show wpAny _ _ (callWith _ (Prod.fst _) _ _ _) _ _ _); dsimp only; walk1) | (k_unfold; (try dsimp only)) | (k_end; wrow_close) | walk1 | (dsimp only; walk1) | (leave1; try dsimp only)))))
    exact hexc hbad _ _ _ _ (by assumption) (by assumption)
  intro D1 T1 k1 m1 X1 oX1 d1 e1 hr1 hB1 h1 tk1 F1 N1 lD1 lX1
  have lx : AllNe X1 [(x, instObj 242 d), (d, rdr w t i lw lk q1 tt q2 ti q3 q4)] := ⟨lX1.1, lX1.2.1, trivial⟩
  (repeat' (first | ((fail_if_success (with_reducible show wpAny _ _ (call (Value.ref 183) _) _ _ _)); (fail_if_success (with_reducible show Q _ _)); (fail_if_success (with_reducible show E _ _)); (first | ((with_reducible show wpAny _ _ (callWith _ (Prod.fst _) _ _ _) _ _ _); dsimp only; walk1) | (k_unfold; (try dsimp only)) | (k_end; wrow_close) | walk1 | (dsimp only; walk1) | (leave1; try dsimp only)))))
  walk_at "ct_open"
  exact hret _ _ _ _ ⟨_, _, _, _, _, _, hr1, rfl, rfl, lx, hB1⟩ (ExtS.of (by assumption) (by assumption) (by assumption) (fun q hq => by
      rcases List.mem_cons.mp hq with z | hq
      · rw [z]; k_mem
      · rcases List.mem_cons.mp hq with z | hq
        · rw [z]; k_mem
        · rw [List.mem_singleton.mp hq]; k_mem))
end
end
theorem anew_T1 : True := by
  w_top off
  k_with_none
  trivial
section -- T1
theorem kfill23 (w : World) (h : Heap) : (kfr w.params).In h → PySem.Challenge.rw_sz0076_01 = PySem.Challenge.rw_sz0076_01 → True := by
  k_fill
  intros
  trivial
end
section -- T1
theorem rows_T1_1 : True := by
  k_with_none
  k_with "ct_enter" => (refine enterC (K := kfr _) (by assumption) (by assumption) (by assumption) (by assumption) (by exact rfl) (by assumption) (by k_is) (by k_is) (by ktr_room) (by exact BindsTo.of_eq rfl) (by exact locs rfl) ?_ (by exact rfl) (by exact rfl) (by exact rfl) (by decide); k_whole; intro L' h' F' N' B' X' T'; (try dsimp only); (try k_fold))
  k_with "exec Raise some none" => (k_here; refine exec_raiseJ rfl ?_)
  k_with "RaiseJ" => (refine raiseJ_of (by assumption) (by assumption) (by assumption) (by assumption) (by assumption) ?_; k_whole)
  k_with "leaving ref" => (k_here; k_dflt (first | (refine leave_firstJ (by assumption) (by assumption) (by assumption) (by assumption) (by assumption) (by assumption) (by assumption) (by assumption) (by assumption) ?_; k_whole; intro h8 R8) | (refine leave_onJ' (by assumption) (by assumption) (by assumption) ?_; k_whole; intro h8 R8)))
  k_with "ct_open" => ((try dsimp only); (try k_unfold); (try dsimp only))
  k_with "eval Call" => (k_here; (with_reducible show wpAny _ _ (eval (Expr.Call (Expr.Name _ _) _ _ _) _) _ _ _); refine Call_ ?_)
  k_with "ite" => (first | (refine ite_t (by with_reducible assumption) ?_) | (refine ite_f (by with_reducible assumption) ?_))
  k_with "ite" => (k_dflt (first | (refine ite_pos (by first | omega | ((simp only [beq_iff_eq, decide_eq_true_eq]); omega)) ?_) | (refine ite_neg (by first | omega | ((simp only [beq_iff_eq, decide_eq_true_eq]); omega)) ?_)))
  k_with "ite" => (k_dflt (first | (refine ite_pos (by omega) ?_) | (refine ite_neg (by omega) ?_)))
  k_with "callWith" => (k_here; (with_reducible refine callWith_method1 ?_ (by with_unfolding_all exact rfl) (by with_unfolding_all exact rfl)))
  k_with "callWith ref" => (k_here; (with_reducible refine callWith_K0 (K := kfr _) (by exact Frag.In.keeps (by assumption) (Fr.keep (by assumption))) (by k_is) ?_); k_dflt (k_whole))
  k_with "call ref" => (k_here; (with_reducible show wpAny _ _ (call (Value.ref 148) _) _ _ _); k_dflt (refine Ct.useVP (mk := fun k => Value.str _ k) (sign_u _ _ _ _ (by omega) (by omega) (by omega)) (by assumption) (by assumption) (by assumption) (by assumption) (by assumption) (by exact rfl) (by ktr_room) (by ktr_units) ?_; k_whole; intro b9 k9 h9 tk9 F9 N9; (try dsimp only)))
  k_with "call ref" => (k_here; (with_reducible show wpAny _ _ (call (Value.ref 155) _) _ _ _); k_dflt (refine Ct.useVP (mk := fun k => Value.int _ k) (skip_u _ _ _ _ (by omega) (by omega) (by omega)) (by assumption) (by assumption) (by assumption) (by assumption) (by assumption) (by exact rfl) (by ktr_room) (by ktr_units) ?_; k_whole; intro b9 k9 h9 tk9 F9 N9; (try dsimp only)))
  k_with "call ref" => (k_here; (with_reducible show wpAny _ _ (call (Value.ref 141) _) _ _ _); k_dflt (refine Ct.useE (refuse_c _ _ _ _ (by omega) (by omega) (by omega)) (by assumption) (by assumption) (by assumption) (by assumption) (by exact rfl) (by ktr_room) (by ktr_units) ?_; k_whole; intro e9 h9 tk9 R9; (try dsimp only)))
  k_with "cts_enter" => (refine enterS (K := kfr _) (by assumption) (by assumption) (by assumption) (by assumption) (by assumption) (by exact rfl) (by assumption) (by k_is) (by k_is) (by ktr_room) (by exact BindsTo.of_eq rfl) (by exact locs rfl) ?_ (by exact rfl) (by exact rfl) (by exact rfl) (by decide); k_whole; intro g' L' h' tk' hg' F' N' B' X' T'; (try dsimp only); (try k_fold))
  k_with "upds" => (repeat' (first | ((with_reducible show UpdS _ _ _ _ _); (first | refine UpdS.here ?_ | (refine' UpdS.skip (by exact rfl) ?_) | (refine' UpdS.ne (by k_ne) ?_))) | ((with_reducible show Off _ _ _); (first | exact Off.nil | (refine' Off.skip (by exact rfl) ?_) | (refine' Off.ne (by k_ne) ?_)))))
  k_with "oks" => (repeat' (first | (with_reducible (first | exact Ok.zero | (refine Ok.skp (by assumption) ?_))) | exact Ok.mono (by with_reducible assumption) (by exact rfl) | refine Ok.add ?_))
  k_with "call ref" => (k_here; (with_reducible show wpAny _ _ (call (Value.ref 204) _) _ _ _); k_dflt (refine CtS.useD (mk := fun k => Value.str _ k) (skipm_u (by assumption) ?_) (by assumption) (by assumption) (by assumption) (by assumption) (by assumption) (by k_mem) (by k_mem) (by exact rfl) (by ktr_room) (by ktr_units) ?_; (· walk_at "oks"); k_whole; intro k9 k9' h9 tk9 F9 H9; (have N9 := H9 _ (by k_upd)); clear H9; (try dsimp only)))
  k_with "call ref" => (k_here; (with_reducible show wpAny _ _ (call (Value.ref 141) _) _ _ _); k_dflt (refine Ct.useE (refuse_c _ _ _ _ (by exact Ok.lo (by walk_at "oks")) (by first | exact Ok.hi (by walk_at "oks") (by exact rfl) | exact Ok.le (by walk_at "oks") (by exact rfl)) (by exact Ok.len (by assumption) rfl)) (by assumption) (by assumption) (by assumption) (by assumption) (by exact rfl) (by ktr_room) (by ktr_units) ?_; k_whole; intro e9 h9 tk9 R9; (try dsimp only)))
  trivial
variable {w : World} {p : Program} {loose : List Str} {mean : ExcName → Option Value} {mg mb : Str → Option Value}

theorem reads_arr {h : Heap} {tl : List (Addr × Obj)} (hp : ∀ p ∈ tl, h.get? p.1 = some p.2) {V Li : Addr} {k : Tok} {n n2 : Nat} {K : Str} {v1 v2 : Value} {d1 d2 : PyData} {a1 a2 : List Addr}
    (m1 : (V, ({ cls := .type "tuple", data := .seq #[.str K k, .ref Li] n } : Obj)) ∈ tl) (m2 : (Li, ({ cls := .type "list", data := .seq #[v1, v2] n2 } : Obj)) ∈ tl) (s1 : Reads h v1 d1 a1) (s2 : Reads h v2 d2 a2) :
    ∃ as, Reads h (.ref V) (.tuple [.str K, .list [d1, d2]]) as :=
  ⟨_, reads_tuple_at (hp _ m1) rfl rfl (.cons (Reads.str _ _) (.cons (reads_list_at (hp _ m2) rfl rfl (.cons s1 (.cons s2 .nil))) .nil))⟩
def Rd (w : World) (R : PR) (v : Value) (tl : List (Addr × Obj)) : Prop := ∃ d, R = .ok d 0 ∧ ∀ h, (kfr w.params).In h → (∀ p ∈ tl, h.get? p.1 = some p.2) → ∃ as, Reads h v d as
set_option maxHeartbeats 2000000 in
theorem whole_arr {t : Str} {x d lw lk : Addr} {q1 tt q2 ti q3 q4 : Tok} {R : PR} (hlen : t.length ≤ 100) (hkl : AllNe lk [(lw, W.listOf #[] 0)]) (hR : rdA1 t = R) (hno : R ≠ .other) (f1 : (sgn t (skp t 0) == Str.ofString "[") = true) :
    CtS w p loose mean mg mb 239 36 560 [(lk, W.listOf #[] 0), (lw, W.listOf #[] 0), (x, instObj 242 d), (d, rdr w t 0 lw lk q1 tt q2 ti q3 q4)] [.ref x] (Rd w R) (R = .bad) := by
  obtain ⟨f2, f3, f4, n1, r1, go1⟩ := rdA1_no hR hno
  unfold CtS topA
  intro dp un gd cn cs a ccd outer A₀ base h₀ L m s Q E B F X₀ T N hck hdp hun hret hexc
  walk_at "cts_enter"
  (repeat' (first | ((fail_if_success (with_reducible show wpAny _ _ (call (Value.ref 225) _) _ _ _)); (fail_if_success (with_reducible show wpAny _ _ (call (Value.ref 211) _) _ _ _)); (fail_if_success (with_reducible show Q _ _)); (fail_if_success (with_reducible show E _ _)); (first | ((with_reducible show wpAny _ _ (execs (_ :: _) _) _ _ _); (try dsimp only); (try refine tokz (fun _ => ?_)); walk1) | ((with_reducible show wpAny _ _ (callWith _ (Prod.fst _) _ _ _) _ _ _); dsimp only; walk1) | (k_unfold; (try dsimp only)) | (k_end; wrow_close) | walk1 | (dsimp only; walk1) | (leave1; try dsimp only)))))
  walk1
  (repeat' (first | ((fail_if_success (with_reducible show wpAny _ _ (call (Value.ref 225) _) _ _ _)); (fail_if_success (with_reducible show wpAny _ _ (call (Value.ref 211) _) _ _ _)); (fail_if_success (with_reducible show Q _ _)); (fail_if_success (with_reducible show E _ _)); (first | ((with_reducible show wpAny _ _ (execs (_ :: _) _) _ _ _); (try dsimp only); (try refine tokz (fun _ => ?_)); walk1) | ((with_reducible show wpAny _ _ (callWith _ (Prod.fst _) _ _ _) _ _ _); dsimp only; walk1) | (k_unfold; (try dsimp only)) | (k_end; wrow_close) | walk1 | (dsimp only; walk1) | (leave1; try dsimp only)))))
  (refine' CtS.useN (nexttree_c hlen ?p1 f3 f4 n1) ?k1 ?k2 ?k3 ?k4 ?k5 ?hx ?hdn ?k6 ?kd ?ku ?_ ?_; (case k1 | k2 | k3 | k4 | k5 => assumption); (case hx | hdn => k_mem); (case p1 => walk_at "oks"); (case k6 => exact rfl); (case kd => ktr_room); (case ku => ktr_units); k_whole)
  rotate_left
  · intro hbad e9 h9 tk9 g9' F9 R9
    (try dsimp only)
    (repeat' (first | ((fail_if_success (with_reducible show wpAny _ _ (call (Value.ref 225) _) _ _ _)); (fail_if_success (with_reducible show wpAny _ _ (call (Value.ref 211) _) _ _ _)); (fail_if_success (with_reducible show Q _ _)); (fail_if_success (with_reducible show E _ _)); (first | ((with_reducible show wpAny _ _ (execs (_ :: _) _) _ _ _); (try dsimp only); (try refine tokz (fun _ => ?_)); walk1) | ((with_reducible show wpAny _ _ (callWith _ (Prod.fst _) _ _ _) _ _ _); dsimp only; walk1) | (k_unfold; (try dsimp only)) | (k_end; wrow_close) | walk1 | (dsimp only; walk1) | (leave1; try dsimp only)))))
    all_goals exact hexc (r1 hbad) _ _ _ _ (by assumption) (by assumption)
  intro T1 X1 oX1 d1 e1 kq1 hr1 hB1 h1 tk1 F1 H1 lX1
  have N1 := H1 _ (by walk_at "upds")
  clear H1
  (try dsimp only)
  have b1 := Ok.pln (c := 10) hlen (by walk_at "oks") hr1
  rcases rdA2_no (go1 _ _ hr1) hno with ⟨g1, g2, g3⟩ | ⟨g1, g1b, g2b, n2, r2, go2⟩
  · (repeat' (first | ((fail_if_success (with_reducible show wpAny _ _ (call (Value.ref 225) _) _ _ _)); (fail_if_success (with_reducible show wpAny _ _ (call (Value.ref 211) _) _ _ _)); (fail_if_success (with_reducible show Q _ _)); (fail_if_success (with_reducible show E _ _)); (first | ((with_reducible show wpAny _ _ (execs (_ :: _) _) _ _ _); (try dsimp only); (try refine tokz (fun _ => ?_)); walk1) | ((with_reducible show wpAny _ _ (callWith _ (Prod.fst _) _ _ _) _ _ _); dsimp only; walk1) | (k_unfold; (try dsimp only)) | (k_end; wrow_close) | walk1 | (dsimp only; walk1) | (leave1; try dsimp only)))))
    all_goals exact hexc g3 _ _ _ _ (by assumption) (by assumption)
  · (repeat' (first | ((fail_if_success (with_reducible show wpAny _ _ (call (Value.ref 225) _) _ _ _)); (fail_if_success (with_reducible show wpAny _ _ (call (Value.ref 211) _) _ _ _)); (fail_if_success (with_reducible show Q _ _)); (fail_if_success (with_reducible show E _ _)); (first | ((with_reducible show wpAny _ _ (execs (_ :: _) _) _ _ _); (try dsimp only); (try refine tokz (fun _ => ?_)); walk1) | ((with_reducible show wpAny _ _ (callWith _ (Prod.fst _) _ _ _) _ _ _); dsimp only; walk1) | (k_unfold; (try dsimp only)) | (k_end; wrow_close) | walk1 | (dsimp only; walk1) | (leave1; try dsimp only)))))
    (refine' CtS.useN (nexttree_c hlen ?p1 g1b g2b n2) ?k1 ?k2 ?k3 ?k4 ?k5 ?hx ?hdn ?k6 ?kd ?ku ?_ ?_; (case k1 | k2 | k3 | k4 | k5 => assumption); (case hx | hdn => k_mem); (case p1 => walk_at "oks"); (case k6 => exact rfl); (case kd => ktr_room); (case ku => ktr_units); k_whole)
    rotate_left
    · intro hbad e9 h9 tk9 g9' F9 R9
      (try dsimp only)
      (repeat' (first | ((fail_if_success (with_reducible show wpAny _ _ (call (Value.ref 225) _) _ _ _)); (fail_if_success (with_reducible show wpAny _ _ (call (Value.ref 211) _) _ _ _)); (fail_if_success (with_reducible show Q _ _)); (fail_if_success (with_reducible show E _ _)); (first | ((with_reducible show wpAny _ _ (execs (_ :: _) _) _ _ _); (try dsimp only); (try refine tokz (fun _ => ?_)); walk1) | ((with_reducible show wpAny _ _ (callWith _ (Prod.fst _) _ _ _) _ _ _); dsimp only; walk1) | (k_unfold; (try dsimp only)) | (k_end; wrow_close) | walk1 | (dsimp only; walk1) | (leave1; try dsimp only)))))
      all_goals exact hexc (r2 hbad) _ _ _ _ (by assumption) (by assumption)
    intro T2 X2 oX2 d2 e2 kq2 hr2 hB2 h2 tk2 F2 H2 lX2
    have N2 := H2 _ (by walk_at "upds")
    clear H2
    (try dsimp only)
    have b2 := Ok.pln (c := 20) hlen (by walk_at "oks") hr2
    have g3 := rdA3_no (go2 _ _ hr2) hno
    (repeat' (first | ((fail_if_success (with_reducible show wpAny _ _ (call (Value.ref 225) _) _ _ _)); (fail_if_success (with_reducible show wpAny _ _ (call (Value.ref 211) _) _ _ _)); (fail_if_success (with_reducible show Q _ _)); (fail_if_success (with_reducible show E _ _)); (first | ((with_reducible show wpAny _ _ (execs (_ :: _) _) _ _ _); (try dsimp only); (try refine tokz (fun _ => ?_)); walk1) | ((with_reducible show wpAny _ _ (callWith _ (Prod.fst _) _ _ _) _ _ _); dsimp only; walk1) | (k_unfold; (try dsimp only)) | (k_end; wrow_close) | walk1 | (dsimp only; walk1) | (leave1; try dsimp only)))))
    · have q := rdA3_bad1 (go2 _ _ hr2) g3 (by with_reducible assumption)
      exact hexc q _ _ _ _ (by assumption) (by assumption)
    · have q := rdA3_bad2 (go2 _ _ hr2) g3 (by with_reducible assumption) (by with_reducible assumption)
      exact hexc q _ _ _ _ (by assumption) (by assumption)
    · have hb : (sgn t (skp t e2) != Str.ofString "]") = false := by with_reducible assumption
      have hc : (sgn t (skp t (skp t e2 + 1)) != Str.ofString "") = false := by with_reducible assumption
      have q := rdA3_ok (go2 _ _ hr2) g3 hb hc
      walk_at "ct_open"
      refine hret _ _ _ _ ?ret (ExtS.of (by assumption) (by assumption) (by assumption) (fun _ h => h))
      refine ⟨_, q, ?_⟩
      intro h hK hp
      obtain ⟨a1, s1⟩ := hB1 h hK (hp (X1, oX1) (by k_mem))
      obtain ⟨a2, s2⟩ := hB2 h hK (hp (X2, oX2) (by k_mem))
      exact reads_arr hp (by k_mem) (by k_mem) s1 s2
end
theorem anew_T2 : True := by
  w_top off
  k_with_none
  trivial
section -- T2
theorem kfill24 (w : World) (h : Heap) : (kfr w.params).In h → PySem.Challenge.rw_sz0076_01 = PySem.Challenge.rw_sz0076_01 → True := by
  k_fill
  intros
  trivial
end
section -- T2
theorem rows_T2_1 : True := by
  k_with_none
  k_with "ct_enter" => (refine enterC (K := kfr _) (by assumption) (by assumption) (by assumption) (by assumption) (by exact rfl) (by assumption) (by k_is) (by k_is) (by ktr_room) (by exact BindsTo.of_eq rfl) (by exact locs rfl) ?_ (by exact rfl) (by exact rfl) (by exact rfl) (by decide); k_whole; intro L' h' F' N' B' X' T'; (try dsimp only); (try k_fold))
  k_with "exec Raise some none" => (k_here; refine exec_raiseJ rfl ?_)
  k_with "RaiseJ" => (refine raiseJ_of (by assumption) (by assumption) (by assumption) (by assumption) (by assumption) ?_; k_whole)
  k_with "leaving ref" => (k_here; k_dflt (first | (refine leave_firstJ (by assumption) (by assumption) (by assumption) (by assumption) (by assumption) (by assumption) (by assumption) (by assumption) (by assumption) ?_; k_whole; intro h8 R8) | (refine leave_onJ' (by assumption) (by assumption) (by assumption) ?_; k_whole; intro h8 R8)))
  k_with "ct_open" => ((try dsimp only); (try k_unfold); (try dsimp only))
  k_with "eval Call" => (k_here; (with_reducible show wpAny _ _ (eval (Expr.Call (Expr.Name _ _) _ _ _) _) _ _ _); refine Call_ ?_)
  k_with "ite" => (first | (refine ite_t (by with_reducible assumption) ?_) | (refine ite_f (by with_reducible assumption) ?_))
  k_with "ite" => (k_dflt (first | (refine ite_pos (by first | omega | ((simp only [beq_iff_eq, decide_eq_true_eq]); omega)) ?_) | (refine ite_neg (by first | omega | ((simp only [beq_iff_eq, decide_eq_true_eq]); omega)) ?_)))
  k_with "ite" => (k_dflt (first | (refine ite_pos (by omega) ?_) | (refine ite_neg (by omega) ?_)))
  k_with "callWith" => (k_here; (with_reducible refine callWith_method1 ?_ (by with_unfolding_all exact rfl) (by with_unfolding_all exact rfl)))
  k_with "callWith ref" => (k_here; (with_reducible refine callWith_K0 (K := kfr _) (by exact Frag.In.keeps (by assumption) (Fr.keep (by assumption))) (by k_is) ?_); k_dflt (k_whole))
  k_with "call ref" => (k_here; (with_reducible show wpAny _ _ (call (Value.ref 148) _) _ _ _); k_dflt (refine Ct.useVP (mk := fun k => Value.str _ k) (sign_u _ _ _ _ (by omega) (by omega) (by omega)) (by assumption) (by assumption) (by assumption) (by assumption) (by assumption) (by exact rfl) (by ktr_room) (by ktr_units) ?_; k_whole; intro b9 k9 h9 tk9 F9 N9; (try dsimp only)))
  k_with "call ref" => (k_here; (with_reducible show wpAny _ _ (call (Value.ref 155) _) _ _ _); k_dflt (refine Ct.useVP (mk := fun k => Value.int _ k) (skip_u _ _ _ _ (by omega) (by omega) (by omega)) (by assumption) (by assumption) (by assumption) (by assumption) (by assumption) (by exact rfl) (by ktr_room) (by ktr_units) ?_; k_whole; intro b9 k9 h9 tk9 F9 N9; (try dsimp only)))
  k_with "call ref" => (k_here; (with_reducible show wpAny _ _ (call (Value.ref 141) _) _ _ _); k_dflt (refine Ct.useE (refuse_c _ _ _ _ (by omega) (by omega) (by omega)) (by assumption) (by assumption) (by assumption) (by assumption) (by exact rfl) (by ktr_room) (by ktr_units) ?_; k_whole; intro e9 h9 tk9 R9; (try dsimp only)))
  k_with "cts_enter" => (refine enterS (K := kfr _) (by assumption) (by assumption) (by assumption) (by assumption) (by assumption) (by exact rfl) (by assumption) (by k_is) (by k_is) (by ktr_room) (by exact BindsTo.of_eq rfl) (by exact locs rfl) ?_ (by exact rfl) (by exact rfl) (by exact rfl) (by decide); k_whole; intro g' L' h' tk' hg' F' N' B' X' T'; (try dsimp only); (try k_fold))
  k_with "upds" => (repeat' (first | ((with_reducible show UpdS _ _ _ _ _); (first | refine UpdS.here ?_ | (refine' UpdS.skip (by exact rfl) ?_) | (refine' UpdS.ne (by k_ne) ?_))) | ((with_reducible show Off _ _ _); (first | exact Off.nil | (refine' Off.skip (by exact rfl) ?_) | (refine' Off.ne (by k_ne) ?_)))))
  k_with "oks" => (repeat' (first | (with_reducible (first | exact Ok.zero | (refine Ok.skp (by assumption) ?_))) | exact Ok.mono (by with_reducible assumption) (by exact rfl) | refine Ok.add ?_))
  k_with "call ref" => (k_here; (with_reducible show wpAny _ _ (call (Value.ref 204) _) _ _ _); k_dflt (refine CtS.useD (mk := fun k => Value.str _ k) (skipm_u (by assumption) ?_) (by assumption) (by assumption) (by assumption) (by assumption) (by assumption) (by k_mem) (by k_mem) (by exact rfl) (by ktr_room) (by ktr_units) ?_; (· walk_at "oks"); k_whole; intro k9 k9' h9 tk9 F9 H9; (have N9 := H9 _ (by k_upd)); clear H9; (try dsimp only)))
  k_with "call ref" => (k_here; (with_reducible show wpAny _ _ (call (Value.ref 141) _) _ _ _); k_dflt (refine Ct.useE (refuse_c _ _ _ _ (by exact Ok.lo (by walk_at "oks")) (by first | exact Ok.hi (by walk_at "oks") (by exact rfl) | exact Ok.le (by walk_at "oks") (by exact rfl)) (by exact Ok.len (by assumption) rfl)) (by assumption) (by assumption) (by assumption) (by assumption) (by exact rfl) (by ktr_room) (by ktr_units) ?_; k_whole; intro e9 h9 tk9 R9; (try dsimp only)))
  trivial
variable {w : World} {p : Program} {loose : List Str} {mean : ExcName → Option Value} {mg mb : Str → Option Value}

theorem reads_obj {h : Heap} {tl : List (Addr × Obj)} (hp : ∀ p ∈ tl, h.get? p.1 = some p.2) {V Li P1 P2 : Addr} {k k1 k2 : Tok} {n nl n1 n2 : Nat} {K K1 K2 : Str} {v1 v2 : Value} {d1 d2 : PyData} {a1 a2 : List Addr}
    (m1 : (V, ({ cls := .type "tuple", data := .seq #[.str K k, .ref Li] n } : Obj)) ∈ tl) (m2 : (Li, ({ cls := .type "list", data := .seq #[.ref P1, .ref P2] nl } : Obj)) ∈ tl)
    (q1 : (P1, ({ cls := .type "tuple", data := .seq #[.str K1 k1, v1] n1 } : Obj)) ∈ tl) (q2 : (P2, ({ cls := .type "tuple", data := .seq #[.str K2 k2, v2] n2 } : Obj)) ∈ tl) (s1 : Reads h v1 d1 a1) (s2 : Reads h v2 d2 a2) :
    ∃ as, Reads h (.ref V) (.tuple [.str K, .list [.tuple [.str K1, d1], .tuple [.str K2, d2]]]) as :=
  ⟨_, reads_tuple_at (hp _ m1) rfl rfl (.cons (Reads.str _ _) (.cons (reads_list_at (hp _ m2) rfl rfl (.cons (reads_tuple_at (hp _ q1) rfl rfl (.cons (Reads.str _ _) (.cons s1 .nil))) (.cons (reads_tuple_at (hp _ q2) rfl rfl (.cons (Reads.str _ _) (.cons s2 .nil))) .nil))) .nil))⟩
set_option maxHeartbeats 2000000 in
theorem whole_obj {t : Str} {x d lw lk : Addr} {q1 tt q2 ti q3 q4 : Tok} {R : PR} (hlen : t.length ≤ 100) (hkl : AllNe lk [(lw, W.listOf #[] 0)]) (hR : rdO1 t = R) (hno : R ≠ .other) (f0 : (sgn t (skp t 0) == Str.ofString "[") = false) (f1 : (sgn t (skp t 0) == Str.ofString "{") = true) :
    CtS w p loose mean mg mb 239 36 560 [(lk, W.listOf #[] 0), (lw, W.listOf #[] 0), (x, instObj 242 d), (d, rdr w t 0 lw lk q1 tt q2 ti q3 q4)] [.ref x] (Rd w R) (R = .bad) := by
  obtain ⟨f2, n1, r1, go1⟩ := rdO1_no hR hno
  unfold CtS topA
  intro dp un gd cn cs a ccd outer A₀ base h₀ L m s Q E B F X₀ T N hck hdp hun hret hexc
  walk_at "cts_enter"
  (repeat' (first | ((fail_if_success (with_reducible show wpAny _ _ (call (Value.ref 225) _) _ _ _)); (fail_if_success (with_reducible show wpAny _ _ (call (Value.ref 211) _) _ _ _)); (fail_if_success (with_reducible show Q _ _)); (fail_if_success (with_reducible show E _ _)); (first | ((with_reducible show wpAny _ _ (execs (_ :: _) _) _ _ _); (try dsimp only); (try refine tokz (fun _ => ?_)); walk1) | ((with_reducible show wpAny _ _ (callWith _ (Prod.fst _) _ _ _) _ _ _); dsimp only; walk1) | (k_unfold; (try dsimp only)) | (k_end; wrow_close) | walk1 | (dsimp only; walk1) | (leave1; try dsimp only)))))
  walk1
  (repeat' (first | ((fail_if_success (with_reducible show wpAny _ _ (call (Value.ref 225) _) _ _ _)); (fail_if_success (with_reducible show wpAny _ _ (call (Value.ref 211) _) _ _ _)); (fail_if_success (with_reducible show Q _ _)); (fail_if_success (with_reducible show E _ _)); (first | ((with_reducible show wpAny _ _ (execs (_ :: _) _) _ _ _); (try dsimp only); (try refine tokz (fun _ => ?_)); walk1) | ((with_reducible show wpAny _ _ (callWith _ (Prod.fst _) _ _ _) _ _ _); dsimp only; walk1) | (k_unfold; (try dsimp only)) | (k_end; wrow_close) | walk1 | (dsimp only; walk1) | (leave1; try dsimp only)))))
  (refine' CtS.useT (takekey_c hlen ?p1 ?hz n1) ?k1 ?k2 ?k3 ?k4 ?k5 ?hx ?hdn ?hkn ?k6 ?kd ?ku ?_ ?_; (case k1 | k2 | k3 | k4 | k5 => assumption); (case hx | hdn | hkn => k_mem); (case p1 => walk_at "oks"); (case hz => exact Nat.le_of_ble_eq_true rfl); (case k6 => exact rfl); (case kd => ktr_room); (case ku => ktr_units); k_whole)
  rotate_left
  · intro hbad e9 h9 tk9 g9' F9 R9
    have q : R = .bad := by
      rcases hbad with hb | ⟨l, e, hr, hc⟩
      · exact r1 hb
      · rcases rdO2_no (go1 _ _ hr) hno with ⟨_, g⟩ | ⟨c', _⟩
        · exact g
        · rw [hc] at c'; cases c'
    (try dsimp only)
    (repeat' (first | ((fail_if_success (with_reducible show wpAny _ _ (call (Value.ref 225) _) _ _ _)); (fail_if_success (with_reducible show wpAny _ _ (call (Value.ref 211) _) _ _ _)); (fail_if_success (with_reducible show Q _ _)); (fail_if_success (with_reducible show E _ _)); (first | ((with_reducible show wpAny _ _ (execs (_ :: _) _) _ _ _); (try dsimp only); (try refine tokz (fun _ => ?_)); walk1) | ((with_reducible show wpAny _ _ (callWith _ (Prod.fst _) _ _ _) _ _ _); dsimp only; walk1) | (k_unfold; (try dsimp only)) | (k_end; wrow_close) | walk1 | (dsimp only; walk1) | (leave1; try dsimp only)))))
    all_goals exact hexc q _ _ _ _ (by assumption) (by assumption)
  intro l1 e1 k1 k1' h1 tk1 hr1 hc1 F1 H1
  have N1 := H1 _ _ (by walk_at "upds") (by walk_at "upds")
  clear H1
  have b1 := Ok.jstr (c := 40) hlen (by walk_at "oks") hr1
  rcases rdO2_no (go1 _ _ hr1) hno with ⟨g1, g2⟩ | ⟨g1, g2, g3, n2, r2, go2⟩
  · rw [hc1] at g1; cases g1
  (try dsimp only)
  (repeat' (first | ((fail_if_success (with_reducible show wpAny _ _ (call (Value.ref 225) _) _ _ _)); (fail_if_success (with_reducible show wpAny _ _ (call (Value.ref 211) _) _ _ _)); (fail_if_success (with_reducible show Q _ _)); (fail_if_success (with_reducible show E _ _)); (first | ((with_reducible show wpAny _ _ (execs (_ :: _) _) _ _ _); (try dsimp only); (try refine tokz (fun _ => ?_)); walk1) | ((with_reducible show wpAny _ _ (callWith _ (Prod.fst _) _ _ _) _ _ _); dsimp only; walk1) | (k_unfold; (try dsimp only)) | (k_end; wrow_close) | walk1 | (dsimp only; walk1) | (leave1; try dsimp only)))))
  (refine' CtS.useN (nexttree_c hlen ?p1 g2 g3 n2) ?k1 ?k2 ?k3 ?k4 ?k5 ?hx ?hdn ?k6 ?kd ?ku ?_ ?_; (case k1 | k2 | k3 | k4 | k5 => assumption); (case hx | hdn => k_mem); (case p1 => walk_at "oks"); (case k6 => exact rfl); (case kd => ktr_room); (case ku => ktr_units); k_whole)
  rotate_left
  · intro hbad e9 h9 tk9 g9' F9 R9
    (try dsimp only)
    (repeat' (first | ((fail_if_success (with_reducible show wpAny _ _ (call (Value.ref 225) _) _ _ _)); (fail_if_success (with_reducible show wpAny _ _ (call (Value.ref 211) _) _ _ _)); (fail_if_success (with_reducible show Q _ _)); (fail_if_success (with_reducible show E _ _)); (first | ((with_reducible show wpAny _ _ (execs (_ :: _) _) _ _ _); (try dsimp only); (try refine tokz (fun _ => ?_)); walk1) | ((with_reducible show wpAny _ _ (callWith _ (Prod.fst _) _ _ _) _ _ _); dsimp only; walk1) | (k_unfold; (try dsimp only)) | (k_end; wrow_close) | walk1 | (dsimp only; walk1) | (leave1; try dsimp only)))))
    all_goals exact hexc (r2 hbad) _ _ _ _ (by assumption) (by assumption)
  intro T2 X2 oX2 d2 e2 kq2 hr2 hB2 h2 tk2 F2 H2 lX2
  have N2 := H2 _ (by walk_at "upds")
  clear H2
  (try dsimp only)
  have b2 := Ok.pln (c := 20) hlen (by walk_at "oks") hr2
  rcases rdO3_no (go2 _ _ hr2) hno with ⟨g4, g5, g6⟩ | ⟨g4, n3, r3, go3⟩
  · (repeat' (first | ((fail_if_success (with_reducible show wpAny _ _ (call (Value.ref 225) _) _ _ _)); (fail_if_success (with_reducible show wpAny _ _ (call (Value.ref 211) _) _ _ _)); (fail_if_success (with_reducible show Q _ _)); (fail_if_success (with_reducible show E _ _)); (first | ((with_reducible show wpAny _ _ (execs (_ :: _) _) _ _ _); (try dsimp only); (try refine tokz (fun _ => ?_)); walk1) | ((with_reducible show wpAny _ _ (callWith _ (Prod.fst _) _ _ _) _ _ _); dsimp only; walk1) | (k_unfold; (try dsimp only)) | (k_end; wrow_close) | walk1 | (dsimp only; walk1) | (leave1; try dsimp only)))))
    all_goals exact hexc g6 _ _ _ _ (by assumption) (by assumption)
  (repeat' (first | ((fail_if_success (with_reducible show wpAny _ _ (call (Value.ref 225) _) _ _ _)); (fail_if_success (with_reducible show wpAny _ _ (call (Value.ref 211) _) _ _ _)); (fail_if_success (with_reducible show Q _ _)); (fail_if_success (with_reducible show E _ _)); (first | ((with_reducible show wpAny _ _ (execs (_ :: _) _) _ _ _); (try dsimp only); (try refine tokz (fun _ => ?_)); walk1) | ((with_reducible show wpAny _ _ (callWith _ (Prod.fst _) _ _ _) _ _ _); dsimp only; walk1) | (k_unfold; (try dsimp only)) | (k_end; wrow_close) | walk1 | (dsimp only; walk1) | (leave1; try dsimp only)))))
  (refine' CtS.useT (takekey_c hlen ?p1 ?hz n3) ?k1 ?k2 ?k3 ?k4 ?k5 ?hx ?hdn ?hkn ?k6 ?kd ?ku ?_ ?_; (case k1 | k2 | k3 | k4 | k5 => assumption); (case hx | hdn | hkn => k_mem); (case p1 => walk_at "oks"); (case hz => exact Nat.le_of_ble_eq_true rfl); (case k6 => exact rfl); (case kd => ktr_room); (case ku => ktr_units); k_whole)
  rotate_left
  · intro hbad e9 h9 tk9 g9' F9 R9
    have q : R = .bad := by
      rcases hbad with hb | ⟨l, e, hr, hc⟩
      · exact r3 hb
      · rcases rdO4_no (go3 _ _ hr) hno with ⟨_, g⟩ | ⟨c', _⟩
        · exact g
        · rw [hc] at c'; cases c'
    (try dsimp only)
    (repeat' (first | ((fail_if_success (with_reducible show wpAny _ _ (call (Value.ref 225) _) _ _ _)); (fail_if_success (with_reducible show wpAny _ _ (call (Value.ref 211) _) _ _ _)); (fail_if_success (with_reducible show Q _ _)); (fail_if_success (with_reducible show E _ _)); (first | ((with_reducible show wpAny _ _ (execs (_ :: _) _) _ _ _); (try dsimp only); (try refine tokz (fun _ => ?_)); walk1) | ((with_reducible show wpAny _ _ (callWith _ (Prod.fst _) _ _ _) _ _ _); dsimp only; walk1) | (k_unfold; (try dsimp only)) | (k_end; wrow_close) | walk1 | (dsimp only; walk1) | (leave1; try dsimp only)))))
    all_goals exact hexc q _ _ _ _ (by assumption) (by assumption)
  intro l3 e3 k3 k3' h3 tk3 hr3 hc3 F3 H3
  have N3 := H3 _ _ (by walk_at "upds") (by walk_at "upds")
  clear H3
  have b3 := Ok.jstr (c := 40) hlen (by walk_at "oks") hr3
  rcases rdO4_no (go3 _ _ hr3) hno with ⟨g7, g8⟩ | ⟨g7, g8, g9, n4, r4, go4⟩
  · rw [hc3] at g7; cases g7
  (try dsimp only)
  (repeat' (first | ((fail_if_success (with_reducible show wpAny _ _ (call (Value.ref 225) _) _ _ _)); (fail_if_success (with_reducible show wpAny _ _ (call (Value.ref 211) _) _ _ _)); (fail_if_success (with_reducible show Q _ _)); (fail_if_success (with_reducible show E _ _)); (first | ((with_reducible show wpAny _ _ (execs (_ :: _) _) _ _ _); (try dsimp only); (try refine tokz (fun _ => ?_)); walk1) | ((with_reducible show wpAny _ _ (callWith _ (Prod.fst _) _ _ _) _ _ _); dsimp only; walk1) | (k_unfold; (try dsimp only)) | (k_end; wrow_close) | walk1 | (dsimp only; walk1) | (leave1; try dsimp only)))))
  (refine' CtS.useN (nexttree_c hlen ?p1 g8 g9 n4) ?k1 ?k2 ?k3 ?k4 ?k5 ?hx ?hdn ?k6 ?kd ?ku ?_ ?_; (case k1 | k2 | k3 | k4 | k5 => assumption); (case hx | hdn => k_mem); (case p1 => walk_at "oks"); (case k6 => exact rfl); (case kd => ktr_room); (case ku => ktr_units); k_whole)
  rotate_left
  · intro hbad e9 h9 tk9 g9' F9 R9
    (try dsimp only)
    (repeat' (first | ((fail_if_success (with_reducible show wpAny _ _ (call (Value.ref 225) _) _ _ _)); (fail_if_success (with_reducible show wpAny _ _ (call (Value.ref 211) _) _ _ _)); (fail_if_success (with_reducible show Q _ _)); (fail_if_success (with_reducible show E _ _)); (first | ((with_reducible show wpAny _ _ (execs (_ :: _) _) _ _ _); (try dsimp only); (try refine tokz (fun _ => ?_)); walk1) | ((with_reducible show wpAny _ _ (callWith _ (Prod.fst _) _ _ _) _ _ _); dsimp only; walk1) | (k_unfold; (try dsimp only)) | (k_end; wrow_close) | walk1 | (dsimp only; walk1) | (leave1; try dsimp only)))))
    all_goals exact hexc (r4 hbad) _ _ _ _ (by assumption) (by assumption)
  intro T4 X4 oX4 d4 e4 kq4 hr4 hB4 h4 tk4 F4 H4 lX4
  have N4 := H4 _ (by walk_at "upds")
  clear H4
  (try dsimp only)
  have b4 := Ok.pln (c := 20) hlen (by walk_at "oks") hr4
  have g10 := rdO5_no (go4 _ _ hr4) hno
  (repeat' (first | ((fail_if_success (with_reducible show wpAny _ _ (call (Value.ref 225) _) _ _ _)); (fail_if_success (with_reducible show wpAny _ _ (call (Value.ref 211) _) _ _ _)); (fail_if_success (with_reducible show Q _ _)); (fail_if_success (with_reducible show E _ _)); (first | ((with_reducible show wpAny _ _ (execs (_ :: _) _) _ _ _); (try dsimp only); (try refine tokz (fun _ => ?_)); walk1) | ((with_reducible show wpAny _ _ (callWith _ (Prod.fst _) _ _ _) _ _ _); dsimp only; walk1) | (k_unfold; (try dsimp only)) | (k_end; wrow_close) | walk1 | (dsimp only; walk1) | (leave1; try dsimp only)))))
  · have q := rdO5_bad1 (go4 _ _ hr4) g10 (by with_reducible assumption)
    exact hexc q _ _ _ _ (by assumption) (by assumption)
  · have q := rdO5_bad2 (go4 _ _ hr4) g10 (by with_reducible assumption) (by with_reducible assumption)
    exact hexc q _ _ _ _ (by assumption) (by assumption)
  · have hb : (sgn t (skp t e4) != Str.ofString "}") = false := by with_reducible assumption
    have hc : (sgn t (skp t (skp t e4 + 1)) != Str.ofString "") = false := by with_reducible assumption
    have q := rdO5_ok (go4 _ _ hr4) g10 hb hc
    walk_at "ct_open"
    refine hret _ _ _ _ ?ret (ExtS.of (by assumption) (by assumption) (by assumption) (fun _ h => h))
    refine ⟨_, q, ?_⟩
    intro h hK hp
    obtain ⟨a1, s1⟩ := hB2 h hK (hp (X2, oX2) (by k_mem))
    obtain ⟨a2, s2⟩ := hB4 h hK (hp (X4, oX4) (by k_mem))
    exact reads_obj hp (by k_mem) (by k_mem) (by k_mem) (by k_mem) s1 s2
end
theorem anew_T3 : True := by
  w_top off
  k_with_none
  trivial
section -- T3
theorem kfill25 (w : World) (h : Heap) : (kfr w.params).In h → PySem.Challenge.rw_sz0076_01 = PySem.Challenge.rw_sz0076_01 → True := by
  k_fill
  intros
  trivial
end
section -- T3
theorem rows_T3_1 : True := by
  k_with_none
  k_with "ct_enter" => (refine enterC (K := kfr _) (by assumption) (by assumption) (by assumption) (by assumption) (by exact rfl) (by assumption) (by k_is) (by k_is) (by ktr_room) (by exact BindsTo.of_eq rfl) (by exact locs rfl) ?_ (by exact rfl) (by exact rfl) (by exact rfl) (by decide); k_whole; intro L' h' F' N' B' X' T'; (try dsimp only); (try k_fold))
  k_with "exec Raise some none" => (k_here; refine exec_raiseJ rfl ?_)
  k_with "RaiseJ" => (refine raiseJ_of (by assumption) (by assumption) (by assumption) (by assumption) (by assumption) ?_; k_whole)
  k_with "leaving ref" => (k_here; k_dflt (first | (refine leave_firstJ (by assumption) (by assumption) (by assumption) (by assumption) (by assumption) (by assumption) (by assumption) (by assumption) (by assumption) ?_; k_whole; intro h8 R8) | (refine leave_onJ' (by assumption) (by assumption) (by assumption) ?_; k_whole; intro h8 R8)))
  k_with "ct_open" => ((try dsimp only); (try k_unfold); (try dsimp only))
  k_with "eval Call" => (k_here; (with_reducible show wpAny _ _ (eval (Expr.Call (Expr.Name _ _) _ _ _) _) _ _ _); refine Call_ ?_)
  k_with "ite" => (first | (refine ite_t (by with_reducible assumption) ?_) | (refine ite_f (by with_reducible assumption) ?_))
  k_with "ite" => (k_dflt (first | (refine ite_pos (by first | omega | ((simp only [beq_iff_eq, decide_eq_true_eq]); omega)) ?_) | (refine ite_neg (by first | omega | ((simp only [beq_iff_eq, decide_eq_true_eq]); omega)) ?_)))
  k_with "ite" => (k_dflt (first | (refine ite_pos (by omega) ?_) | (refine ite_neg (by omega) ?_)))
  k_with "callWith" => (k_here; (with_reducible refine callWith_method1 ?_ (by with_unfolding_all exact rfl) (by with_unfolding_all exact rfl)))
  k_with "callWith ref" => (k_here; (with_reducible refine callWith_K0 (K := kfr _) (by exact Frag.In.keeps (by assumption) (Fr.keep (by assumption))) (by k_is) ?_); k_dflt (k_whole))
  k_with "call ref" => (k_here; (with_reducible show wpAny _ _ (call (Value.ref 148) _) _ _ _); k_dflt (refine Ct.useVP (mk := fun k => Value.str _ k) (sign_u _ _ _ _ (by omega) (by omega) (by omega)) (by assumption) (by assumption) (by assumption) (by assumption) (by assumption) (by exact rfl) (by ktr_room) (by ktr_units) ?_; k_whole; intro b9 k9 h9 tk9 F9 N9; (try dsimp only)))
  k_with "call ref" => (k_here; (with_reducible show wpAny _ _ (call (Value.ref 155) _) _ _ _); k_dflt (refine Ct.useVP (mk := fun k => Value.int _ k) (skip_u _ _ _ _ (by omega) (by omega) (by omega)) (by assumption) (by assumption) (by assumption) (by assumption) (by assumption) (by exact rfl) (by ktr_room) (by ktr_units) ?_; k_whole; intro b9 k9 h9 tk9 F9 N9; (try dsimp only)))
  k_with "call ref" => (k_here; (with_reducible show wpAny _ _ (call (Value.ref 141) _) _ _ _); k_dflt (refine Ct.useE (refuse_c _ _ _ _ (by omega) (by omega) (by omega)) (by assumption) (by assumption) (by assumption) (by assumption) (by exact rfl) (by ktr_room) (by ktr_units) ?_; k_whole; intro e9 h9 tk9 R9; (try dsimp only)))
  k_with "cts_enter" => (refine enterS (K := kfr _) (by assumption) (by assumption) (by assumption) (by assumption) (by assumption) (by exact rfl) (by assumption) (by k_is) (by k_is) (by ktr_room) (by exact BindsTo.of_eq rfl) (by exact locs rfl) ?_ (by exact rfl) (by exact rfl) (by exact rfl) (by decide); k_whole; intro g' L' h' tk' hg' F' N' B' X' T'; (try dsimp only); (try k_fold))
  k_with "upds" => (repeat' (first | ((with_reducible show UpdS _ _ _ _ _); (first | refine UpdS.here ?_ | (refine' UpdS.skip (by exact rfl) ?_) | (refine' UpdS.ne (by k_ne) ?_))) | ((with_reducible show Off _ _ _); (first | exact Off.nil | (refine' Off.skip (by exact rfl) ?_) | (refine' Off.ne (by k_ne) ?_)))))
  k_with "oks" => (repeat' (first | (with_reducible (first | exact Ok.zero | (refine Ok.skp (by assumption) ?_))) | exact Ok.mono (by with_reducible assumption) (by exact rfl) | refine Ok.add ?_))
  k_with "call ref" => (k_here; (with_reducible show wpAny _ _ (call (Value.ref 204) _) _ _ _); k_dflt (refine CtS.useD (mk := fun k => Value.str _ k) (skipm_u (by assumption) ?_) (by assumption) (by assumption) (by assumption) (by assumption) (by assumption) (by k_mem) (by k_mem) (by exact rfl) (by ktr_room) (by ktr_units) ?_; (· walk_at "oks"); k_whole; intro k9 k9' h9 tk9 F9 H9; (have N9 := H9 _ (by k_upd)); clear H9; (try dsimp only)))
  k_with "call ref" => (k_here; (with_reducible show wpAny _ _ (call (Value.ref 141) _) _ _ _); k_dflt (refine Ct.useE (refuse_c _ _ _ _ (by exact Ok.lo (by walk_at "oks")) (by first | exact Ok.hi (by walk_at "oks") (by exact rfl) | exact Ok.le (by walk_at "oks") (by exact rfl)) (by exact Ok.len (by assumption) rfl)) (by assumption) (by assumption) (by assumption) (by assumption) (by exact rfl) (by ktr_room) (by ktr_units) ?_; k_whole; intro e9 h9 tk9 R9; (try dsimp only)))
  trivial
variable {w : World} {p : Program} {loose : List Str} {mean : ExcName → Option Value} {mg mb : Str → Option Value}

section
variable {f : Addr} {dd uu dp un : Nat} {vs : List Value} {gd : Option (List Code)} {cn : Str} {cs : Scope} {a : Addr} {ccd : Value} {outer : List Env} {A₀ : Around} {base h₀ : Heap} {L : Addr} {m : Str → Option Value} {s : Shared} {Q E : Value → Shared → Prop} {pre : List (Addr × Obj)}
theorem CtS.useAll {Ret : Value → List (Addr × Obj) → Prop} {Exc : Prop} (C : CtS w p loose mean mg mb f dd uu pre vs Ret Exc) (B : Below A₀ base outer h₀) (F : Fr h₀ L s.heap m) (X : (kfr w.params).In h₀) (N : News h₀ L s.heap pre) (T : Top p loose mean mg mb h₀)
    (hck : cs.kind = .function) (hd : dp + dd < recursionLimit) (hu : un + uu < cLine)
    (ret : ∀ v tl h' tk', Ret v tl → Fr h₀ L h' m → News h₀ L h' tl → Q v { s with heap := h', toks := tk' })
    (exc : Exc → ∀ e h' tk' g, Fr h₀ L g m → RJ 122 base g (envOf cn cs L a ccd :: outer) e h' → E (.ref e) { s with heap := h', toks := tk' }) :
    wpAny (model PySem.Challenge.rw_sz0076_01.prog w) (topA dp un gd cn cs L a ccd outer) (call (.ref f) vs) Q E s :=
  C dp un gd cn cs a ccd outer A₀ base h₀ L m s Q E B F X T N hck hd hu (fun v tl h' tk' r x' => ret v tl h' tk' r (x'.fr F N) (x'.led F N)) (fun hE e h' tk' g hg R => exc hE e h' tk' g (frHidden F N hg) R)
end
set_option maxHeartbeats 2000000 in
theorem whole_top {t : Str} {x d lw lk : Addr} {q1 tt q2 ti q3 q4 : Tok} (hlen : t.length ≤ 100) (hkl : AllNe lk [(lw, W.listOf #[] 0)]) (hR : pln t (skp t 0) = .bad) (f0 : (sgn t (skp t 0) == Str.ofString "[") = false) (f1 : (sgn t (skp t 0) == Str.ofString "{") = false) :
    CtS w p loose mean mg mb 239 36 560 [(lk, W.listOf #[] 0), (lw, W.listOf #[] 0), (x, instObj 242 d), (d, rdr w t 0 lw lk q1 tt q2 ti q3 q4)] [.ref x] (Rd w .bad) (PR.bad = .bad) := by
  have n1 : pln t (skp t 0) ≠ .other := by rw [hR]; exact fun z => nomatch z
  unfold CtS topA
  intro dp un gd cn cs a ccd outer A₀ base h₀ L m s Q E B F X₀ T N hck hdp hun hret hexc
  walk_at "cts_enter"
  (repeat' (first | ((fail_if_success (with_reducible show wpAny _ _ (call (Value.ref 225) _) _ _ _)); (fail_if_success (with_reducible show wpAny _ _ (call (Value.ref 211) _) _ _ _)); (fail_if_success (with_reducible show Q _ _)); (fail_if_success (with_reducible show E _ _)); (first | ((with_reducible show wpAny _ _ (execs (_ :: _) _) _ _ _); (try dsimp only); (try refine tokz (fun _ => ?_)); walk1) | ((with_reducible show wpAny _ _ (callWith _ (Prod.fst _) _ _ _) _ _ _); dsimp only; walk1) | (k_unfold; (try dsimp only)) | (k_end; wrow_close) | walk1 | (dsimp only; walk1) | (leave1; try dsimp only)))))
  (refine' CtS.useN (nexttree_c hlen ?p1 f0 f1 n1) ?k1 ?k2 ?k3 ?k4 ?k5 ?hx ?hdn ?k6 ?kd ?ku ?_ ?_; (case k1 | k2 | k3 | k4 | k5 => assumption); (case hx | hdn => k_mem); (case p1 => walk_at "oks"); (case k6 => exact rfl); (case kd => ktr_room); (case ku => ktr_units); k_whole)
  rotate_left
  · intro hbad e9 h9 tk9 g9' F9 R9
    (try dsimp only)
    (repeat' (first | ((fail_if_success (with_reducible show wpAny _ _ (call (Value.ref 225) _) _ _ _)); (fail_if_success (with_reducible show wpAny _ _ (call (Value.ref 211) _) _ _ _)); (fail_if_success (with_reducible show Q _ _)); (fail_if_success (with_reducible show E _ _)); (first | ((with_reducible show wpAny _ _ (execs (_ :: _) _) _ _ _); (try dsimp only); (try refine tokz (fun _ => ?_)); walk1) | ((with_reducible show wpAny _ _ (callWith _ (Prod.fst _) _ _ _) _ _ _); dsimp only; walk1) | (k_unfold; (try dsimp only)) | (k_end; wrow_close) | walk1 | (dsimp only; walk1) | (leave1; try dsimp only)))))
    all_goals exact hexc ((fun _ => rfl) hbad) _ _ _ _ (by assumption) (by assumption)
  intro T1 X1 oX1 d1 e1 kq1 hr1
  rw [hR] at hr1
  cases hr1
theorem whole_c {t : Str} {x d lw lk : Addr} {q1 tt q2 ti q3 q4 : Tok} {R : PR} (hlen : t.length ≤ 100) (hkl : AllNe lk [(lw, W.listOf #[] 0)]) (hR : rd t = R) (hno : R ≠ .other) :
    CtS w p loose mean mg mb 239 36 560 [(lk, W.listOf #[] 0), (lw, W.listOf #[] 0), (x, instObj 242 d), (d, rdr w t 0 lw lk q1 tt q2 ti q3 q4)] [.ref x] (Rd w R) (R = .bad) := by
  unfold rd at hR
  by_cases f0 : (sgn t (skp t 0) == Str.ofString "[") = true
  · rw [if_pos f0] at hR
    exact whole_arr hlen hkl hR hno f0
  rw [if_neg f0] at hR
  by_cases f1 : (sgn t (skp t 0) == Str.ofString "{") = true
  · rw [if_pos f1] at hR
    exact whole_obj hlen hkl hR hno (bof f0) f1
  rw [if_neg f1] at hR
  split at hR
  · rename_i hb
    subst hR
    exact whole_top hlen hkl hb (bof f0) (bof f1)
  · exact absurd hR.symm hno
set_option maxHeartbeats 2000000 in
theorem read_c (t : Str) (tk : Tok) (hlen : t.length ≤ 100) (R : PR) (hR : rd t = R) (hno : R ≠ .other) : Ct w p loose mean mg mb 253 40 600 [.str t tk] (Rd w R) (R = .bad) := by
  unfold Ct topA
  intro dp un gd cn cs a ccd outer A₀ base h₀ L m s Q E B F X₀ T hck hdp hun hret hexc
  walk_at "ct_enter"
  (repeat' (first | ((fail_if_success (with_reducible show wpAny _ _ (call (Value.ref 183) _) _ _ _)); (fail_if_success (with_reducible show wpAny _ _ (call (Value.ref 239) _) _ _ _)); (fail_if_success (with_reducible show Q _ _)); (fail_if_success (with_reducible show E _ _)); (first | ((with_reducible show wpAny _ _ (callWith _ (Prod.fst _) _ _ _) _ _ _); dsimp only; walk1) | (k_unfold; (try dsimp only)) | (k_end; wrow_close) | walk1 | (dsimp only; walk1) | (leave1; try dsimp only)))))
  (refine' CtS.useAll (whole_c hlen ?hkl hR hno) ?k1 ?k2 ?k3 ?k4 ?k5 ?k6 ?kd ?ku ?_ ?_; (case k1 | k2 | k3 | k4 | k5 => assumption); (case hkl => exact ⟨by k_ne, trivial⟩); (case k6 => exact rfl); (case kd => ktr_room); (case ku => ktr_units); k_whole)
  rotate_left
  · intro hbad e9 h9 tk9 g9' F9 R9
    (try dsimp only)
    (repeat' (first | ((fail_if_success (with_reducible show wpAny _ _ (call (Value.ref 183) _) _ _ _)); (fail_if_success (with_reducible show wpAny _ _ (call (Value.ref 239) _) _ _ _)); (fail_if_success (with_reducible show Q _ _)); (fail_if_success (with_reducible show E _ _)); (first | ((with_reducible show wpAny _ _ (callWith _ (Prod.fst _) _ _ _) _ _ _); dsimp only; walk1) | (k_unfold; (try dsimp only)) | (k_end; wrow_close) | walk1 | (dsimp only; walk1) | (leave1; try dsimp only)))))
    all_goals exact hexc hbad _ _ _ (by assumption)
  intro v tl h1 tk1 hr F1 N1
  (try dsimp only)
  (repeat' (first | ((fail_if_success (with_reducible show wpAny _ _ (call (Value.ref 183) _) _ _ _)); (fail_if_success (with_reducible show wpAny _ _ (call (Value.ref 239) _) _ _ _)); (fail_if_success (with_reducible show Q _ _)); (fail_if_success (with_reducible show E _ _)); (first | ((with_reducible show wpAny _ _ (callWith _ (Prod.fst _) _ _ _) _ _ _); dsimp only; walk1) | (k_unfold; (try dsimp only)) | (k_end; wrow_close) | walk1 | (dsimp only; walk1) | (leave1; try dsimp only)))))
  walk_at "ct_open"
  exact hret _ _ _ _ hr (Ext.of (by assumption) (by assumption) (fun _ h => h))
end
section -- M1
/-- all that h holds but the thing at D stands in h', and the written objects are new (or D itself) -/
def ExtM (h h' : Heap) (D : Addr) (tl : List (Addr × Obj)) : Prop := (∀ b o, b ≠ D → h.get? b = some o → h'.get? b = some o) ∧ ∀ p ∈ tl, h'.get? p.1 = some p.2 ∧ (h.get? p.1 = none ∨ p.1 = D)
section
variable {h₀ g h h' : Heap} {L L' D : Addr} {m m' : Str → Option Value} {news tl : List (Addr × Obj)} {o : Obj}
theorem ExtM.of (g1 : ∀ b ob, b ≠ D → h.get? b = some ob → g.get? b = some ob) (F : Fr g L' h' m') (N : News g L' h' news) (hs : ∀ p ∈ tl, p ∈ news) : ExtM h h' D tl := by
  refine ⟨fun b o hb e => F.keep b o (g1 b o hb e), fun p hp => ⟨(N p (hs p hp)).1, ?_⟩⟩
  by_cases q : p.1 = D
  · exact .inr q
  · refine .inl ?_
    cases e : h.get? p.1 with
    | none => rfl
    | some ob => have := (N p (hs p hp)).2.2; rw [g1 _ _ q e] at this; cases this
theorem ExtM.fr (x : ExtM h h' D tl) (F : Fr h₀ L h m) (N : News h₀ L h [(D, o)]) : Fr h₀ L h' m := by
  have nD := N (D, o) (by simp)
  obtain ⟨oL, es, ep, hL, r⟩ := F.ns
  refine ⟨⟨oL, es, ep, x.1 _ _ (Ne.symm nD.2.1) hL, r⟩, fun b ob e => x.1 b ob (fun z => ?_) (F.keep b ob e), F.above⟩
  have := nD.2.2
  rw [← z, e] at this; cases this
theorem ExtM.led (x : ExtM h h' D tl) (F : Fr h₀ L h m) (N : News h₀ L h ((D, o) :: news)) (hn : ∀ p ∈ news, p.1 ≠ D) : News h₀ L h' (tl ++ news) := fun p hp => by
  have nD := N (D, o) (by simp)
  obtain ⟨oL, _, _, hL, _⟩ := F.ns
  rcases List.mem_append.mp hp with q | q
  · have y := x.2 p q
    refine ⟨y.1, fun z => ?_, ?_⟩
    · rcases y.2 with y | y
      · rw [z, hL] at y; cases y
      · exact nD.2.1 (y.symm.trans z)
    · rcases y.2 with y | y
      · exact kts_none F.keep y
      · rw [y]; exact nD.2.2
  · have P := N p (.tail _ q)
    exact ⟨x.1 _ _ (hn p q) P.1, P.2⟩
theorem ExtM.apart (x : ExtM h h' D tl) (N : News h₀ L h ((D, o) :: news)) (hn : ∀ p ∈ news, p.1 ≠ D) : ∀ p ∈ tl, ∀ q ∈ news, p.1 ≠ q.1 := fun p hp q hq z => by
  rcases (x.2 p hp).2 with a | a
  · have b := (N q (.tail _ hq)).1
    rw [z, b] at a; cases a
  · exact hn q hq (z.symm.trans a)
end
abbrev topE (dp un : Nat) (gd : Option (List Code)) (env : Env) (outer : List Env) : Around := { handled := none, depth := dp, frames := some (env :: outer), guards := gd, units := un }
/-- what a call of the def at f does, which may write the thing at D -/
def CtM (w : World) (p : Program) (loose : List Str) (mean : ExcName → Option Value) (mg mb : Str → Option Value) (f : Addr) (dd uu : Nat) (D : Addr) (o : Obj) (vs : List Value) (Ret : Value → List (Addr × Obj) → Prop) : Prop :=
  ∀ (dp un : Nat) (gd : Option (List Code)) (env : Env) (outer : List Env) (A₀ : Around) (base h₀ : Heap) (L : Addr) (m : Str → Option Value) (s : Shared) (Q E : Value → Shared → Prop),
    Below A₀ base outer h₀ → Fr h₀ L s.heap m → (kfr w.params).In h₀ → Top p loose mean mg mb h₀ → News h₀ L s.heap [(D, o)] → env.frame = some L → env.scope.kind = .function → dp + dd < recursionLimit → un + uu < cLine →
    (∀ v tl h' tk', Ret v tl → ExtM s.heap h' D tl → Q v { s with heap := h', toks := tk' }) →
    wpAny (model PySem.Challenge.rw_sz0076_01.prog w) (topE dp un gd env outer) (call (.ref f) vs) Q E s
section
variable {prog : Program} {w : World} {A A₀ : Around} {E : Value → Shared → Prop} {s : Shared} {K : Frag} {L : Addr} {h₀ base : Heap} {m mg mb : Str → Option Value} {p : Program} {loose : List Str} {mean : ExcName → Option Value} {D : Addr} {o : Obj}
/-- into a def's body (which has cells): all that stands but the thing at D is the ground -/
theorem enterM {env : Env} {outer : List Env} {Q : Value → Shared → Prop} {name qual : Str} {params : Arguments} {body : List Stmt} {scope : Scope} {dV kV doc pm cdv ct oc : Value} {an od : Option Addr} {osl : Array (Option Value)} {f : Addr} {args : List Value} {binds : List (Str × Value)}
    (B : Below A₀ base outer h₀) (F : Fr h₀ L s.heap m) (X₀ : K.In h₀) (T : Top p loose mean mg mb h₀) (N : News h₀ L s.heap [(D, o)]) (hA : A.frames = some (env :: outer)) (hf : env.frame = some L) (hke : env.scope.kind = .function)
    (ho : K.lookup f = some ⟨oc, od, .func (fnOf name qual params body scope dV kV doc pm an cdv ct), osl⟩) (hcd : codeIn K cdv qual = true) (hroom : A.depth < recursionLimit)
    (hbind : BindsTo s (fnOf name qual params body scope dV kV doc pm an cdv ct) ⟨args, []⟩ binds) (hkind : (binds.all fun y => scope.names.lookup y.1 == some .local || scope.names.lookup y.1 == some .cell) = true)
    (hnd : ((cellsFrom 0 scope.names []).map (·.1)).Nodup)
    (h : ∀ g L' h₁ tk cells, (∀ b ob, b ≠ D → s.heap.get? b = some ob → g.get? b = some ob) → Fr g L' h₁ (bindL (envOfC qual scope L' f cdv).kindOf binds fun _ => none) → News g L' h₁ (cells ++ [(D, o)]) →
      CellsAre (bindC (envOfC qual scope L' f cdv).kindOf binds fun _ => none) (cellsFrom (L' + 1) scope.names []) cells → Below A base (env :: outer) g → K.In g → Top p loose mean mg mb g → (∀ p ∈ [(D, o)], p.1 < L') →
      wpAny (model prog w) (A.deeper (envOfC qual scope L' f cdv)) (execs body (envOfC qual scope L' f cdv))
        (fun fl s' => Q (match fl with | .ret v => v | _ => .none) s')
        (fun e s' => wpAny (model prog w) (A.deeper (envOfC qual scope L' f cdv)) (leaving (envOfC qual scope L' f cdv) e) (fun _ s'' => E e s'') (fun e' s'' => E e' s'') s')
        { s with heap := h₁, toks := tk })
    (hco : scope.isCoroutine = false) (hgen : scope.isGenerator = false) (hk : scope.kind = .function) : wpAny (model prog w) A (call (.ref f) args) Q E s := by
  have X := X₀.keeps F.keep
  have nD := N (D, o) (by simp)
  have nm : ∀ b ob, h₀.get? b = some ob → b ∉ [D] := fun b ob e q => by
    have z : b = D := by simpa using q
    have := nD.2.2
    rw [← z, e] at this; cases this
  have st : h₀.StaysIn (hideAll s.heap [D]) := fun b ob e => hideAll_get _ (F.keep b ob e) (nm b ob e)
  have nL : L ∉ [D] := fun q => nD.2.1 (List.mem_singleton.mp q).symm
  have B₁ := pushX B F hf hke
  have B₂ : Below A base (env :: outer) (hideAll s.heap [D]) := ⟨hA, fun b ob e => st b ob (B.stays b ob e), funFrames_hideAll B₁.frames fun env' he b hb hf' => by
    cases he with
    | head => exact nL ((Option.some.inj (hf.symm.trans hf') : L = b) ▸ hb)
    | tail _ he =>
      obtain ⟨L₁, o₁, hf₁, ho₁⟩ := funFrames_in B.frames env' he
      rw [hf₁] at hf'
      exact nm L₁ o₁ ho₁ ((Option.some.inj hf' : L₁ = b) ▸ hb)⟩
  refine wpAny_call (codeAny_call_function (fd := fnOf name qual params body scope dV kV doc pm an cdv ct) hroom (X _ _ ho) rfl hco hgen rfl (codeRec_of X hcd) (hbind _ _ _ _ ?_))
  refine wpAny_newFunctionEnv_cells hk (kindsX hkind _) fun env' he s' x => ?_
  subst he
  refine ⟨(T.nolimit.keeps F.keep).keeps x.toInCall.keep, codeAny_func ?_⟩
  obtain ⟨h₁, tk, rfl, _⟩ := x.done
  have hk₁ := x.toInCall.keep
  obtain ⟨cells, NC, Y⟩ := Cl.news (h₀ := s.heap) (Nat.le_refl _) fun n c hm => ⟨x.cell n c (lookup_of_mem_nodup (cellsFrom_names scope.names 0 (s.heap.objs.size + 1) [] [] rfl ▸ hnd) hm), x.above n c hm⟩
  refine h (hideAll s.heap [D]) _ h₁ tk cells (fun b ob hb e => hideAll_get _ e (by simpa using hb)) ⟨x.toInCall.ns, fun b ob e => hk₁ b ob (of_hideAll _ e), Nat.le_of_eq (hideAll_size _ _)⟩
    (fun p hp => ?_) Y B₂ (X₀.keeps st) (T.keeps st) (fun p hp => ?_)
  · rcases List.mem_append.mp hp with hp | hp
    · refine ⟨(NC p hp).1, (NC p hp).2.1, ?_⟩
      cases q : (hideAll s.heap [D]).get? p.1 with
      | none => rfl
      | some ob => have := of_hideAll _ q; rw [(NC p hp).2.2] at this; cases this
    · have z : p = (D, o) := by simpa using hp
      subst z
      exact ⟨hk₁ _ _ nD.1, Nat.ne_of_lt (Heap.lt_size nD.1), hideAll_none _ (by simp)⟩
  · have z : p = (D, o) := by simpa using hp
    subst z
    exact Heap.lt_size nD.1
end
end
section -- M1b
section
variable {prog : Program} {w : World} {A : Around} {E : Value → Shared → Prop} {s : Shared} {h₀ : Heap} {L : Addr} {m : Str → Option Value} {news : List (Addr × Obj)}
theorem sliceTo2 {sl : Addr} {u : Tok} {Q : Int × Int × Nat → Shared → Prop} (hs : s.heap.IsSliceOf sl .none (.int 2 u) .none) (h : Q ((0 : Int), 1, 2) s) :
    wpAny (model prog w) A (Builtin.Slice.sliceApplied (.ref sl) (pure (3 : Int))) Q E s := by
  obtain ⟨os, hos, hcs, hds⟩ := id hs
  unfold Builtin.Slice.sliceApplied Builtin.Slice.sliceFields
  refine wpAny_bind (wpAny_bind (wpAny_field hos hds (x := .none) rfl (wpAny_bind (wpAny_field hos hds (x := .int 2 u) rfl (wpAny_bind (wpAny_field hos hds (x := .none) rfl (wpAny_pure ?_)))))))
  refine wpAny_bind (slicePart_none ?_)
  show wpAny _ _ (if ((1 : Int) == 0) = true then _ else _) _ _ s
  rw [if_neg (by decide)]
  refine wpAny_bind (slicePart_none (wpAny_bind (slicePart_int (wpAny_bind (wpAny_pure ?_)))))
  show wpAny _ _ (match Builtin.Slice.sliceAdjust none (some (2 : Int)) 1 3 with | (lo, hi) => pure (lo, (1 : Int), Builtin.Slice.slicePlaces lo hi 1)) _ _ s
  rw [show Builtin.Slice.sliceAdjust none (some (2 : Int)) 1 3 = ((0 : Int), (2 : Int)) from by decide +kernel]
  show wpAny _ _ (pure ((0 : Int), (1 : Int), Builtin.Slice.slicePlaces (0 : Int) (2 : Int) 1)) _ _ s
  rw [show Builtin.Slice.slicePlaces (0 : Int) (2 : Int) 1 = 2 from by decide +kernel]
  exact wpAny_pure h
theorem getTo2 {t sl : Addr} {a b c : Value} {u : Tok} {Q : Value → Shared → Prop} (ht : IsTup s.heap t #[a, b, c]) (hs : s.heap.IsSliceOf sl .none (.int 2 u) .none)
    (h : Q (.ref s.heap.objs.size) { s with heap := s.heap.push { cls := .type "tuple", data := .seq #[a, b] } }) : wpAny (model prog w) A (getItem (.ref t) (.ref sl)) Q E s := by
  have hdrop : sizeOk (.seq #[a, b]) := Nat.le_of_ble_eq_true rfl
  obtain ⟨os, hos, hcs, hds⟩ := id hs
  have hTs : s.TypeIs (.ref sl) "slice" := ⟨os, hos, hcs⟩
  unfold getItem
  try with_reducible refine wpAny_holding ?_
  first | refine wpAny_bind (wpAny_pure ?_) | skip
  refine wpAny_bind (wpAny_sequenceKey ht.typeIs (by decide) ?_)
  refine wpAny_bind (wpAny_callSpecial?_slot (name := Str.ofString "__getitem__") ht.typeIs slot_tuple_getitem
    (wpAny_call_entry slot_tuple_getitem ht.typeIs entry_tuple_getitem ?_ (args_tuple_getitem _ _)))
  show wpAny _ _ (Builtin.Tuple.tupleItemsOf (.ref t) >>= _) _ _ s
  refine wpAny_bind (tupleItemsOf_ ht ?_)
  refine wpAny_bind (wpAny_typeOf hTs ?_)
  rw [if_pos (by decide)]
  refine wpAny_bind (sliceTo2 hs ?_)
  show wpAny _ _ (if ((0 : Int) == 0 && (1 : Int) == 1 && 2 == (#[a, b, c] : Array Value).size) = true then _ else _) _ _ s
  rw [if_neg (by simp)]
  have e : ((List.range 2).filterMap fun (k : Nat) => (#[a, b, c] : Array Value)[((0 : Int) + (k : Int) * 1).toNat]?).toArray = #[a, b] := rfl
  rw [e]
  first
    | exact wpAny_bind (m := Builtin.Tuple.tupleExact _) (wpAny_newObj_type (wpAny_pure ⟨_, rfl, wpAny_pure h⟩) hdrop)
    | exact wpAny_bind (m := Builtin.Tuple.tupleExact _) (wpAny_newObj_type (wpAny_bind (wpAny_pure (wpAny_pure ⟨_, rfl, wpAny_pure h⟩))) hdrop)
    | exact wpAny_bind (wpAny_bind (m := Builtin.Tuple.tupleExact _) (wpAny_newObj_type (wpAny_pure (wpAny_pure ⟨_, rfl, wpAny_pure h⟩)) hdrop))
    | exact wpAny_bind (wpAny_bind (m := Builtin.Tuple.tupleExact _) (wpAny_newObj_type (wpAny_pure ⟨_, rfl, wpAny_pure h⟩) hdrop))
theorem slice_to2 {value slice : Expr} {t : Addr} {a b c : Value} {u : Tok} {ops : List Value} {Q : Value → Shared → Prop}
    (F : Fr h₀ L s.heap m) (N : News h₀ L s.heap news) (ht : IsTup s.heap t #[a, b, c])
    (h : ∀ D h', Fr h₀ L h' m → News h₀ L h' ((D, { cls := .type "tuple", data := .seq #[a, b] }) :: news) → (∀ p ∈ news, p.1 < D) → Q (.ref D) { s with heap := h' })
    (hs : subscripted slice false (.ref t) (.ref s.heap.objs.size) = operate ops (getItem (.ref t) (.ref s.heap.objs.size)))
    (hg : ∀ r, letTemporaryGo value (.ref t) r = pure ()) :
    wpAny (model prog w) A (subscriptTail value slice (.ref t) (.ref s.heap.objs.size)) Q E { s with heap := s.heap.push { cls := .type "slice", data := .fields #[.none, .int 2 u, .none] } } := by
  have ht' : IsTup (s.heap.push { cls := .type "slice", data := .fields #[.none, .int 2 u, .none] }) t #[a, b, c] := ht.keeps fun _ _ e => Heap.get?_push_of_some _ e
  refine subscriptTail_ops (s := { s with heap := s.heap.push { cls := .type "slice", data := .fields #[.none, .int 2 u, .none] } }) ht'.typeIs slot_tuple_getitem.lookup
    (getTo2 ht' (Heap.IsSliceOf.new ..) ?_) hs hg
  have N1 := News.push (F.push { cls := .type "slice", data := .fields #[.none, .int 2 u, .none] }) (N.grown fun _ _ e => Heap.get?_push_of_some _ e) { cls := .type "tuple", data := .seq #[a, b] }
  rw [Heap.size_push] at N1
  show Q (.ref (s.heap.push _).objs.size) _
  rw [Heap.size_push]
  exact h _ _ ((F.push _).push _) N1 fun p hp => Nat.lt_succ_of_lt (Heap.lt_size (N p hp).1)
end
end
theorem anew_M2 : True := by
  w_top off
  k_with_none
  trivial
section -- M2
theorem kfill30 (w : World) (h : Heap) : (kfr w.params).In h → PySem.Challenge.rw_sz0076_01 = PySem.Challenge.rw_sz0076_01 → True := by
  k_fill
  intros
  trivial
end
end
end
end
section
local macro_rules | `(tactic| walk_at $s:str) => `(tactic| k_extra $s)
section -- M2
theorem rows_M2_1 : True := by
  k_with_none
  k_with "ct_enterM" => (refine enterM (K := kfr _) (by assumption) (by assumption) (by assumption) (by assumption) (by assumption) (by exact rfl) (by assumption) (by assumption) (by k_is) (by k_is) (by ktr_room) (by exact BindsTo.of_eq rfl) (by exact rfl) (by decide +kernel) ?_ (by exact rfl) (by exact rfl) (by exact rfl); k_whole; intro g' L' h' tk' cells' Hg' F' N' Y' B' X' T' l1; (try k_lt l1); k_cells Y'; (try simp only [List.cons_append, List.nil_append] at N'); (try dsimp only); (try k_fold))
  k_with "ct_open" => ((try dsimp only); (try k_unfold); (try dsimp only))
  k_with "ite" => (first | (refine ite_t (by with_reducible assumption) ?_) | (refine ite_f (by with_reducible assumption) ?_))
  k_with "callWith" => (k_here; (with_reducible refine callWith_method1 ?_ (by with_unfolding_all exact rfl) (by with_unfolding_all exact rfl)))
  trivial
variable {w : World} {p : Program} {loose : List Str} {mean : ExcName → Option Value} {mg mb : Str → Option Value}
def lst1 (n : Int) (k : Tok) (c : Nat) : Obj := { cls := .type "list", data := .seq #[.int n k] c }
theorem mod6 (x : Int) : 0 ≤ Int.fmod x 6 ∧ Int.fmod x 6 < 6 := by
  rw [Int.fmod_eq_emod_of_nonneg _ (by decide)]; omega
section
variable {prog : Program} {A : Around} {E : Value → Shared → Prop} {s : Shared} {Q : Value → Shared → Prop}
theorem menu6 {value slice : Expr} {l : Addr} {v0 v1 v2 v3 v4 v5 : Value} {k : Int} {u : Tok} (hl : s.heap.IsList l #[v0, v1, v2, v3, v4, v5])
    (hb : 0 ≤ k ∧ k < 6) (q0 : k = 0 → Q v0 s) (q1 : k = 1 → Q v1 s) (q2 : k = 2 → Q v2 s) (q3 : k = 3 → Q v3 s) (q4 : k = 4 → Q v4 s) (q5 : k = 5 → Q v5 s)
    (hs : subscripted slice false (.ref l) (.int k u) = operate [.ref l, .int k u] (getItem (.ref l) (.int k u))) :
    wpAny (model prog w) A (subscriptTail value slice (.ref l) (.int k u)) Q E s := by
  obtain ⟨h0, h1⟩ := hb
  have : k = 0 ∨ k = 1 ∨ k = 2 ∨ k = 3 ∨ k = 4 ∨ k = 5 := by omega
  rcases this with r | r | r | r | r | r <;> subst r
  · exact tail_any hl.typeIs slot_list_getitem.lookup (wpAny_getItem_list hl (by decide) (by decide) (x := v0) rfl (q0 rfl)) hs
  · exact tail_any hl.typeIs slot_list_getitem.lookup (wpAny_getItem_list hl (by decide) (by decide) (x := v1) rfl (q1 rfl)) hs
  · exact tail_any hl.typeIs slot_list_getitem.lookup (wpAny_getItem_list hl (by decide) (by decide) (x := v2) rfl (q2 rfl)) hs
  · exact tail_any hl.typeIs slot_list_getitem.lookup (wpAny_getItem_list hl (by decide) (by decide) (x := v3) rfl (q3 rfl)) hs
  · exact tail_any hl.typeIs slot_list_getitem.lookup (wpAny_getItem_list hl (by decide) (by decide) (x := v4) rfl (q4 rfl)) hs
  · exact tail_any hl.typeIs slot_list_getitem.lookup (wpAny_getItem_list hl (by decide) (by decide) (x := v5) rfl (q5 rfl)) hs
end
end
section
local macro_rules | `(tactic| walk_at "subscriptTail Name Name ref int") => `(tactic| (k_here; k_dflt (refine' menu6 ?l ?hb ?q0 ?q1 ?q2 ?q3 ?q4 ?q5 ?hs; (case hs => with_unfolding_all rfl); (case l => kmk_list); (case hb => exact mod6 _); k_whole; all_goals (intro hk; (try (exfalso; omega))))))
section -- M2
variable {w : World} {p : Program} {loose : List Str} {mean : ExcName → Option Value} {mg mb : Str → Option Value}
theorem rows_M2_2 : True := by
  k_with "subscriptTail Name Slice ref ref" => (k_here; k_dflt (refine slice_to2 (by k_asm) (by k_asm) (by exact News.isTup (by k_asm) (by k_mem)) ?_ (by with_unfolding_all rfl) (by kmk_pure)); intro D' h' F' N' l1; (try k_lt l1))
  trivial
theorem sub3 {news : List (Addr × Obj)} {a b c : Addr × Obj} (h1 : a ∈ news) (h2 : b ∈ news) (h3 : c ∈ news) : ∀ p ∈ [a, b, c], p ∈ news := fun p hp => by
  rcases List.mem_cons.mp hp with e | hp
  · exact e ▸ h1
  rcases List.mem_cons.mp hp with e | hp
  · exact e ▸ h2
  rcases List.mem_cons.mp hp with e | hp
  · exact e ▸ h3
  · cases hp
def tupM (a b : Value) (n : Nat) : Obj := { cls := .type "tuple", data := .seq #[a, b] n }
def mdK (f : Int) : Str := if f = 0 then Str.ofString "null" else if f = 1 then Str.ofString "bool" else if f = 2 then Str.ofString "number" else if f = 3 then Str.ofString "number" else Str.ofString "string"
def mdX (f : Int) : Str := if f = 0 then Str.ofString "null" else if f = 1 then Str.ofString "true" else if f = 2 then Str.ofString "1" else if f = 3 then Str.ofString "0" else if f = 4 then Str.ofString "\"a\\n\"" else Str.ofString "\"]\""
def mdV (f : Int) : PyData := if f = 0 then .none else if f = 1 then .bool true else if f = 2 then .int 4607182418800017408 else if f = 3 then .int 0 else if f = 4 then .str (Str.ofString "a\n") else .str (Str.ofString "]")
/-- a made tree and its text -/
def Md (D : Addr) (n : Int) (v : Value) (tl : List (Addr × Obj)) : Prop := ∃ T X ka kt n1 n2 kn nc v1, v = .ref T ∧ tl = [(T, tupM (.ref X) (.str (mdX (n.fmod 6)) kt) n1), (X, tupM (.str (mdK (n.fmod 6)) ka) v1 n2), (D, lst1 (n.fdiv 9) kn nc)] ∧ ∀ h, Reads h v1 (mdV (n.fmod 6)) []
theorem md_of {D T X : Addr} {n f : Int} {ka kt kn : Tok} {n1 n2 nc : Nat} {v1 : Value} (hf : n.fmod 6 = f) {K x : Str} {d : PyData} (h1 : mdK f = K) (h2 : mdX f = x) (h3 : mdV f = d) (h : ∀ h, Reads h v1 d []) :
    Md D n (.ref T) [(T, tupM (.ref X) (.str x kt) n1), (X, tupM (.str K ka) v1 n2), (D, lst1 (n.fdiv 9) kn nc)] := by
  subst hf h1 h2 h3
  exact ⟨_, _, _, _, _, _, _, _, _, rfl, rfl, h⟩
set_option maxHeartbeats 1000000 in
theorem made0 (D : Addr) (n : Int) (k k2 : Tok) (c : Nat) (hn : 0 ≤ n) :
    CtM w p loose mean mg mb 258 10 100 D (lst1 n k c) [.ref D, .int 0 k2] (Md D n) := by
  unfold CtM topE
  intro dp un gd env outer A₀ base h₀ L m s Q E B F X₀ T N hf hke hdp hun hret
  walk_at "ct_enterM"
  (repeat' (first | ((fail_if_success (with_reducible show wpAny _ _ (subscriptTail (Expr.Name _ _) (Expr.Name _ _) _ _) _ _ _)); (fail_if_success (with_reducible show Q _ _)); (first | (k_unfold; (try dsimp only)) | (k_end; wrow_close) | walk1 | (dsimp only; walk1) | (leave1; try dsimp only)))))
  walk_at "subscriptTail Name Name ref int"
  all_goals (repeat' (first | ((fail_if_success (with_reducible show wpAny _ _ (subscriptTail (Expr.Name _ _) (Expr.Name _ _) _ _) _ _ _)); (fail_if_success (with_reducible show Q _ _)); (first | (k_unfold; (try dsimp only)) | (k_end; wrow_close) | walk1 | (dsimp only; walk1) | (leave1; try dsimp only)))))
  all_goals with_reducible (walk_at "subscriptTail Name Name ref int")
  all_goals (repeat' (first | ((fail_if_success (with_reducible show wpAny _ _ (subscriptTail (Expr.Name _ _) (Expr.Name _ _) _ _) _ _ _)); (fail_if_success (with_reducible show Q _ _)); (first | (k_unfold; (try dsimp only)) | (k_end; wrow_close) | walk1 | (dsimp only; walk1) | (leave1; try dsimp only)))))
  all_goals first
    | exact hret _ _ _ _ (md_of (by assumption) rfl rfl rfl fun h => Reads.none) (ExtM.of (by assumption) (by assumption) (by assumption) (sub3 (by k_mem) (by k_mem) (by k_mem)))
    | exact hret _ _ _ _ (md_of (by assumption) rfl rfl rfl fun h => Reads.bool _) (ExtM.of (by assumption) (by assumption) (by assumption) (sub3 (by k_mem) (by k_mem) (by k_mem)))
    | exact hret _ _ _ _ (md_of (by assumption) rfl rfl rfl fun h => Reads.int _ _) (ExtM.of (by assumption) (by assumption) (by assumption) (sub3 (by k_mem) (by k_mem) (by k_mem)))
    | exact hret _ _ _ _ (md_of (by assumption) rfl rfl rfl fun h => Reads.str _ _) (ExtM.of (by assumption) (by assumption) (by assumption) (sub3 (by k_mem) (by k_mem) (by k_mem)))
end
section -- N1
open PyProof.Rows.LCg
def Off4 (e it C D : Addr) (news : List (Addr × Obj)) : Prop := ∀ p ∈ news, p.1 ≠ e ∧ p.1 ≠ it ∧ p.1 ≠ C ∧ p.1 ≠ D
def TurnEnd (h₀ : Heap) (L : Addr) (m : Str → Option Value) (s₁ : Shared) (e : Addr) (oe : Obj) (it : Addr) (oi : Obj) (C : Addr) (oC : Obj) (D : Addr) (oD : Obj) (S : List (Addr × Obj) → Prop) (rest : Value → List (Addr × Obj) → Prop) (y : Value) (s₂ : Shared) : Prop :=
  ∃ h' tk news', s₂ = { s₁ with heap := h', toks := tk } ∧ Fr h₀ L h' m ∧ News h₀ L h' ((e, oe) :: (it, oi) :: (C, oC) :: (D, oD) :: news') ∧ Off4 e it C D news' ∧ S news' ∧ rest y news'
/-- the turns of a list comprehension over enumerate, a nested pair being its target -/
def TurnE (prog : Program) (w : World) (A : Around) (h₀ : Heap) (L : Addr) (m : Str → Option Value) (env : Env) (elt : Expr) (a x y : Str) (scope : Scope) (cl : List (Str × Addr)) (s : Shared) (its : Array Value) (S : List (Addr × Obj) → Prop)
    (Fin : List Value → List (Addr × Obj) → Prop) : Nat → Nat → List Value → List (Addr × Obj) → Prop
  | 0, _, ys, news => Fin ys news
  | k + 1, i, ys, news => ∀ v, its[i]? = some v → ∃ (t : Addr) (ot : Obj) (v₁ v₂ : Value) (nt : Nat), v = .ref t ∧ (t, ot) ∈ news ∧ ot.cls = .type "tuple" ∧ ot.data = .seq #[v₁, v₂] nt ∧
      ∀ e oe it oi C oC D m₂ h tk ti (E' : Value → Shared → Prop), NsObj oC m₂ → m₂ a = some (.int (i : Int) ti) → m₂ x = some v₁ → m₂ y = some v₂ → Fr h₀ L h m → News h₀ L h ((e, oe) :: (it, oi) :: (C, oC) :: (D, lst ys) :: news) → Off4 e it C D news →
      wpAny (model prog w) A (eval elt (compEnvC scope cl C env)) (TurnEnd h₀ L m { s with heap := h, toks := tk } e oe it oi C oC D (lst ys) S (fun yv news' => TurnE prog w A h₀ L m env elt a x y scope cl s its S Fin k (i + 1) (ys ++ [yv]) news')) E' { s with heap := h, toks := tk }
theorem off1_of {D : Addr} : ∀ {l : List (Addr × Obj)}, (∀ p ∈ l, p.1 ≠ D) → Off1 D l
  | [], _ => trivial
  | _ :: _, h => ⟨h _ List.mem_cons_self, off1_of fun p hp => h p (List.mem_cons_of_mem _ hp)⟩
section
variable {prog : Program} {w : World} {A : Around} {E : Value → Shared → Prop} {s : Shared} {h₀ : Heap} {L : Addr} {m : Str → Option Value} {env : Env}
theorem block_E {elt iter : Expr} {a x y : Str} {pa px py p1 p2 : Pos} {k1 k2} {scope : Scope} {cl : List (Str × Addr)} {pos : Pos} {s₂ : Shared} {e it l : Addr} {its : Array Value} {S : List (Addr × Obj) → Prop} {news : List (Addr × Obj)}
    {Fin : List Value → List (Addr × Obj) → Prop} {RR : Value → Addr → Result → Shared → Prop}
    (hh : A.handled = none) (he : IsEnum s₂.heap e it 0 .none) (hit : s₂.heap.IsListIter it l 0) (hl : s₂.heap.IsList l its) (hei : e ≠ it) (hle : l ≠ e) (hli : l ≠ it) (hsz : its.size ≤ sizeLine)
    (hcell : ∀ z ∈ scope.names, z.2 ≠ .cell) (hkind : scope.kind = .function) (ha : scope.names.lookup a = some .local) (hx : scope.names.lookup x = some .local) (hy : scope.names.lookup y = some .local) (hax : a ≠ x) (hay : a ≠ y) (hxy : x ≠ y)
    (F : Fr h₀ L s₂.heap m) (N : News h₀ L s₂.heap news) (hLe : L ≠ e) (hLi : L ≠ it) (e₀ : h₀.get? e = none) (i₀ : h₀.get? it = none) (off : ∀ p ∈ news, p.1 ≠ e ∧ p.1 ≠ it) (hS : S news)
    (hSl : ∀ h nw, (∀ b o, h₀.get? b = some o → h.get? b = some o) → News h₀ L h nw → S nw → h.IsList l its)
    (R : TurnE prog w A h₀ L m env elt a x y scope cl s₂ its S Fin its.size 0 [] news)
    (hRR : ∀ D C h tk m' ys news', Fr h₀ L h m → News h₀ L h ((D, lst ys) :: news') → Off1 D news' → h.Ns C m' → h₀.get? C = none → h₀.get? D = none → C ≠ L → D ≠ L → C ≠ D → (∀ p ∈ news', p.1 ≠ C) → Fin ys news' → RR (.ref D) C (.ok .next) { s₂ with heap := h, toks := tk }) :
    wpAny (model prog w) A (newList []) (fun acc s₃ => wpAny (model prog w) A (newFunctionEnv scope env.globals cl [] env.qual none .none (some env)) (fun cenv s₄ =>
      codeAny (model prog w) A (.compStart (.ListComp elt [⟨.Tuple [.Name a pa, .Tuple [.Name x px, .Name y py] k2 p2] k1 p1, iter, [], 0⟩] scope pos) 0 (.ref e) acc { cenv with scope := relabel scope env }) (RR acc cenv.locals) s₄) E s₃) E s₂ := by
  have W := WalksT.enumerate (prog := prog) (w := w) hh e it l hei hle hli its
  refine wpAny_newObj_type (wpAny_newFunctionEnv hcell (by intro z hz; simp at hz) (fun h₁ hns₁ hsb₁ => ?_) hkind)
  dsimp only at hns₁ hsb₁ ⊢
  generalize hH2 : s₂.heap.push { cls := .type "list", dict := none, data := .seq ([] : List Value).toArray } = H2 at hns₁ hsb₁ ⊢
  have hC : H2.objs.size = s₂.heap.objs.size + 1 := by rw [← hH2, Heap.size_push]
  have hDC : s₂.heap.objs.size ≠ H2.objs.size := by rw [hC]; exact Nat.ne_of_lt (Nat.lt_succ_self _)
  have below : ∀ b, b < s₂.heap.objs.size → b ≠ H2.objs.size ∧ b ≠ s₂.heap.objs.size := fun b hb => ⟨by rw [hC]; exact Nat.ne_of_lt (Nat.lt_succ_of_lt hb), Nat.ne_of_lt hb⟩
  have elt_ : e < s₂.heap.objs.size := Heap.lt_size he
  have ilt : it < s₂.heap.objs.size := by obtain ⟨_, q, _⟩ := hit; exact Heap.lt_size q
  have llt : l < s₂.heap.objs.size := by obtain ⟨_, q, _⟩ := hl; exact Heap.lt_size q
  have old : ∀ b o, s₂.heap.get? b = some o → h₁.get? b = some o := fun b o q => hsb₁.extBut b o (below b (Heap.lt_size q)).1 (Heap.get?_push_of_some _ (hH2 ▸ Heap.get?_push_of_some _ q))
  have hacc : h₁.get? s₂.heap.objs.size = some (lst []) := hsb₁.extBut _ _ hDC (Heap.get?_push_of_some _ (hH2 ▸ Heap.get?_push_size _ rfl))
  have fresh : ∀ b, s₂.heap.objs.size ≤ b → s₂.heap.get? b = none := fun b hb => by
    cases q : s₂.heap.get? b with
    | none => rfl
    | some o' => exact absurd (Heap.lt_size q) (Nat.not_lt.mpr hb)
  have fresh₀ : ∀ b, s₂.heap.objs.size ≤ b → h₀.get? b = none := fun b hb => by
    cases q : h₀.get? b with
    | none => rfl
    | some o' => have := F.keep b o' q; rw [fresh b hb] at this; cases this
  have hD₀ : h₀.get? s₂.heap.objs.size = none := fresh₀ _ (Nat.le_refl _)
  have hC₀ : h₀.get? H2.objs.size = none := fresh₀ _ (by rw [hC]; exact Nat.le_succ _)
  have hLlt : L < s₂.heap.objs.size := F.ns.lt
  have hDL : s₂.heap.objs.size ≠ L := Ne.symm (below L hLlt).2
  have hCL : H2.objs.size ≠ L := Ne.symm (below L hLlt).1
  have eC := (below e elt_).1
  have eD := (below e elt_).2
  have iC := (below it ilt).1
  have iD := (below it ilt).2
  have lC := (below l llt).1
  have lD := (below l llt).2
  have off₀ : Off4 e it H2.objs.size s₂.heap.objs.size news := fun p hp => ⟨(off p hp).1, (off p hp).2, (below _ (Heap.lt_size (N p hp).1)).1, (below _ (Heap.lt_size (N p hp).1)).2⟩
  have wr : ∀ b, b ∉ [e, it] → b ≠ e ∧ b ≠ it := fun b hb => ⟨fun z => hb (by simp [z]), fun z => hb (by simp [z])⟩
  have nwr : ∀ b, b ≠ e → b ≠ it → b ∉ [e, it] := fun b h1 h2 hb => by
    rcases List.mem_cons.mp hb with z | hb
    · exact h1 z
    · exact h2 (List.mem_singleton.mp hb)
  have loop : ∀ s₃ : Shared, s₃ = { s₂ with heap := h₁, toks := s₂.toks + ([] : List (Str × Value)).length } →
      codeAny (model prog w) A (.compLoop (.ListComp elt [⟨.Tuple [.Name a pa, .Tuple [.Name x px, .Name y py] k2 p2] k1 p1, iter, [], 0⟩] scope pos) 0 (.ref e) (.ref s₂.heap.objs.size) (compEnvC scope cl H2.objs.size env))
        (RR (.ref s₂.heap.objs.size) H2.objs.size) s₃ := by
    rintro s₃ rfl
    refine LCp.codeAny_compLoop_pair
      (fun k s' => ∃ h' tk i ys m' news', s' = { s₂ with heap := h', toks := tk } ∧ i ≤ its.size ∧ k = its.size + 1 - i ∧ ys.length = i ∧ ((∃ old, IsEnum h' e it (i : Nat) old) ∧ h'.IsListIter it l i ∧ h'.IsList l its) ∧ Fr h₀ L h' m ∧ h'.Ns H2.objs.size m' ∧
        News h₀ L h' ((s₂.heap.objs.size, lst ys) :: news') ∧ Off4 e it H2.objs.size s₂.heap.objs.size news' ∧ S news' ∧ TurnE prog w A h₀ L m env elt a x y scope cl s₂ its S Fin (its.size - i) i ys news') ?_ (its.size + 1)
      ⟨h₁, _, 0, [], _, news, rfl, Nat.zero_le _, rfl, rfl, ⟨⟨_, old _ _ he⟩, hit.at fun o q => old _ o q, hl.at fun o q => old _ o q⟩, F.keeps old, hns₁, fun p hp => ?_, off₀, hS, R⟩
    · rintro k s' ⟨h', tk, i, ys, m', news', rfl, hi, rfl, hyl, hst', F', hn', N', off', hS', R'⟩
      have c4 : ∀ h'', (∀ b o, b ∉ [e, it] → h'.get? b = some o → h''.get? b = some o) → Fr h₀ L h'' m ∧ h''.Ns H2.objs.size m' ∧ News h₀ L h'' ((s₂.heap.objs.size, lst ys) :: news') := fun h'' hk => by
        refine ⟨⟨F'.ns.at' fun o q => hk L o (nwr _ hLe hLi) q, fun b o q => hk b o (nwr _ (fun z => ?_) (fun z => ?_)) (F'.keep b o q), F'.above⟩, hn'.at' fun o q => hk _ o (nwr _ (Ne.symm eC) (Ne.symm iC)) q, fun p hp => ?_⟩
        · rw [z, e₀] at q; cases q
        · rw [z, i₀] at q; cases q
        · refine ⟨hk _ _ ?_ (N' p hp).1, (N' p hp).2⟩
          rcases List.mem_cons.mp hp with rfl | hp
          · exact nwr _ (Ne.symm eD) (Ne.symm iD)
          · exact nwr _ (off' p hp).1 (off' p hp).2.1
      by_cases hlt : i < its.size
      · obtain ⟨j, hj⟩ : ∃ j, its.size - i = j + 1 := ⟨its.size - i - 1, by omega⟩
        rw [hj] at R'
        refine W.item i _ _ _ hlt hst' fun T vals h₂ tk₂ hP hTn hTup hMid hk₂ => ?_
        obtain ⟨ti, xv, hxv, rfl⟩ := hP
        obtain ⟨t, ot, v₁, v₂, nt, rfl, hmt, hct, hdt, R''⟩ := R' xv hxv
        refine W.go _ _ _ i T _ _ _ hMid fun h₄ hst₄ hk₄ => ?_
        obtain ⟨oT, hoT, hcT, hdT⟩ := hTup
        have hT' : IsTup h₄ T #[.int i ti, .ref t] := ⟨oT, hk₄ _ _ (W.apart _ _ _ hMid) hoT, hcT, hdT⟩
        obtain ⟨F₂, hn₂, N₂⟩ := c4 h₄ fun b o hb q => hk₄ b o hb (hk₂ b o hb q)
        refine assign_Tuple_tuple hh hT' rfl rfl fun h₅ he₅ => ?_
        have k₅ : ∀ b o, h₄.get? b = some o → h₅.get? b = some o := fun b o q => he₅ b o (Nat.ne_of_lt (Heap.lt_size q)) q
        refine assignInOrder_cons (wpAny_assign_Name (wpAny_storeName_local (lookup_relabel_local ha) (hn₂.at' fun o q => k₅ _ o q) (fun h₆ hn₆ hs₆ => ?_) (by simp [compEnvC, relabel, hkind])))
        have tC : t ≠ H2.objs.size := (off' _ hmt).2.2.1
        have ht₆ : IsTup h₆ t #[v₁, v₂] := ⟨ot, hs₆.extBut _ _ tC (k₅ _ _ (N₂ _ (List.mem_cons_of_mem _ hmt)).1), hct, nt, hdt⟩
        refine assignInOrder_cons (assign_Tuple_tuple (elts := [.Name x px, .Name y py]) (x1 := k2) (pos := p2) hh ht₆ rfl rfl fun h₇ he₇ => ?_)
        have k₇ : ∀ b o, h₆.get? b = some o → h₇.get? b = some o := fun b o q => he₇ b o (Nat.ne_of_lt (Heap.lt_size q)) q
        refine assignInOrder_cons (wpAny_assign_Name (wpAny_storeName_local (lookup_relabel_local hx) (hn₆.at' fun o q => k₇ _ o q) (fun h₈ hn₈ hs₈ => ?_) (by simp [compEnvC, relabel, hkind])))
        refine assignInOrder_cons (wpAny_assign_Name (wpAny_storeName_local (lookup_relabel_local hy) hn₈ (fun h₃ hn₃ hs₃ => ?_) (by simp [compEnvC, relabel, hkind])))
        refine assignInOrder_nil (assignInOrder_nil ?_)
        have old3 : ∀ b o, b ≠ H2.objs.size → h₄.get? b = some o → h₃.get? b = some o := fun b o hb q => hs₃.extBut b o hb (hs₈.extBut b o hb (k₇ b o (hs₆.extBut b o hb (k₅ b o q))))
        have hst₃ : (∃ old, IsEnum h₃ e it ((i + 1 : Nat) : Int) old) ∧ h₃.IsListIter it l (i + 1) ∧ h₃.IsList l its := W.frame _ _ _ hst₄ fun b hb o q => old3 b o (by
          rcases List.mem_cons.mp hb with z | hb
          · rw [z]; exact eC
          rcases List.mem_cons.mp hb with z | hb
          · rw [z]; exact iC
          rw [List.mem_singleton.mp hb]; exact lC) q
        obtain ⟨oC, heC, hoC⟩ := ns_obj hn₃
        have F₃ : Fr h₀ L h₃ m := ((((F₂.keeps k₅).change hs₆ hCL hC₀).keeps k₇).change hs₈ hCL hC₀).change hs₃ hCL hC₀
        obtain ⟨⟨old₃, e₃⟩, ⟨oi, hoi, hci, hdi⟩, hl₃⟩ := id hst₃
        have N₃ : News h₀ L h₃ ((e, _) :: (it, oi) :: (H2.objs.size, oC) :: (s₂.heap.objs.size, lst ys) :: news') := fun p hp => by
          rcases List.mem_cons.mp hp with rfl | hp
          · exact ⟨e₃, Ne.symm hLe, e₀⟩
          rcases List.mem_cons.mp hp with rfl | hp
          · exact ⟨hoi, Ne.symm hLi, i₀⟩
          rcases List.mem_cons.mp hp with rfl | hp
          · exact ⟨heC, hCL, hC₀⟩
          have z := N₂ p hp
          refine ⟨old3 _ _ ?_ z.1, z.2⟩
          rcases List.mem_cons.mp hp with rfl | hp
          · exact hDC
          · exact (off' p hp).2.2.1
        refine wpAny_mono (R'' e _ it oi H2.objs.size oC s₂.heap.objs.size _ h₃ _ ti _ hoC (by simp [hax, hay]) (by simp [hxy]) (by simp) F₃ N₃ off') (fun yv s₄ h₄ => ?_) fun _ _ q => q
        obtain ⟨g₄, tk₄, news₄, rfl, F₄, N₄, off₄, hS₄, R₄⟩ := h₄
        have ze := (N₄ _ List.mem_cons_self).1
        have zi := (N₄ (it, oi) (List.mem_cons_of_mem _ List.mem_cons_self)).1
        have zC := (N₄ (H2.objs.size, oC) (List.mem_cons_of_mem _ (List.mem_cons_of_mem _ List.mem_cons_self))).1
        have zD := (N₄ (s₂.heap.objs.size, lst ys) (List.mem_cons_of_mem _ (List.mem_cons_of_mem _ (List.mem_cons_of_mem _ List.mem_cons_self)))).1
        have N₄' : News h₀ L g₄ news₄ := fun p hp => N₄ p (List.mem_cons_of_mem _ (List.mem_cons_of_mem _ (List.mem_cons_of_mem _ (List.mem_cons_of_mem _ hp))))
        refine append_at (hsz := by show ys.toArray.size ≤ sizeLine; rw [List.size_toArray, hyl]; exact Nat.le_trans hi hsz) zD fun g₅ hs₅ hD₅ => ?_
        refine ⟨its.size + 1 - (i + 1), by omega, g₅, tk₄, i + 1, ys ++ [yv], _, news₄, rfl, hlt, rfl, by rw [List.length_append, List.length_singleton, hyl], ⟨⟨old₃, hs₅.extBut _ _ eD ze⟩, ⟨oi, hs₅.extBut _ _ iD zi, hci, hdi⟩, (hSl _ _ F₄.keep N₄' hS₄).at fun o q => hs₅.extBut _ o lD q⟩,
          F₄.change hs₅ hDL hD₀, (hoC.ns zC).sameBut hs₅ (Ne.symm hDC), fun p hp => ?_, off₄, hS₄, ?_⟩
        · rcases List.mem_cons.mp hp with rfl | hp
          · exact ⟨hD₅.trans (congrArg some (lst_snoc ys yv)), hDL, hD₀⟩
          · exact ⟨hs₅.extBut _ _ (off₄ p hp).2.2.2 (N₄' p hp).1, (N₄' p hp).2⟩
        · rw [show its.size - (i + 1) = j by omega]
          exact R₄
      · obtain rfl : i = its.size := Nat.le_antisymm hi (Nat.not_lt.mp hlt)
        rw [Nat.sub_self] at R'
        refine W.done _ _ _ hst' fun h₂ tk₂ hk₂ => ?_
        obtain ⟨F₂, hn₂, N₂⟩ := c4 h₂ hk₂
        exact hRR _ _ h₂ tk₂ _ ys news' F₂ N₂ (off1_of fun p hp => (off' p hp).2.2.2) hn₂ hC₀ hD₀ hCL hDL (Ne.symm hDC) (fun p hp => (off' p hp).2.2.1) R'
    · rcases List.mem_cons.mp hp with rfl | hp
      · exact ⟨hacc, hDL, hD₀⟩
      · exact ⟨old _ _ (N p hp).1, (N p hp).2⟩
  exact codeAny_compStart_list (loop _ rfl) (W.self 0 _ _ _ ⟨⟨_, old _ _ he⟩, hit.at fun o q => old _ o q, hl.at fun o q => old _ o q⟩ (loop _ rfl))
def SrcE (prog : Program) (w : World) (A : Around) (h₀ : Heap) (L : Addr) (m : Str → Option Value) (env : Env) (elt : Expr) (a x y : Str) (scope : Scope) (cl : List (Str × Addr)) (Fin : Shared → List Value → List (Addr × Obj) → Prop) (xv : Value) (s₁ : Shared) : Prop :=
  ∃ e it l its news, xv = .ref e ∧ A.handled = none ∧ (IsEnum s₁.heap e it 0 .none ∧ s₁.heap.IsListIter it l 0 ∧ s₁.heap.IsList l its) ∧ (e ≠ it ∧ l ≠ e ∧ l ≠ it) ∧ its.size ≤ sizeLine ∧ Fr h₀ L s₁.heap m ∧ News h₀ L s₁.heap news ∧ (L ≠ e ∧ L ≠ it ∧ h₀.get? e = none ∧ h₀.get? it = none) ∧ (∀ p ∈ news, p.1 ≠ e ∧ p.1 ≠ it) ∧
    SrcAt h₀ l its news ∧ TurnE prog w A h₀ L m env elt a x y scope cl s₁ its (SrcAt h₀ l its) (Fin s₁) its.size 0 [] news
/-- enumerate of a list -/
theorem enum_src {elt : Expr} {a x y : Str} {scope : Scope} {cl : List (Str × Addr)} {Fin : Shared → List Value → List (Addr × Obj) → Prop} {l : Addr} {its : Array Value} {k : Nat} {news : List (Addr × Obj)}
    (hh : A.handled = none) (F : Fr h₀ L s.heap m) (N : News h₀ L s.heap news) (hm : (l, ({ cls := .type "list", data := .seq its k } : Obj)) ∈ news) (hsz : its.size ≤ sizeLine) (n : Nat) (hn : its.size = n)
    (h : ∀ g, TurnE prog w A h₀ L m env elt a x y scope cl { s with heap := g } its (SrcAt h₀ l its) (Fin { s with heap := g }) n 0 [] news) :
    wpAny (model prog w) A (call (.type "enumerate") [.ref l]) (SrcE prog w A h₀ L m env elt a x y scope cl Fin) E s := by
  subst hn
  have hl : s.heap.IsList l its := ⟨_, (N _ hm).1, rfl, _, rfl⟩
  have llt := Heap.lt_size (N _ hm).1
  refine call_enumerate_list hl fun h' hE hI hsz' hk => ?_
  have n1 : ∀ b, b < s.heap.objs.size → b ≠ s.heap.objs.size + 1 ∧ b ≠ s.heap.objs.size := fun b hb => ⟨Nat.ne_of_lt (Nat.lt_succ_of_lt hb), Nat.ne_of_lt hb⟩
  have hz : ∀ b, s.heap.objs.size ≤ b → h₀.get? b = none := fun b hb => by
    cases q : h₀.get? b with
    | none => rfl
    | some o => exact absurd (Heap.lt_size (F.keep b o q)) (Nat.not_lt.mpr hb)
  exact ⟨_, _, l, its, news, rfl, hh, ⟨hE, hI, hl.at fun o q => hk _ o q⟩, ⟨Nat.succ_ne_self _, (n1 l llt).1, (n1 l llt).2⟩, hsz, F.keeps hk, N.grown hk, ⟨(n1 _ F.ns.lt).1, (n1 _ F.ns.lt).2, hz _ (Nat.le_succ _), hz _ (Nat.le_refl _)⟩,
    fun p hp => n1 _ (Heap.lt_size (N p hp).1), .inr ⟨_, hm, rfl, _, rfl⟩, h _⟩
theorem ListComp_E {elt iter : Expr} {a x y : Str} {pa px py p1 p2 : Pos} {k1 k2} {scope : Scope} {cl : List (Str × Addr)} {pos : Pos} {Q : Value → Shared → Prop} (F₀ : Fr h₀ L s.heap m)
    (hclos : closureFor scope env = pure cl) (hcell : ∀ z ∈ scope.names, z.2 ≠ .cell) (hkind : scope.kind = .function) (hnames : ∀ z ∈ scope.names, z.2 = .local → scope.names.lookup z.1 = some .local)
    (ha : scope.names.lookup a = some .local) (hx : scope.names.lookup x = some .local) (hy : scope.names.lookup y = some .local) (hax : a ≠ x) (hay : a ≠ y) (hxy : x ≠ y)
    (h : wpAny (model prog w) A (eval iter env) (SrcE prog w A h₀ L m env elt a x y scope cl (fun s₂ => FinE h₀ L m s₂ Q)) E s)
    (hs : ∀ x, foldedSetIterable iter env x = pure x) :
    wpAny (model prog w) A (eval (.ListComp elt [⟨.Tuple [.Name a pa, .Tuple [.Name x px, .Name y py] k2 p2] k1 p1, iter, [], 0⟩] scope pos) env) Q E s := by
  rw [eval_ListComp]
  refine wpAny_comprehension_free (use := none) rfl hs hclos hkind hnames (wpAny_mono h (fun xv s₁ h₁ => ?_) fun _ _ q => q)
  obtain ⟨e, it, l, its, news, rfl, hh, ⟨he, hit, hl⟩, ⟨hei, hle, hli⟩, hsz, F, N, ⟨hLe, hLi, e₀, i₀⟩, off, hS, R⟩ := h₁
  refine (WalksT.enumerate (prog := prog) (w := w) hh e it l hei hle hli its).self 0 _ _ _ ⟨⟨_, he⟩, hit, hl⟩ ?_
  refine block_E hh he hit hl hei hle hli hsz hcell hkind ha hx hy hax hay hxy F N hLe hLi e₀ i₀ off hS (fun h' nw k N' S' => S'.list k N') R ?_
  intro D C h tk m' ys news' F' N' o1 hn hC₀ hD₀ hCL hDL hCD offC fin
  refine ⟨m', hn, fun h'' hs'' => fin D h'' tk (F'.change hs'' hCL hC₀) (fun p hp => ?_) o1⟩
  refine ⟨hs''.extBut _ _ ?_ (N' p hp).1, (N' p hp).2⟩
  rcases List.mem_cons.mp hp with rfl | hp
  · exact Ne.symm hCD
  · exact offC p hp
theorem Assign_E {elt iter : Expr} {a x y z : Str} {pa px py p1 p2 pz : Pos} {k1 k2} {scope : Scope} {cl : List (Str × Addr)} {pos spos : Pos} {Q : Flow → Shared → Prop} (F₀ : Fr h₀ L s.heap m) (hL : env.locals = L)
    (hsw : swapsWith (.ListComp elt [⟨.Tuple [.Name a pa, .Tuple [.Name x px, .Name y py] k2 p2] k1 p1, iter, [], 0⟩] scope pos) (some (.Name z pz)) spos.line env = pure true)
    (hclos : closureFor scope env = pure cl) (hcell : ∀ z ∈ scope.names, z.2 ≠ .cell) (hkind : scope.kind = .function) (hnames : ∀ z ∈ scope.names, z.2 = .local → scope.names.lookup z.1 = some .local)
    (ha : scope.names.lookup a = some .local) (hx : scope.names.lookup x = some .local) (hy : scope.names.lookup y = some .local) (hax : a ≠ x) (hay : a ≠ y) (hxy : x ≠ y)
    (hz : env.kindOf z = some .local) (hp : (env.scope.kind == .class || (env.scope.kind == .module && env.locals != env.globals)) = false)
    (h : wpAny (model prog w) A (eval iter env) (SrcE prog w A h₀ L m env elt a x y scope cl (fun s₂ => FinA h₀ L m s₂ z Q)) E s)
    (hs : ∀ x, foldedSetIterable iter env x = pure x) :
    wpAny (model prog w) A (exec (.Assign [.Name z pz] (.ListComp elt [⟨.Tuple [.Name a pa, .Tuple [.Name x px, .Name y py] k2 p2] k1 p1, iter, [], 0⟩] scope pos) spos) env) Q E s := by
  subst hL
  rw [exec_Assign_Name_used _ _ _ _ hsw]
  refine wpAny_bind (wpAny_standAt (wpAny_bind ?_))
  show wpAny _ A (do let _ ← comprehension (.ListComp elt [⟨.Tuple [.Name a pa, .Tuple [.Name x px, .Name y py] k2 p2] k1 p1, iter, [], 0⟩] scope pos) scope env _ (newList []) false (eval iter env) (some (assign (.Name z pz) env))) _ _ s
  refine wpAny_bind (wpAny_mono (wpAny_comprehension_free (use := some (assign (.Name z pz) env)) (Q := fun _ s' => Q .next s') rfl hs hclos hkind hnames
    (wpAny_mono h (fun xv s₁ h₁ => ?_) fun _ _ q => q)) (fun _ s' hq => wpAny_pure (wpAny_pure hq)) fun _ _ q => q)
  obtain ⟨e, it, l, its, news, rfl, hh, ⟨he, hit, hl⟩, ⟨hei, hle, hli⟩, hsz, F, N, ⟨hLe, hLi, e₀, i₀⟩, off, hS, R⟩ := h₁
  refine (WalksT.enumerate (prog := prog) (w := w) hh e it l hei hle hli its).self 0 _ _ _ ⟨⟨_, he⟩, hit, hl⟩ ?_
  refine block_E hh he hit hl hei hle hli hsz hcell hkind ha hx hy hax hay hxy F N hLe hLi e₀ i₀ off hS (fun h' nw k N' S' => S'.list k N') R ?_
  intro D C h tk m' ys news' F' N' o1 hn hC₀ hD₀ hCL hDL hCD offC fin
  show wpAny _ A (assign (.Name z pz) env (.ref D)) _ _ _
  refine wpAny_assign_Name (wpAny_storeName_local hz F'.ns (fun h₂ hn₂ hs₂ => ?_) hp)
  have hL₀ : h₀.get? env.locals = none := Heap.get?_none_of_le F'.above
  have F₂ : Fr h₀ env.locals h₂ (fun q => if q = z then some (.ref D) else m q) := ⟨hn₂, fun b o e => hs₂.extBut b o (fun q => by rw [q, hL₀] at e; cases e) (F'.keep b o e), F'.above⟩
  refine ⟨m', hn.sameBut hs₂ hCL, fun h'' hs'' => fin D h'' _ (F₂.change hs'' hCL hC₀) (fun p hp => ?_) o1⟩
  have q : h₂.get? p.1 = some p.2 := hs₂.extBut _ _ (N' p hp).2.1 (N' p hp).1
  refine ⟨hs''.extBut _ _ ?_ q, (N' p hp).2⟩
  rcases List.mem_cons.mp hp with rfl | hp
  · exact Ne.symm hCD
  · exact offC p hp
theorem TurnE.zero {elt : Expr} {a x y : Str} {scope : Scope} {cl : List (Str × Addr)} {its : Array Value} {S : List (Addr × Obj) → Prop} {Fin : List Value → List (Addr × Obj) → Prop} {i : Nat} {ys : List Value} {news : List (Addr × Obj)} (h : Fin ys news) :
    TurnE prog w A h₀ L m env elt a x y scope cl s its S Fin 0 i ys news := h
theorem TurnE.ref {elt : Expr} {a x y : Str} {scope : Scope} {cl : List (Str × Addr)} {its : Array Value} {S : List (Addr × Obj) → Prop} {Fin : List Value → List (Addr × Obj) → Prop} {k i : Nat} {ys : List Value} {news : List (Addr × Obj)} {t : Addr} {v₁ v₂ : Value} {nt : Nat}
    (hi : its[i]? = some (.ref t)) (hm : (t, ({ cls := .type "tuple", data := .seq #[v₁, v₂] nt } : Obj)) ∈ news)
    (h : ∀ e oe it oi C oC D m₂ h tk ti (E' : Value → Shared → Prop), NsObj oC m₂ → m₂ a = some (.int (i : Int) ti) → m₂ x = some v₁ → m₂ y = some v₂ → Fr h₀ L h m → News h₀ L h ((e, oe) :: (it, oi) :: (C, oC) :: (D, lst ys) :: news) → Off4 e it C D news →
      wpAny (model prog w) A (eval elt (compEnvC scope cl C env)) (TurnEnd h₀ L m { s with heap := h, toks := tk } e oe it oi C oC D (lst ys) S (fun yv news' => TurnE prog w A h₀ L m env elt a x y scope cl s its S Fin k (i + 1) (ys ++ [yv]) news')) E' { s with heap := h, toks := tk }) :
    TurnE prog w A h₀ L m env elt a x y scope cl s its S Fin (k + 1) i ys news := fun v hv => by
  rw [hi] at hv
  cases hv
  exact ⟨t, _, v₁, v₂, nt, rfl, hm, rfl, rfl, h⟩
theorem TurnEnd.same {s₁ : Shared} {e it C D : Addr} {oe oi oC oD : Obj} {S : List (Addr × Obj) → Prop} {rest : Value → List (Addr × Obj) → Prop} {y : Value} {h' : Heap} {tk : Nat} {news : List (Addr × Obj)}
    (F : Fr h₀ L h' m) (N : News h₀ L h' ((e, oe) :: (it, oi) :: (C, oC) :: (D, oD) :: news)) (off : Off4 e it C D news) (hS : S news) (r : rest y news) : TurnEnd h₀ L m s₁ e oe it oi C oC D oD S rest y { s₁ with heap := h', toks := tk } :=
  ⟨h', tk, news, rfl, F, N, off, hS, r⟩
theorem TurnEnd.new {s₁ : Shared} {e it C D : Addr} {oe oi oC oD : Obj} {S : List (Addr × Obj) → Prop} {rest : Value → List (Addr × Obj) → Prop} {y : Value} {h' : Heap} {tk : Nat} {news : List (Addr × Obj)} {p : Addr × Obj}
    (F : Fr h₀ L h' m) (N : News h₀ L h' (p :: (e, oe) :: (it, oi) :: (C, oC) :: (D, oD) :: news)) (off : Off4 e it C D news) (hp : p.1 ≠ e ∧ p.1 ≠ it ∧ p.1 ≠ C ∧ p.1 ≠ D) (hS : S (p :: news)) (r : rest y (p :: news)) : TurnEnd h₀ L m s₁ e oe it oi C oC D oD S rest y { s₁ with heap := h', toks := tk } :=
  ⟨h', tk, p :: news, rfl, F, fun q hq => N q (by
    rcases List.mem_cons.mp hq with z | hq
    · rw [z]; exact .tail _ (.head _)
    rcases List.mem_cons.mp hq with z | hq
    · rw [z]; exact .tail _ (.tail _ (.head _))
    rcases List.mem_cons.mp hq with z | hq
    · rw [z]; exact .tail _ (.tail _ (.tail _ (.head _)))
    rcases List.mem_cons.mp hq with z | hq
    · rw [z]; exact .tail _ (.tail _ (.tail _ (.tail _ (.head _))))
    rcases List.mem_cons.mp hq with z | hq
    · rw [z]; exact .head _
    · exact .tail _ (.tail _ (.tail _ (.tail _ (.tail _ hq))))), fun q hq => by
    rcases List.mem_cons.mp hq with z | hq
    · rw [z]; exact hp
    · exact off q hq, hS, r⟩
end
end
theorem anew_M3 : True := by
  w_top off
  k_with_none
  trivial
section -- M3
theorem kfill31 (w : World) (h : Heap) : (kfr w.params).In h → PySem.Challenge.rw_sz0076_01 = PySem.Challenge.rw_sz0076_01 → True := by
  k_fill
  intros
  trivial
end
section -- M3
theorem rows_M3_1 : True := by
  k_with_none
  k_with "ct_enterM" => (refine enterM (K := kfr _) (by assumption) (by assumption) (by assumption) (by assumption) (by assumption) (by exact rfl) (by assumption) (by assumption) (by k_is) (by k_is) (by ktr_room) (by exact BindsTo.of_eq rfl) (by exact rfl) (by decide +kernel) ?_ (by exact rfl) (by exact rfl) (by exact rfl); k_whole; intro g' L' h' tk' cells' Hg' F' N' Y' B' X' T' l1; (try k_lt l1); k_cells Y'; (try simp only [List.cons_append, List.nil_append] at N'); (try dsimp only); (try k_fold))
  k_with "ct_open" => ((try dsimp only); (try k_unfold); (try dsimp only))
  k_with "ite" => (first | (refine ite_t (by with_reducible assumption) ?_) | (refine ite_f (by with_reducible assumption) ?_))
  k_with "callWith" => (k_here; (with_reducible refine callWith_method1 ?_ (by with_unfolding_all exact rfl) (by with_unfolding_all exact rfl)))
  trivial
variable {w : World} {p : Program} {loose : List Str} {mean : ExcName → Option Value} {mg mb : Str → Option Value}
def AllNe' (d : Addr) : List (Addr × Obj) → Prop
  | [] => True
  | p :: r => @Ne Nat d p.1 ∧ AllNe' d r
theorem AllNe'.of {d : Addr} : ∀ {l : List (Addr × Obj)}, (∀ q ∈ l, d ≠ q.1) → AllNe' d l
  | [], _ => trivial
  | p :: _, h => ⟨h p (.head _), AllNe'.of fun q hq => h q (.tail _ hq)⟩
section
variable {D : Addr} {n : Int} {k k2 : Tok} {c : Nat} {dp un dd uu : Nat} {gd : Option (List Code)} {env : Env} {outer : List Env} {A₀ : Around} {base h₀ : Heap} {L : Addr} {m : Str → Option Value} {s : Shared} {Q E : Value → Shared → Prop} {news : List (Addr × Obj)} {g : Obj → List (Addr × Obj)} {f : Addr} {vs : List Value}
theorem CtM.use0 (C : CtM w p loose mean mg mb f dd uu D (lst1 n k c) vs (Md D n)) (B : Below A₀ base outer h₀) (F : Fr h₀ L s.heap m) (X : (kfr w.params).In h₀) (N : News h₀ L s.heap news) (U : UpdF D (lst1 n k c) news g) (T : Top p loose mean mg mb h₀) (hf : env.frame = some L) (hke : env.scope.kind = .function) (hd : dp + dd < recursionLimit) (hu : un + uu < cLine)
    (ret : ∀ T X ka kt n1 n2 kn nc v1, (∀ h, Reads h v1 (mdV (n.fmod 6)) []) → ∀ h' tk', Fr h₀ L h' m → News h₀ L h' ((T, tupM (.ref X) (.str (mdX (n.fmod 6)) kt) n1) :: (X, tupM (.str (mdK (n.fmod 6)) ka) v1 n2) :: g (lst1 (n.fdiv 9) kn nc)) → AllNe' T (g (lst1 (n.fdiv 9) kn nc)) → AllNe' X (g (lst1 (n.fdiv 9) kn nc)) → Q (.ref T) { s with heap := h', toks := tk' }) :
    wpAny (model PySem.Challenge.rw_sz0076_01.prog w) (topE dp un gd env outer) (call (.ref f) vs) Q E s := by
  obtain ⟨own, rest, rfl, hg, u1, u2⟩ := U.split
  have nD := N (D, lst1 n k c) (by simp)
  refine C dp un gd env outer A₀ base h₀ L m s Q E B F X T (fun p hp => by rw [List.mem_singleton.mp hp]; exact nD) hf hke hd hu fun v tl h' tk' r x => ?_
  obtain ⟨T, X, ka, kt, n1, n2, kn, nc, v1, rfl, rfl, hr⟩ := r
  have apart : ∀ p, (p ∈ own ∨ p ∈ rest) → ∀ q ∈ [(T, tupM (.ref X) (.str (mdX (n.fmod 6)) kt) n1), (X, tupM (.str (mdK (n.fmod 6)) ka) v1 n2)], q.1 ≠ p.1 := fun p hp q hq z => by
    have P := N p (by rcases hp with hp | hp <;> simp [hp])
    have hq' : q ∈ [(T, tupM (.ref X) (.str (mdX (n.fmod 6)) kt) n1), (X, tupM (.str (mdK (n.fmod 6)) ka) v1 n2), (D, lst1 (n.fdiv 9) kn nc)] := by
      rcases List.mem_cons.mp hq with e | hq
      · rw [e]; exact .head _
      · rw [List.mem_singleton.mp hq]; exact .tail _ (.head _)
    rcases (x.2 q hq').2 with a | a
    · rw [z, P.1] at a; cases a
    · have : p.1 ≠ D := by rcases hp with hp | hp; exact u1 p hp; exact u2 p hp
      exact this (z.symm.trans a)
  have dT := x.2 (T, tupM (.ref X) (.str (mdX (n.fmod 6)) kt) n1) (.head _)
  have dX := x.2 (X, tupM (.str (mdK (n.fmod 6)) ka) v1 n2) (.tail _ (.head _))
  have dD := x.2 (D, lst1 (n.fdiv 9) kn nc) (.tail _ (.tail _ (.head _)))
  have tD : T ≠ D := fun z => by
    have a := dT.1; have b := dD.1
    dsimp only at a b
    rw [z, b] at a
    simp [lst1, tupM] at a
  have xD : X ≠ D := fun z => by
    have a := dX.1; have b := dD.1
    dsimp only at a b
    rw [z, b] at a
    simp [lst1, tupM] at a
  refine ret T X ka kt n1 n2 kn nc v1 hr h' tk' (x.fr F (o := lst1 n k c) fun p hp => by rw [List.mem_singleton.mp hp]; exact nD) ?_ (AllNe'.of ?_) (AllNe'.of ?_)
  · have lt : ∀ q : Addr × Obj, q.1 ≠ D → (s.heap.get? q.1 = none ∨ q.1 = D) → q.1 ≠ L ∧ h₀.get? q.1 = none := fun q hq h => by
      rcases h with a | a
      · refine ⟨fun z => ?_, kts_none F.keep a⟩
        obtain ⟨oL, _, _, hL, _⟩ := F.ns
        rw [z, hL] at a; cases a
      · exact absurd a hq
    intro p hp
    rcases List.mem_cons.mp hp with e | hp
    · rw [e]; exact ⟨dT.1, lt (T, tupM (.ref X) (.str (mdX (n.fmod 6)) kt) n1) tD dT.2⟩
    rcases List.mem_cons.mp hp with e | hp
    · rw [e]; exact ⟨dX.1, lt (X, tupM (.str (mdK (n.fmod 6)) ka) v1 n2) xD dX.2⟩
    rw [hg] at hp
    rcases List.mem_append.mp hp with hp | hp
    · have P := N p (List.mem_append_left _ hp)
      exact ⟨x.1 _ _ (u1 p hp) P.1, P.2⟩
    rcases List.mem_cons.mp hp with e | hp
    · rw [e]; exact ⟨dD.1, nD.2⟩
    · have P := N p (List.mem_append_right _ (.tail _ hp))
      exact ⟨x.1 _ _ (u2 p hp) P.1, P.2⟩
  · intro q hq
    rw [hg] at hq
    rcases List.mem_append.mp hq with hq | hq
    · exact apart q (.inl hq) (T, _) (.head _)
    rcases List.mem_cons.mp hq with e | hq
    · rw [e]; exact tD
    · exact apart q (.inr hq) (T, _) (.head _)
  · intro q hq
    rw [hg] at hq
    rcases List.mem_append.mp hq with hq | hq
    · exact apart q (.inl hq) (X, _) (.tail _ (.head _))
    rcases List.mem_cons.mp hq with e | hq
    · rw [e]; exact xD
    · exact apart q (.inr hq) (X, _) (.tail _ (.head _))
end
def gapX (i : Int) : Str := if i = 0 then Str.ofString " " else if i = 1 then Str.ofString "" else Str.ofString "\n"
theorem mod3 (x : Int) : 0 ≤ Int.fmod x 3 ∧ Int.fmod x 3 < 3 := by
  rw [Int.fmod_eq_emod_of_nonneg _ (by decide)]; omega
section
variable {prog : Program} {A : Around} {E : Value → Shared → Prop} {s : Shared} {Q : Value → Shared → Prop}
theorem gap3 {value slice : Expr} {l : Addr} {ka kb kc : Tok} {k : Int} {u : Tok} (hl : s.heap.IsList l #[.str (Str.ofString " ") ka, .str (Str.ofString "") kb, .str (Str.ofString "\n") kc])
    (hb : 0 ≤ k ∧ k < 3) (q : ∀ t, Q (.str (gapX k) t) s)
    (hs : subscripted slice false (.ref l) (.int k u) = operate [.ref l, .int k u] (getItem (.ref l) (.int k u))) :
    wpAny (model prog w) A (subscriptTail value slice (.ref l) (.int k u)) Q E s := by
  obtain ⟨h0, h1⟩ := hb
  have : k = 0 ∨ k = 1 ∨ k = 2 := by omega
  rcases this with r | r | r <;> subst r
  · exact tail_any hl.typeIs slot_list_getitem.lookup (wpAny_getItem_list hl (by decide) (by decide) (x := .str (Str.ofString " ") ka) rfl (q _)) hs
  · exact tail_any hl.typeIs slot_list_getitem.lookup (wpAny_getItem_list hl (by decide) (by decide) (x := .str (Str.ofString "") kb) rfl (q _)) hs
  · exact tail_any hl.typeIs slot_list_getitem.lookup (wpAny_getItem_list hl (by decide) (by decide) (x := .str (Str.ofString "\n") kc) rfl (q _)) hs
end
end
end
section
local macro_rules | `(tactic| walk_at "subscriptTail List BinOp ref int") => `(tactic| (k_here; k_dflt (refine' gap3 ?l ?hb ?q ?hs; (case hs => with_unfolding_all rfl); (case l => kmk_list); (case hb => exact mod3 _); k_whole; intro tg)))
section -- M3
variable {w : World} {p : Program} {loose : List Str} {mean : ExcName → Option Value} {mg mb : Str → Option Value}
theorem AllNe'.get {d x : Addr} {o : Obj} : ∀ {l : List (Addr × Obj)}, AllNe' d l → (x, o) ∈ l → d ≠ x
  | p :: _, h, hm => by
    rcases List.mem_cons.mp hm with e | e
    · rw [← show (x, o).1 = x from rfl, e]; exact h.1
    · exact AllNe'.get h.2 e
theorem off1_get {d x : Addr} {o : Obj} : ∀ {l : List (Addr × Obj)}, LCg.Off1 d l → (x, o) ∈ l → x ≠ d
  | p :: _, h, hm => by
    rcases List.mem_cons.mp hm with e | e
    · rw [← show (x, o).1 = x from rfl, e]; exact h.1
    · exact off1_get h.2 e
theorem off3_1 {I C D x : Addr} {o : Obj} {l : List (Addr × Obj)} (h : LCg.Off3 I C D l) (hm : (x, o) ∈ l) : x ≠ I := (LCg.Off3.mem h _ hm).1
theorem off3_2 {I C D x : Addr} {o : Obj} {l : List (Addr × Obj)} (h : LCg.Off3 I C D l) (hm : (x, o) ∈ l) : x ≠ C := (LCg.Off3.mem h _ hm).2.1
theorem off3_3 {I C D x : Addr} {o : Obj} {l : List (Addr × Obj)} (h : LCg.Off3 I C D l) (hm : (x, o) ∈ l) : x ≠ D := (LCg.Off3.mem h _ hm).2.2
end
section
local macro_rules | `(tactic| k_ne) => `(tactic| ((try dsimp only); first | exact AllNe'.get (by assumption) (by k_mem) | exact (AllNe'.get (by assumption) (by k_mem)).symm | exact off1_get (by assumption) (by k_mem) | exact (off1_get (by assumption) (by k_mem)).symm | exact off3_1 (by assumption) (by k_mem) | exact (off3_1 (by assumption) (by k_mem)).symm | exact off3_2 (by assumption) (by k_mem) | exact (off3_2 (by assumption) (by k_mem)).symm | exact off3_3 (by assumption) (by k_mem) | exact (off3_3 (by assumption) (by k_mem)).symm | (refine neN ?_; omega)))
section
local macro_rules | `(tactic| lcg_off) => `(tactic| first | assumption | exact True.intro | (refine And.intro ⟨by k_ne, by k_ne, by k_ne⟩ ?_; lcg_off))
section
local macro_rules | `(tactic| walk_at "none such") => `(tactic| skip)
section -- M3
variable {w : World} {p : Program} {loose : List Str} {mean : ExcName → Option Value} {mg mb : Str → Option Value}
section
variable {prog : Program} {w : World} {A : Around} {s : Shared} {h₀ : Heap} {L : Addr} {m : Str → Option Value} {env : Env}
theorem restP_tup {elt : Expr} {x x₂ : Str} {scope : Scope} {cl : List (Str × Addr)} {its : Array Value} {S : List (Addr × Obj) → Prop} {Fin : List Value → List (Addr × Obj) → Prop} {k i : Nat} {ys : List Value} {news : List (Addr × Obj)} {t : Addr} {v₁ v₂ : Value} {nt : Nat}
    (hv : its[i]? = some (.ref t)) (hm : (t, ({ cls := .type "tuple", data := .seq #[v₁, v₂] nt } : Obj)) ∈ news)
    (h : ∀ I oI C oC D m₂ h tk (E' : Value → Shared → Prop), LCg.NsObj oC m₂ → m₂ x = some v₁ → m₂ x₂ = some v₂ → Fr h₀ L h m → News h₀ L h ((I, oI) :: (C, oC) :: (D, LCg.lst ys) :: news) → LCg.Off3 I C D news → ((@Ne Nat I C) ∧ (@Ne Nat I D) ∧ (@Ne Nat C D)) →
      wpAny (model prog w) A (eval elt (compEnvC scope cl C env)) (LCg.CompEnd h₀ L m { s with heap := h, toks := tk } I oI C oC D (LCg.lst ys) S (fun y news' => LCp.CompRestP prog w A h₀ L m env elt x x₂ scope cl s S (fun i v => its[i]? = some v) Fin k (i + 1) (ys ++ [y]) news')) E' { s with heap := h, toks := tk }) :
    LCp.CompRestP prog w A h₀ L m env elt x x₂ scope cl s S (fun i v => its[i]? = some v) Fin (k + 1) i ys news := fun v hP =>
  ⟨t, _, v₁, v₂, nt, Option.some.inj (hP.symm.trans hv), hm, rfl, rfl, h⟩
end
theorem rows_M3_2 : True := by
  k_with "CompRestP" => (k_dflt (first | (refine restP_tup (by with_unfolding_all rfl) (by k_mem) ?_; intro I' oI' C' oC' D' m' h' tk' E' hC' hx' hy' F' N' off' ne') | (with_unfolding_all refine LCp.CompRestP.zero ?_)))
  k_with "FinE" => ((unfold LCg.FinE); intro D' h' tk' F' N' o1'; (try simp only [List.nil_append, List.cons_append] at N' o1'); (try dsimp only))
  trivial
theorem ll_app {x y : Str} {a b : Nat} (hx : x.length ≤ a) (hy : y.length ≤ b) : (x ++ y).length ≤ a + b := by
  rw [Str.length_append]; omega
theorem ll_gap (i : Int) : (gapX i).length ≤ 1 := by
  unfold gapX; split
  · decide
  split <;> decide
theorem ll_mdX (i : Int) : (mdX i).length ≤ 5 := by
  unfold mdX
  repeat' split
  all_goals decide
theorem ll_join2 {s x y : Str} {a b c : Nat} (hs : s.length ≤ a) (hx : x.length ≤ b) (hy : y.length ≤ c) : (Txt.join s [x, y]).length ≤ b + c + 2 * a := by
  show (Builtin.Str.glued s [x, y]).length ≤ _
  rw [StrLaws.glued_eq_join]
  refine Nat.le_trans (StrLaws.join_length_le s [x, y]) ?_
  simp only [List.map_cons, List.map_nil, List.sum_cons, List.sum_nil, List.length_cons, List.length_nil]
  omega
theorem ll_hsz {x y : Str} {a b : Nat} (hx : x.length ≤ a) (hy : y.length ≤ b) (h : a + b ≤ 1000) : x.length + y.length ≤ sizeLine := by
  rw [sizeLine_eq]; omega
theorem rows_M3_3 : True := by
  k_with "ll" => first | exact ll_gap _ | exact ll_mdX _ | ((with_reducible show (HAppend.hAppend _ _ : Str).length ≤ _); refine ll_app (by walk_at "ll") (by walk_at "ll")) | ((with_reducible show (Txt.join _ [_, _]).length ≤ _); refine ll_join2 (by walk_at "ll") (by walk_at "ll") (by walk_at "ll")) | exact Nat.le_refl _
  k_with "binaryOp Add str str" => (k_here; (with_reducible show wpAny _ _ (binaryOp Operator.Add (Value.str _ _) (Value.str _ _)) _ _ _); (refine add_str ?_ (by (refine ll_hsz (by walk_at "ll") (by walk_at "ll") (by exact Nat.le_of_ble_eq_true rfl)))); intro _ _)
  trivial
theorem ll_le {x : Str} {a b : Nat} (h : x.length ≤ a) (hb : a ≤ b) : x.length ≤ b := Nat.le_trans h hb
theorem join2 {prog : Program} {A : Around} {E : Value → Shared → Prop} {s : Shared} {Q : Value → Shared → Prop} {D : Addr} {x a b : Str} {t ka kb : Tok} (hl : s.heap.IsList D #[.str a ka, .str b kb]) (ha : a.length ≤ 1000) (hb : b.length ≤ 1000) (hsep : x.length ≤ 16)
    (h : ∀ t' k, Q (.str (Txt.join x [a, b]) t') { s with toks := k }) : wpAny (model prog w) A (call (.builtin "str.join") [.str x t, .ref D]) Q E s :=
  join_listW hl (.cons _ _ (.cons _ _ .nil)) hsep (by simp only [List.map_cons, List.map_nil, List.sum_cons, List.sum_nil, List.length_cons, List.length_nil]; omega) h
theorem rows_M3_4 : True := by
  k_with "call builtin:str.join" => (k_here; k_dflt (refine join2 (by exact News.isList (by k_asm) (by k_mem)) (by (refine ll_le (by walk_at "ll") (by exact Nat.le_of_ble_eq_true rfl))) (by (refine ll_le (by walk_at "ll") (by exact Nat.le_of_ble_eq_true rfl))) (by (refine ll_le (by walk_at "ll") (by exact Nat.le_of_ble_eq_true rfl))) ?_); intro _ _)
  k_with "TurnE" => (k_dflt (first | (refine TurnE.ref (by with_unfolding_all rfl) (by k_mem) ?_; intro e' oe' it' oi' C' oC' D' m' h' tk' ti' E' hC' ha' hx' hy' F' N' off') | refine TurnE.zero ?_))
  k_with "TurnEnd" => (k_dflt (first | refine TurnEnd.same (by assumption) (by assumption) (by assumption) (by lcg_src) ?_ | refine TurnEnd.new (by assumption) (by assumption) (by assumption) ⟨by k_ne, by k_ne, by k_ne, by k_ne⟩ (by lcg_src) ?_))
  k_with "FinA" => ((unfold LCg.FinA); intro D' h' tk' F' N' o1'; (try simp only [List.nil_append, List.cons_append] at N' o1'); (try dsimp only))
  trivial
theorem fd_nn {a b : Int} (hb : 0 ≤ b) (ha : 0 ≤ a) : 0 ≤ Int.fdiv a b := Int.fdiv_nonneg ha hb
theorem rows_M3_5 : True := by
  k_with "hn" => first | assumption | (refine fd_nn (by decide) ?_; walk_at "hn")
  k_with "call ref" => (k_here; (with_reducible show wpAny _ _ (call (Value.ref 258) _) _ _ _); k_dflt (refine CtM.use0 (made0 _ _ _ _ _ ?_) (by assumption) (by assumption) (by assumption) (by assumption) (by k_updF) (by assumption) (by exact rfl) (by exact rfl) (by ktr_room) (by ktr_units) ?_; (· walk_at "hn"); k_whole; intro T9 X9 ka9 kt9 n19 n29 kn9 nc9 v9 hr9 h9 tk9 F9 N9 lT9 lX9; (try dsimp only at N9 lT9 lX9); (try dsimp only)))
  trivial
def mText (r : Bool) (g f1 f2 : Int) : Str :=
  if r then Str.ofString "[" ++ gapX g ++ Txt.join (Str.ofString "," ++ gapX g) [mdX f1, mdX f2] ++ gapX g ++ Str.ofString "]"
  else Str.ofString "{" ++ gapX g ++ Txt.join (Str.ofString "," ++ gapX g) [Str.ofString "\"k0\":" ++ gapX g ++ mdX f1, Str.ofString "\"k1\":" ++ gapX g ++ mdX f2] ++ gapX g ++ Str.ofString "}"
def mTree (r : Bool) (f1 f2 : Int) : PyData :=
  if r then .tuple [.str (Str.ofString "array"), .list [.tuple [.str (mdK f1), mdV f1], .tuple [.str (mdK f2), mdV f2]]]
  else .tuple [.str (Str.ofString "object"), .list [.tuple [.str (Str.ofString "k0"), .tuple [.str (mdK f1), mdV f1]], .tuple [.str (Str.ofString "k1"), .tuple [.str (mdK f2), mdV f2]]]]
def MadeR (r : Bool) (g f1 f2 : Int) (v : Value) (tl : List (Addr × Obj)) : Prop := ∃ V A k c, v = .ref V ∧ (V, tupM (.ref A) (.str (mText r g f1 f2) k) c) ∈ tl ∧ ∀ h, (∀ p ∈ tl, h.get? p.1 = some p.2) → ∃ as, Reads h (.ref A) (mTree r f1 f2) as
def Made (n : Int) (v : Value) (tl : List (Addr × Obj)) : Prop := MadeR (decide (((n.fdiv 9).fdiv 3).fmod 2 = 0)) ((n.fdiv 9).fmod 3) (((n.fdiv 9).fdiv 6).fmod 6) ((((n.fdiv 9).fdiv 6).fdiv 9).fmod 6) v tl
theorem gd1 (x : Int) : [x].getD (Int.toNat 0) 0 = x := rfl
theorem made_row {g f1 f2 : Int} {news : List (Addr × Obj)} {V A Li X1 X2 : Addr} {k ka k1 k2 : Tok} {c ca cl c1 c2 : Nat} {v1 v2 : Value}
    (mV : (V, ({ cls := .type "tuple", data := .seq #[.ref A, .str (Str.ofString "[" ++ gapX g ++ Txt.join (Str.ofString "," ++ gapX g) [mdX f1, mdX f2] ++ gapX g ++ Str.ofString "]") k] c } : Obj)) ∈ news)
    (mA : (A, ({ cls := .type "tuple", data := .seq #[.str (Str.ofString "array") ka, .ref Li] ca } : Obj)) ∈ news)
    (mL : (Li, ({ cls := .type "list", data := .seq #[.ref X1, .ref X2] cl } : Obj)) ∈ news)
    (m1 : (X1, tupM (.str (mdK f1) k1) v1 c1) ∈ news) (m2 : (X2, tupM (.str (mdK f2) k2) v2 c2) ∈ news)
    (h1 : ∀ h, Reads h v1 (mdV f1) []) (h2 : ∀ h, Reads h v2 (mdV f2) []) : MadeR true g f1 f2 (.ref V) news := by
  unfold MadeR mText mTree
  exact ⟨V, A, k, c, rfl, mV, fun h hp => ⟨_, reads_tuple_at (hp _ mA) rfl rfl (.cons (Reads.str _ _) (.cons (reads_list_at (hp _ mL) rfl rfl
    (.cons (reads_tuple_at (hp _ m1) rfl rfl (.cons (Reads.str _ _) (.cons (h1 h) .nil))) (.cons (reads_tuple_at (hp _ m2) rfl rfl (.cons (Reads.str _ _) (.cons (h2 h) .nil))) .nil))) .nil))⟩⟩
theorem made_obj {g f1 f2 : Int} {news : List (Addr × Obj)} {V A Li P1 P2 X1 X2 : Addr} {k ka k1 k2 kp kq : Tok} {c ca cl c1 c2 cp cq : Nat} {v1 v2 : Value}
    (mV : (V, ({ cls := .type "tuple", data := .seq #[.ref A, .str (Str.ofString "{" ++ gapX g ++ Txt.join (Str.ofString "," ++ gapX g) [Str.ofString "\"k0\":" ++ gapX g ++ mdX f1, Str.ofString "\"k1\":" ++ gapX g ++ mdX f2] ++ gapX g ++ Str.ofString "}") k] c } : Obj)) ∈ news)
    (mA : (A, ({ cls := .type "tuple", data := .seq #[.str (Str.ofString "object") ka, .ref Li] ca } : Obj)) ∈ news)
    (mL : (Li, ({ cls := .type "list", data := .seq #[.ref P1, .ref P2] cl } : Obj)) ∈ news)
    (p1 : (P1, ({ cls := .type "tuple", data := .seq #[.str (Str.ofString "k0") kp, .ref X1] cp } : Obj)) ∈ news) (p2 : (P2, ({ cls := .type "tuple", data := .seq #[.str (Str.ofString "k1") kq, .ref X2] cq } : Obj)) ∈ news)
    (m1 : (X1, tupM (.str (mdK f1) k1) v1 c1) ∈ news) (m2 : (X2, tupM (.str (mdK f2) k2) v2 c2) ∈ news)
    (h1 : ∀ h, Reads h v1 (mdV f1) []) (h2 : ∀ h, Reads h v2 (mdV f2) []) : MadeR false g f1 f2 (.ref V) news := by
  unfold MadeR mText mTree
  exact ⟨V, A, k, c, rfl, mV, fun h hp => ⟨_, reads_tuple_at (hp _ mA) rfl rfl (.cons (Reads.str _ _) (.cons (reads_list_at (hp _ mL) rfl rfl
    (.cons (reads_tuple_at (hp _ p1) rfl rfl (.cons (Reads.str _ _) (.cons (reads_tuple_at (hp _ m1) rfl rfl (.cons (Reads.str _ _) (.cons (h1 h) .nil))) .nil)))
    (.cons (reads_tuple_at (hp _ p2) rfl rfl (.cons (Reads.str _ _) (.cons (reads_tuple_at (hp _ m2) rfl rfl (.cons (Reads.str _ _) (.cons (h2 h) .nil))) .nil))) .nil))) .nil))⟩⟩
theorem made_conv {n : Int} {r : Bool} {g f1 f2 : Int} {v : Value} {tl : List (Addr × Obj)} (M : MadeR r g f1 f2 v tl) (hr : decide (((n.fdiv 9).fdiv 3).fmod 2 = 0) = r) (hg : g = (n.fdiv 9).fmod 3) (h1 : f1 = ((n.fdiv 9).fdiv 6).fmod 6) (h2 : f2 = (((n.fdiv 9).fdiv 6).fdiv 9).fmod 6) : Made n v tl := by
  subst hr hg h1 h2; exact M
/-- the ledger less the things at the false places -/
def keepM : List Bool → List (Addr × Obj) → List (Addr × Obj)
  | [], r => r
  | _ :: _, [] => []
  | true :: bs, p :: r => p :: keepM bs r
  | false :: bs, _ :: r => keepM bs r
theorem keepM_sub : ∀ {bs : List Bool} {l : List (Addr × Obj)} {q : Addr × Obj}, q ∈ keepM bs l → q ∈ l
  | [], _, _, h => h
  | _ :: _, [], _, h => nomatch h
  | true :: bs, p :: r, q, h => by
    rcases List.mem_cons.mp h with e | h
    · rw [e]; exact .head _
    · exact .tail _ (keepM_sub h)
  | false :: bs, _ :: r, q, h => .tail _ (keepM_sub h)
theorem newsMask {h₀ h : Heap} {L : Addr} {news : List (Addr × Obj)} (bs : List Bool) (N : News h₀ L h news) : News h₀ L h (keepM bs news) := fun q hq => N q (keepM_sub hq)
theorem tok2 {h₀ h : Heap} {L D : Addr} {p : Addr × Obj} {v : Int} {k : Tok} {c : Nat} (N : News h₀ L h [p, (D, W.listOf #[.int v k] c)]) : ∃ k', News h₀ L h [p, (D, W.listOf #[.int v k'] c)] := ⟨k, N⟩
theorem tok4 {h₀ h : Heap} {L D : Addr} {p q r : Addr × Obj} {v : Int} {k : Tok} {c : Nat} (N : News h₀ L h [p, q, r, (D, W.listOf #[.int v k] c)]) : ∃ k', News h₀ L h [p, q, r, (D, W.listOf #[.int v k'] c)] := ⟨k, N⟩
set_option maxHeartbeats 3000000 in
theorem made1 (D : Addr) (n : Int) (k k2 : Tok) (c : Nat) (hn : 0 ≤ n) (hn9 : n.fmod 9 = 8) :
    CtM w p loose mean mg mb 258 30 300 D (lst1 n k c) [.ref D, .int 1 k2] (Made n) := by
  unfold CtM topE
  intro dp un gd env outer A₀ base h₀ L m s Q E B F X₀ T N hf hke hdp hun hret
  walk_at "ct_enterM"
  repeat' (first | ((fail_if_success (with_reducible show wpAny _ _ (storeName _ _ (Value.int (Int.fmod _ _) _)) _ _ _)); (fail_if_success (with_reducible show Q _ _)); (first | ((with_reducible show wpAny _ _ (execs (_ :: _) _) _ _ _); (try dsimp only); (try refine tokz (fun _ => ?_)); walk1) | (k_unfold; (try dsimp only)) | (k_end; wrow_close) | walk1 | (dsimp only; walk1) | (leave1; try dsimp only))))
  have NpA := newsMask [false, false, false, false, false, false, false] (by assumption)
  dsimp only [keepM, gd1] at NpA
  obtain ⟨tq1, NqA⟩ := tok2 NpA
  clear NpA
  rw [show Int.fmod ([n].getD (Int.toNat 0) 0) 9 = 8 from hn9]
  repeat' (first | ((fail_if_success (with_reducible show wpAny _ _ (subscriptTail _ (Expr.BinOp _ _ _ _) _ _) _ _ _)); (fail_if_success (with_reducible show Q _ _)); (first | ((with_reducible show wpAny _ _ (execs (_ :: _) _) _ _ _); (try dsimp only); (try refine tokz (fun _ => ?_)); walk1) | (k_unfold; (try dsimp only)) | (k_end; wrow_close) | walk1 | (dsimp only; walk1) | (leave1; try dsimp only))))
  k_here
  k_dflt (refine' gap3 ?l ?hb ?q ?hs)
  case hs => with_unfolding_all rfl
  case l => kmk_list
  case hb => exact mod3 _
  intro tg
  repeat' (first | ((fail_if_success (with_reducible show wpAny _ _ (storeName _ _ (Value.int (_ - _) _)) _ _ _)); (fail_if_success (with_reducible show Q _ _)); (first | ((with_reducible show wpAny _ _ (execs (_ :: _) _) _ _ _); (try dsimp only); (try refine tokz (fun _ => ?_)); walk1) | (k_unfold; (try dsimp only)) | (k_end; wrow_close) | walk1 | (dsimp only; walk1) | (leave1; try dsimp only))))
  rw [show (8 : Int) - 6 = 2 from rfl]
  repeat' (first | ((fail_if_success (with_reducible show wpAny _ _ (call (Value.ref 258) _) _ _ _)); (fail_if_success (with_reducible show Q _ _)); (first | ((with_reducible show wpAny _ _ (execs (_ :: _) _) _ _ _); (try dsimp only); (try refine tokz (fun _ => ?_)); walk1) | (k_unfold; (try dsimp only)) | (k_end; wrow_close) | walk1 | (dsimp only; walk1) | (leave1; try dsimp only))))
  have NpC := newsMask [true, false, false, false] (by assumption)
  dsimp only [keepM, gd1] at NpC
  obtain ⟨tq2, NqC⟩ := tok4 NpC
  clear NpC
  walk1
  repeat' (first | ((fail_if_success (with_reducible show wpAny _ _ (call (Value.ref 258) _) _ _ _)); (fail_if_success (with_reducible show Q _ _)); (first | ((with_reducible show wpAny _ _ (execs (_ :: _) _) _ _ _); (try dsimp only); (try refine tokz (fun _ => ?_)); walk1) | (k_unfold; (try dsimp only)) | (k_end; wrow_close) | walk1 | (dsimp only; walk1) | (leave1; try dsimp only))))
  walk1
  repeat' (first | ((fail_if_success (with_reducible show wpAny _ _ (exec (Stmt.If _ _ _ _) _) _ _ _)); (fail_if_success (with_reducible show Q _ _)); (first | ((with_reducible show wpAny _ _ (execs (_ :: _) _) _ _ _); (try dsimp only); (try refine tokz (fun _ => ?_)); walk1) | (k_unfold; (try dsimp only)) | (k_end; wrow_close) | walk1 | (dsimp only; walk1) | (leave1; try dsimp only))))
  repeat' (first | ((fail_if_success (with_reducible show wpAny _ _ (eval (Expr.ListComp _ _ _ _) _) _ _ _)); (fail_if_success (with_reducible show wpAny _ _ (exec (Stmt.Assign _ _ _) _) _ _ _)); (fail_if_success (with_reducible show Q _ _)); (first | ((with_reducible show wpAny _ _ (execs (_ :: _) _) _ _ _); (try dsimp only); (try refine tokz (fun _ => ?_)); walk1) | (k_unfold; (try dsimp only)) | (k_end; wrow_close) | walk1 | (dsimp only; walk1) | (leave1; try dsimp only))))
  · repeat' (first | ((fail_if_success (with_reducible show Q _ _)); (first | ((with_reducible show wpAny _ _ (execs (_ :: _) _) _ _ _); (try dsimp only); (try refine tokz (fun _ => ?_)); walk1) | (k_unfold; (try dsimp only)) | (k_end; wrow_close) | walk1 | (dsimp only; walk1) | (leave1; try dsimp only))))
    have hr : (([([n].getD (Int.toNat 0) 0).fdiv 9].getD (Int.toNat 0) 0).fdiv 3).fmod 2 = 0 := by with_reducible assumption
    refine hret _ _ _ _ ?reta (ExtM.of (by assumption) (by assumption) (by assumption) (fun _ h => h))
    simp only [gd1] at hr
    exact made_conv (made_row (by k_mem) (by k_mem) (by k_mem) (by k_mem) (by k_mem) (by assumption) (by assumption)) (decide_eq_true hr) (by simp only [gd1]) (by simp only [gd1]) (by simp only [gd1])
  · skip
    refine Assign_E (by assumption) rfl (by with_unfolding_all rfl) (by with_unfolding_all rfl) (by decide) (by rfl) (by decide) rfl rfl rfl (by decide) (by decide) (by decide) rfl rfl ?_ (by intro _; rfl)
    repeat' (first | ((fail_if_success (with_reducible show wpAny _ _ (call (Value.type "enumerate") _) _ _ _)); (fail_if_success (with_reducible show Q _ _)); (first | ((with_reducible show wpAny _ _ (execs (_ :: _) _) _ _ _); (try dsimp only); (try refine tokz (fun _ => ?_)); walk1) | (k_unfold; (try dsimp only)) | (k_end; wrow_close) | walk1 | (dsimp only; walk1) | (leave1; try dsimp only))))
    refine enum_src rfl (by assumption) (by assumption) (by k_mem) (Nat.le_of_ble_eq_true rfl) 2 rfl ?_
    intro g8
    repeat' (first | ((fail_if_success (with_reducible show wpAny _ _ (call (Value.type "enumerate") _) _ _ _)); (fail_if_success (with_reducible show wpAny _ _ (eval (Expr.ListComp _ _ _ _) _) _ _ _)); (fail_if_success (with_reducible show Q _ _)); (first | ((with_reducible show wpAny _ _ (execs (_ :: _) _) _ _ _); (try dsimp only); (try refine tokz (fun _ => ?_)); walk1) | (k_unfold; (try dsimp only)) | (k_end; wrow_close) | walk1 | (dsimp only; walk1) | (leave1; try dsimp only))))
    refine ListComp_E (by assumption) (by with_unfolding_all rfl) (by decide) (by rfl) (by decide) rfl rfl rfl (by decide) (by decide) (by decide) ?_ (by intro _; rfl)
    repeat' (first | ((fail_if_success (with_reducible show wpAny _ _ (call (Value.type "enumerate") _) _ _ _)); (fail_if_success (with_reducible show Q _ _)); (first | ((with_reducible show wpAny _ _ (execs (_ :: _) _) _ _ _); (try dsimp only); (try refine tokz (fun _ => ?_)); walk1) | (k_unfold; (try dsimp only)) | (k_end; wrow_close) | walk1 | (dsimp only; walk1) | (leave1; try dsimp only))))
    refine enum_src rfl (by assumption) (by assumption) (by k_mem) (Nat.le_of_ble_eq_true rfl) 2 rfl ?_
    intro g8
    repeat' (first | ((fail_if_success (with_reducible show Q _ _)); (first | ((with_reducible show wpAny _ _ (execs (_ :: _) _) _ _ _); (try dsimp only); (try refine tokz (fun _ => ?_)); walk1) | (k_unfold; (try dsimp only)) | (k_end; wrow_close) | walk1 | (dsimp only; walk1) | (leave1; try dsimp only))))
    have hr : (([([n].getD (Int.toNat 0) 0).fdiv 9].getD (Int.toNat 0) 0).fdiv 3).fmod 2 ≠ 0 := by with_reducible assumption
    refine hret _ _ _ _ ?ret (ExtM.of (by assumption) (by assumption) (by assumption) (fun _ h => h))
    simp only [gd1] at hr
    exact made_conv (made_obj (by k_mem) (by k_mem) (by k_mem) (by k_mem) (by k_mem) (by k_mem) (by k_mem) (by assumption) (by assumption)) (decide_eq_false hr) (by simp only [gd1]) (by simp only [gd1]) (by simp only [gd1])
end
end
section -- N3
section
variable {prog : Program} {w : World} {A : Around} {E : Value → Shared → Prop} {s : Shared} {env : Env} {h₀ : Heap} {x : Str} {body : List Stmt} {Q : Flow → Shared → Prop}
/-- one turn leaves the frame and the ledger as they were -/
def TurnR (h₀ : Heap) (L : Addr) (x : Str) (m₀ : Str → Option Value) (news : List (Addr × Obj)) (v : Value) (s : Shared) (f : Flow) (s' : Shared) : Prop :=
  f = .next ∧ ∃ h' tk', s' = { s with heap := h', toks := tk' } ∧ Fr h₀ L h' (fun y => if y = x then some v else m₀ y) ∧ News h₀ L h' news
/-- for x in range(n): nothing but x changes -/
theorem iter_range {r : Addr} {n : Nat} {t₀ u₀ v₀ : Tok} {m₀ : Str → Option Value} {news : List (Addr × Obj)} (hh : A.handled = none) (hr : IsRange s.heap r 0 (n : Int) 1 t₀ u₀ v₀) (hsmall : Builtin.Range.small 0 (n : Int) 1 = true) (hn : Builtin.Range.rangeSize 0 (n : Int) 1 = (n : Int))
    (F : Fr h₀ env.locals s.heap m₀) (N : News h₀ env.locals s.heap news)
    (turn : ∀ (i : Nat) t I oI h tk, i < n → Fr h₀ env.locals h (fun y => if y = x then some (.int (i : Int) t) else m₀ y) → News h₀ env.locals h ((I, oI) :: news) →
      wpAny (model prog w) A (execs body env) (TurnR h₀ env.locals x m₀ ((I, oI) :: news) (.int (i : Int) t) { s with heap := h, toks := tk }) E { s with heap := h, toks := tk })
    (done : ∀ h' tk m', Fr h₀ env.locals h' m' → News h₀ env.locals h' news → Q .next { s with heap := h', toks := tk }) :
    wpAny (model prog w) A (pyIter (.ref r)) (fun it s₂ => LoopAtV prog w A h₀ env x body Q E it s₂) E s := by
  refine wpAny_pyIter_range hr hsmall ?_
  have W := Walks.range (prog := prog) (w := w) hh s.heap.objs.size 0 1 n
  have nI : ∀ p ∈ news, p.1 ≠ s.heap.objs.size := fun p hp => Nat.ne_of_lt (Heap.lt_size (N p hp).1)
  refine ⟨s.heap.objs.size, [s.heap.objs.size], [s.heap.objs.size], n, _, _, m₀, news, fun i m' n' => n' = news ∧ (m' = m₀ ∨ ∃ v, m' = fun y => if y = x then some v else m₀ y), rfl, W, ?_, ?_, ?_, ?_, F.push _, fun p hp => ⟨Heap.get?_push_of_some _ (N p hp).1, (N p hp).2⟩, ⟨rfl, .inl rfl⟩, ?_, ?_⟩
  · intro hm
    exact absurd F.ns.lt ((List.mem_singleton.mp hm) ▸ Nat.lt_irrefl _)
  · intro b hb
    rw [List.mem_singleton.mp hb]
    exact next_is_new F
  · intro p hp hI
    exact nI p hp (List.mem_singleton.mp hI)
  · show IsRangeIter _ _ _ _ _
    rw [hn]
    simpa using Heap.get?_push_size _ rfl
  · rintro i v m₁ news₁ s₁ own ⟨h, tk, rfl⟩ hi ⟨t, rfl⟩ ⟨rfl, hm⟩ hoff hof hget hall hst F₁ N₁
    have em : (fun y => if y = x then some (Value.int (0 + (i : Int) * 1) t) else m₁ y) = fun y => if y = x then some (Value.int (i : Int) t) else m₀ y := by
      funext y
      rw [show (0 : Int) + (i : Int) * 1 = i by omega]
      rcases hm with rfl | ⟨v, rfl⟩
      · rfl
      · dsimp only
        split <;> rfl
    rw [em] at F₁
    have hI := hall s.heap.objs.size (List.mem_singleton.mpr rfl) (next_is_new F) _ hst
    have N₂ : News h₀ env.locals h ((s.heap.objs.size, _) :: news₁) := fun p hp => by
      rcases List.mem_cons.mp hp with e | hp
      · rw [e]; exact N₁ _ (List.mem_append_left _ hI)
      · exact N₁ _ (List.mem_append_right _ hp)
    refine wpAny_mono (turn i t _ _ h tk hi F₁ N₂) (fun f s' hq => ?_) fun _ _ q => q
    obtain ⟨rfl, h', tk', rfl, F', N'⟩ := hq
    refine LoopStepV.next ⟨rfl, h', tk', _, news₁, rfl, F', fun p hp => ?_, hoff, rfl, .inr ⟨_, rfl⟩⟩
    rcases List.mem_append.mp hp with hp | hp
    · have e1 := hof p hp
      have e2 := List.mem_singleton.mp e1
      have z := (N' _ (.head _))
      have g1 := hget p hp
      have g2 : h.get? p.1 = _ := e2 ▸ hst
      rw [g1] at g2
      have : p = (s.heap.objs.size, _) := Prod.ext e2 (Option.some.inj g2)
      rw [this]; exact z
    · exact N' _ (.tail _ hp)
  · rintro h' tk m' news' F' N' _ ⟨rfl, _⟩
    exact done h' tk m' F' N'
theorem size_n {n : Nat} : Builtin.Range.rangeSize 0 (n : Int) 1 = (n : Int) := by
  rw [rangeSize_nat]; omega
theorem small_n {n : Nat} (h : n ≤ 100) : Builtin.Range.small 0 (n : Int) 1 = true := by
  unfold Builtin.Range.small
  rw [size_n]
  have f : ∀ z : Int, 0 ≤ z → z ≤ 100 → Builtin.Range.rangeFitsLong z = true := fun z h0 h1 => by
    unfold Builtin.Range.rangeFitsLong
    simp
    omega
  rw [f 0 (by decide) (by decide), f n (by omega) (by omega), f 1 (by decide) (by decide), if_pos (by decide), f _ (by omega) (by omega)]
  simp
theorem range_loop {n : Nat} {t₀ : Tok} {m₀ : Str → Option Value} {news : List (Addr × Obj)} (hh : A.handled = none) (hn : n ≤ 100) (F : Fr h₀ env.locals s.heap m₀) (N : News h₀ env.locals s.heap news)
    (turn : ∀ (i : Nat) t I oI h tk, i < n → Fr h₀ env.locals h (fun y => if y = x then some (.int (i : Int) t) else m₀ y) → News h₀ env.locals h ((I, oI) :: news) →
      wpAny (model prog w) A (execs body env) (TurnR h₀ env.locals x m₀ ((I, oI) :: news) (.int (i : Int) t) { s with heap := h, toks := tk }) E { s with heap := h, toks := tk })
    (done : ∀ h' tk m', Fr h₀ env.locals h' m' → News h₀ env.locals h' news → Q .next { s with heap := h', toks := tk }) :
    wpAny (model prog w) A (call (.type "range") [.int (n : Int) t₀]) (fun xv s₁ => wpAny (model prog w) A (pyIter xv) (fun it s₂ => LoopAtV prog w A h₀ env x body Q E it s₂) E s₁) E s := by
  refine call_range_1 ?_
  exact iter_range (n := n) hh (Heap.get?_push_size _ rfl) (small_n hn) size_n (F.push _) (fun p hp => ⟨Heap.get?_push_of_some _ (N p hp).1, (N p hp).2⟩) turn done
theorem for_F {m : Str → Option Value} {px pos : Pos} {iter : Expr} (F : Fr h₀ env.locals s.heap m) (hx : env.kindOf x = some .local)
    (hp : (env.scope.kind == .class || (env.scope.kind == .module && env.locals != env.globals)) = false)
    (h : wpAny (model prog w) A (eval iter env) (fun xv s₁ => wpAny (model prog w) A (pyIter xv) (fun it s₂ => LoopAtV prog w A h₀ env x body Q E it s₂) E s₁) E s)
    (hs : ∀ x, foldedSetIterable iter env x = pure x) (hE : PassesOwn (model prog w) A env E) :
    wpAny (model prog w) A (exec (.For (.Name x px) iter body [] pos) env) Q E s := For_invV h₀ hx hp h hs hE
end
end
section -- Q1
open PySem PySem.W PyProof.Rows PySem.Calls PySem.StrLaws
/-! the plain reading over the list of what is left -/
def At (t : Str) (i : Int) (r : List Nat) : Prop := (∃ n : Nat, i = (n : Int) ∧ n ≤ t.cps.toList.length ∧ t.cps.toList.drop n = r) ∧ ∀ c ∈ r, c < 128
section
variable {t : Str} {i : Int} {r : List Nat} {c : Nat}
theorem At.ge (h : At t i r) : 0 ≤ i ∧ i ≤ (t.length : Int) := by
  obtain ⟨⟨n, rfl, h1, _⟩, _⟩ := h
  simp only [Str.length, Array.length_toList] at *
  omega
theorem At.lt (h : At t i (c :: r)) : i < (t.length : Int) := by
  obtain ⟨⟨n, rfl, h1, h2⟩, _⟩ := h
  have e := congrArg List.length h2
  simp only [List.length_drop, List.length_cons, Array.length_toList, Str.length] at *
  omega
theorem At.eq (h : At t i []) : i = (t.length : Int) := by
  obtain ⟨⟨n, rfl, h1, h2⟩, _⟩ := h
  have e := congrArg List.length h2
  simp only [List.length_drop, List.length_nil, Array.length_toList, Str.length] at *
  omega
theorem At.step (h : At t i (c :: r)) : At t (i + 1) r := by
  have hl := h.lt
  obtain ⟨⟨n, rfl, h1, h2⟩, h3⟩ := h
  refine ⟨⟨n + 1, by omega, ?_, ?_⟩, fun x hx => h3 x (.tail _ hx)⟩
  · simp only [Str.length, Array.length_toList] at *
    omega
  · rw [← List.drop_drop, h2]; rfl
theorem At.small (h : At t i (c :: r)) : c < 128 := h.2 c (.head _)
theorem At.zero (h : ∀ c ∈ t.cps.toList, c < 128) : At t 0 t.cps.toList := ⟨⟨0, rfl, Nat.zero_le _, rfl⟩, h⟩
theorem slice_over (x : Str) (i j : Int) (h : (x.length : Int) ≤ j) : Txt.slice x (some i) (some j) = Txt.slice x (some i) (some (x.length : Int)) := by
  have e : Builtin.Str.strSliceIndices (some i) (some j) 1 x.length = Builtin.Str.strSliceIndices (some i) (some (x.length : Int)) 1 x.length := by
    have a : ¬ j < 0 := by omega
    have b : ¬ (x.length : Int) < 0 := by omega
    have d : min j (x.length : Int) = (x.length : Int) := by omega
    simp [Builtin.Str.strSliceIndices, a, b, d]
  unfold Txt.slice
  rw [e]
theorem At.slice (h : At t i r) (k : Nat) : Txt.slice t (some i) (some (i + (k : Int))) = ⟨(r.take k).toArray⟩ := by
  have hge := h.ge
  obtain ⟨⟨n, rfl, h1, h2⟩, _⟩ := h
  have hlen : t.cps.toList.length = t.length := by simp [Str.length]
  by_cases hk : (n : Int) + (k : Int) ≤ (t.length : Int)
  · have e := sliceText_plain (x := t) (i := (n : Int)) (j := (n : Int) + (k : Int)) ⟨by omega, by omega, by omega⟩
    rw [show (n : Int).toNat = n by omega, show ((n : Int) + (k : Int) - (n : Int)).toNat = k by omega, h2] at e
    exact e
  · rw [slice_over _ _ _ (by omega)]
    have e := sliceText_plain (x := t) (i := (n : Int)) (j := (t.length : Int)) ⟨by omega, by omega, by omega⟩
    rw [show (n : Int).toNat = n by omega, h2] at e
    refine Eq.trans e ?_
    have er := congrArg List.length h2
    rw [List.length_drop] at er
    rw [List.take_of_length_le (by omega), List.take_of_length_le (by omega)]
def sgL : List Nat → Str
  | [] => ⟨#[]⟩
  | c :: _ => ⟨#[c]⟩
theorem At.sgn (h : At t i r) : sgn t i = sgL r := by
  have e := h.slice 1
  cases r with
  | nil => exact e
  | cons c r => exact e
theorem At.item (h : At t i (c :: r)) : Txt.item t i = ⟨#[c]⟩ := by
  rw [sgn_item h.ge.1 h.lt, h.sgn]; rfl
end
theorem beq1 (c d : Nat) : ((⟨#[c]⟩ : Str) == ⟨#[d]⟩) = Nat.beq c d := by
  rw [Bool.eq_iff_iff, beq_iff_eq]
  exact ⟨fun h => by injection h with h; injection h with h; injection h with h; rw [h]; exact Nat.beq_refl _, fun h => by rw [Nat.eq_of_beq_eq_true h]⟩
theorem beq0 (d : Nat) : ((⟨#[]⟩ : Str) == ⟨#[d]⟩) = false := by
  rw [beq_eq_false_iff_ne]
  intro h
  injection h with h
  simp at h
theorem beq2 (c : Nat) : ((⟨#[c]⟩ : Str) == ⟨#[]⟩) = false := by
  rw [beq_eq_false_iff_ne]
  intro h
  injection h with h
  simp at h
theorem beq3 : ((⟨#[]⟩ : Str) == ⟨#[]⟩) = true := rfl
theorem o_sq : Str.ofString "[" = ⟨#[91]⟩ := by decide +kernel
theorem o_qs : Str.ofString "]" = ⟨#[93]⟩ := by decide +kernel
theorem o_cu : Str.ofString "{" = ⟨#[123]⟩ := by decide +kernel
theorem o_uc : Str.ofString "}" = ⟨#[125]⟩ := by decide +kernel
theorem o_co : Str.ofString "," = ⟨#[44]⟩ := by decide +kernel
theorem o_cl : Str.ofString ":" = ⟨#[58]⟩ := by decide +kernel
theorem o_qu : Str.ofString "\"" = ⟨#[34]⟩ := by decide +kernel
theorem o_bs : Str.ofString "\\" = ⟨#[92]⟩ := by decide +kernel
theorem o_n : Str.ofString "n" = ⟨#[110]⟩ := by decide +kernel
theorem o_nl : Str.ofString "\n" = ⟨#[10]⟩ := by decide +kernel
theorem o_mi : Str.ofString "-" = ⟨#[45]⟩ := by decide +kernel
theorem o_pt : Str.ofString "." = ⟨#[46]⟩ := by decide +kernel
theorem o_1 : Str.ofString "1" = ⟨#[49]⟩ := by decide +kernel
theorem o_0 : Str.ofString "0" = ⟨#[48]⟩ := by decide +kernel
theorem o_nu : Str.ofString "null" = ⟨#[110, 117, 108, 108]⟩ := by decide +kernel
theorem o_tr : Str.ofString "true" = ⟨#[116, 114, 117, 101]⟩ := by decide +kernel
theorem o_fa : Str.ofString "false" = ⟨#[102, 97, 108, 115, 101]⟩ := by decide +kernel
/-- the blanks -/
def blk (c : Nat) : Bool := Nat.beq c 32 || (Nat.beq c 9 || (Nat.beq c 10 || Nat.beq c 13))
theorem tab_b : ((List.range 128).all fun c => noIn (Str.ofString " \t\n\r") ⟨#[c]⟩ == !(blk c)) = true := by decide +kernel
theorem blk_in {c : Nat} (h : c < 128) : noIn (Str.ofString " \t\n\r") ⟨#[c]⟩ = !(blk c) := eq_of_beq ((List.all_eq_true.mp tab_b) c (List.mem_range.mpr h))
def skpL : List Nat → List Nat
  | [] => []
  | c :: r => bif blk c then skpL r else c :: r
theorem At.skp {t : Str} : ∀ {r : List Nat} {i : Int}, At t i r → At t (Mine.skp t i) (skpL r)
  | [], i, h => by rw [skp_end1 (by rw [h.eq]; omega)]; exact h
  | c :: r, i, h => by
    have e := blk_in h.small
    rw [← h.item] at e
    unfold skpL
    cases hb : blk c with
    | true =>
      rw [hb] at e
      rw [← skp_go h.ge.1 h.lt e]
      exact h.step.skp
    | false =>
      rw [hb] at e
      rw [skp_end2 e]
      exact h
/-- what stands in a string -/
inductive JL where
  | bad | other | ok (a : List Nat) (r : List Nat)
def jsL : List Nat → List Nat → JL
  | [], _ => .bad
  | [c], a => bif Nat.beq c 34 then .ok a [] else .bad
  | c :: d :: r, a => bif Nat.beq c 34 then .ok a (d :: r) else bif Nat.ble c 31 then .bad else bif Nat.beq c 92 then (bif Nat.beq d 110 then jsL r (10 :: a) else .other) else jsL (d :: r) (c :: a)
def one (c : Nat) : Str := ⟨#[c]⟩
def ones (a : List Nat) : List Str := a.reverse.map one
theorem ones_cons (c : Nat) (a : List Nat) : ones a ++ [⟨#[c]⟩] = ones (c :: a) := by simp [ones, one]
def JRel (t : Str) (x : JS) : JL → Prop
  | .other => True
  | .bad => x = .bad
  | .ok a r => ∃ e, x = .ok (ones a) e ∧ At t e r
theorem At.js {t : Str} : ∀ {r : List Nat} {a : List Nat} {i : Int}, At t i r → JRel t (Mine.js t i (ones a)) (jsL r a)
  | [], a, i, h => by
    refine js_bad1 h.ge.1 h.ge.2 ?_ ?_ <;> rw [h.sgn]
    · rw [o_qu]; exact beq0 _
    · rw [emp]; rfl
  | [c], a, i, h => by
    have hs := h.sgn
    unfold jsL
    by_cases q : Nat.beq c 34 = true
    · rw [q]
      exact ⟨_, js_end h.ge.1 h.ge.2 (by rw [hs, o_qu]; exact (beq1 _ _).trans q), h.step⟩
    · have q' : Nat.beq c 34 = false := bof q
      rw [q']
      show Mine.js t i (ones a) = JS.bad
      have k1 : (Mine.sgn t i == Str.ofString "\"") = false := by rw [hs, o_qu]; exact (beq1 _ _).trans q'
      have k2 : (Mine.sgn t i == Str.ofString "") = false := by rw [hs, emp]; exact beq2 _
      rw [js_unf h.ge.1 h.ge.2, if_neg (by rw [k1]; decide), if_neg (by rw [k2]; decide)]
      split
      · rfl
      · rename_i g
        have h1 := h.step
        have z1 : (Mine.sgn t (i + 1) == Str.ofString "n") = false := by rw [h1.sgn, o_n]; exact beq0 _
        have z2 : (Mine.sgn t (i + 1) == Str.ofString "") = true := by rw [h1.sgn, emp]; rfl
        split
        · refine js_bad1 h1.ge.1 h1.ge.2 ?_ z2
          rw [h1.sgn, o_qu]; exact beq0 _
        · simp [z1, z2]
  | c :: d :: r, a, i, h => by
    have hs := h.sgn
    have h1 := h.step
    unfold jsL
    by_cases q : Nat.beq c 34 = true
    · rw [q]
      exact ⟨_, js_end h.ge.1 h.ge.2 (by rw [hs, o_qu]; exact (beq1 _ _).trans q), h.step⟩
    · have q' : Nat.beq c 34 = false := bof q
      rw [q']
      have k1 : (Mine.sgn t i == Str.ofString "\"") = false := by rw [hs, o_qu]; exact (beq1 _ _).trans q'
      have k2 : (Mine.sgn t i == Str.ofString "") = false := by rw [hs, emp]; exact beq2 _
      have kd : ((Mine.sgn t i).cps.getD 0 0 : Int) = (c : Int) := by rw [hs]; rfl
      by_cases g : Nat.ble c 31 = true
      · rw [g]
        have g' : c ≤ 31 := Nat.le_of_ble_eq_true g
        exact js_bad2 h.ge.1 h.ge.2 k1 (by rw [kd]; omega)
      · have g0 : Nat.ble c 31 = false := bof g
        have g' : ¬ c ≤ 31 := fun x => g (Nat.ble_eq_true_of_le x)
        rw [g0]
        have k3 : ¬ ((Mine.sgn t i).cps.getD 0 0 : Int) < 32 := by rw [kd]; omega
        rw [js_unf h.ge.1 h.ge.2, if_neg (by rw [k1]; decide), if_neg (by rw [k2]; decide), if_neg k3]
        by_cases b : Nat.beq c 92 = true
        · rw [b]
          have kb : (Mine.sgn t i == Str.ofString "\\") = true := by rw [hs, o_bs]; exact (beq1 _ _).trans b
          rw [if_neg (by rw [kb]; decide)]
          by_cases n : Nat.beq d 110 = true
          · rw [n]
            have kn : (Mine.sgn t (i + 1) == Str.ofString "n") = true := by rw [h1.sgn, o_n]; exact (beq1 _ _).trans n
            rw [if_pos kn, o_nl, ones_cons]
            have h2 := h1.step
            rw [show i + 1 + 1 = i + 2 by omega] at h2
            exact h2.js
          · have n' : Nat.beq d 110 = false := bof n
            rw [n']
            exact trivial
        · have b' : Nat.beq c 92 = false := bof b
          rw [b']
          have kb : (Mine.sgn t i == Str.ofString "\\") = false := by rw [hs, o_bs]; exact (beq1 _ _).trans b'
          rw [if_pos kb, hs, show sgL (c :: d :: r) = ⟨#[c]⟩ from rfl, ones_cons]
          exact h1.js
def jstrL : List Nat → JL
  | [] => .bad
  | c :: r => bif Nat.beq c 34 then jsL r [] else .bad
theorem At.jstr {t : Str} {r : List Nat} {i : Int} (h : At t i r) : JRel t (Mine.jstr t i) (jstrL r) := by
  unfold Mine.jstr
  rw [h.sgn, o_qu]
  cases r with
  | nil => rw [if_neg (by rw [show sgL [] = ⟨#[]⟩ from rfl, beq0]; decide)]; rfl
  | cons c r =>
    rw [show sgL (c :: r) = ⟨#[c]⟩ from rfl, beq1]
    unfold jstrL
    cases q : Nat.beq c 34 with
    | true =>
      rw [if_pos rfl]
      show JRel t _ (bif Nat.beq c 34 then _ else _)
      rw [q]
      exact h.step.js (a := [])
    | false =>
      rw [if_neg (by decide)]
      show JRel t _ (bif Nat.beq c 34 then _ else _)
      rw [q]
      rfl
end
section -- Q2
open PySem PySem.W PyProof.Rows PySem.Calls PySem.StrLaws
def isL : List Nat → Nat → Bool
  | [], _ => false
  | c :: _, d => Nat.beq c d
theorem At.is {t : Str} {i : Int} {r : List Nat} (h : At t i r) {S : Str} {d : Nat} (o : S = ⟨#[d]⟩) : (Mine.sgn t i == S) = isL r d := by
  rw [h.sgn, o]
  cases r with
  | nil => exact beq0 _
  | cons c r => exact beq1 _ _
theorem At.isE {t : Str} {i : Int} {r : List Nat} (h : At t i r) : (Mine.sgn t i == Str.ofString "") = r.isEmpty := by
  rw [h.sgn, emp]
  cases r with
  | nil => rfl
  | cons c r => exact beq2 _
/-- a plain thing, told shortly -/
inductive Cd where
  | nul | tru | one | zer | s (a : List Nat)
def Cd.d : Cd → PyData
  | .nul => .tuple [.str (Str.ofString "null"), .none]
  | .tru => .tuple [.str (Str.ofString "bool"), .bool true]
  | .one => .tuple [.str (Str.ofString "number"), .int 4607182418800017408]
  | .zer => .tuple [.str (Str.ofString "number"), .int 0]
  | .s a => .tuple [.str (Str.ofString "string"), .str (Txt.join (Str.ofString "") (ones a))]
inductive PL where
  | bad | other | ok (c : Cd) (r : List Nat)
def PRel (t : Str) (x : PR) : PL → Prop
  | .other => True
  | .bad => x = .bad
  | .ok c r => ∃ e, x = .ok c.d e ∧ At t e r
def w3L (a b c : Nat) : List Nat → Option (List Nat)
  | x :: y :: z :: r => bif Nat.beq x a && (Nat.beq y b && Nat.beq z c) then some r else none
  | _ => none
theorem w3L_some {a b c : Nat} {r r' : List Nat} (h : w3L a b c r = some r') : r = a :: b :: c :: r' := by
  match r, h with
  | x :: y :: z :: r, h =>
    change (bif Nat.beq x a && (Nat.beq y b && Nat.beq z c) then some r else none) = some r' at h
    cases q : (Nat.beq x a && (Nat.beq y b && Nat.beq z c)) with
    | false => rw [q] at h; exact nomatch h
    | true =>
      rw [q] at h
      injection h with h
      simp only [Bool.and_eq_true, Nat.beq_eq] at q
      rw [q.1, q.2.1, q.2.2, h]
theorem w3L_none {a b c : Nat} {r : List Nat} (h : w3L a b c r = none) : r.take 3 ≠ [a, b, c] := by
  intro e
  match r, h, e with
  | x :: y :: z :: r, h, e =>
    simp only [List.take_succ_cons, List.take_zero, List.cons.injEq] at e
    obtain ⟨rfl, rfl, rfl, _⟩ := e
    change (bif Nat.beq x x && (Nat.beq y y && Nat.beq z z) then some r else none) = none at h
    rw [show (Nat.beq x x && (Nat.beq y y && Nat.beq z z)) = true by simp only [Nat.beq_refl, Bool.and_self]] at h
    exact nomatch h
def fine : List Nat → Bool
  | [] => true
  | d :: _ => blk d || (Nat.beq d 44 || (Nat.beq d 93 || Nat.beq d 125))
def plnL : List Nat → PL
  | [] => .bad
  | c :: r =>
    bif Nat.beq c 34 then (match jsL r [] with | .bad => .bad | .other => .other | .ok a r' => .ok (.s a) r')
    else bif Nat.beq c 110 then (match w3L 117 108 108 r with | some r' => .ok .nul r' | none => .bad)
    else bif Nat.beq c 116 then (match w3L 114 117 101 r with | some r' => .ok .tru r' | none => .bad)
    else bif Nat.beq c 49 then (bif fine r then .ok .one r else .other)
    else bif Nat.beq c 48 then (bif fine r then .ok .zer r else .other)
    else .other
theorem fine_d {d : Nat} {r : List Nat} (h : fine (d :: r) = true) : ¬ fig d < 10 ∧ Nat.beq d 46 = false ∧ noIn (Str.ofString "eE") ⟨#[d]⟩ = true := by
  have : d = 32 ∨ d = 9 ∨ d = 10 ∨ d = 13 ∨ d = 44 ∨ d = 93 ∨ d = 125 := by
    simp only [fine, blk, Bool.or_eq_true, Nat.beq_eq] at h
    omega
  rcases this with rfl | rfl | rfl | rfl | rfl | rfl | rfl <;> exact ⟨by decide, by decide, by decide +kernel⟩
theorem wne {c d : Nat} {r l : List Nat} {k : Nat} (h : c ≠ d) : ((⟨((c :: r).take (k + 1)).toArray⟩ : Str) == ⟨(d :: l).toArray⟩) = false := by
  rw [beq_eq_false_iff_ne]
  intro e
  injection e with e
  have e := congrArg Array.toList e
  simp only [List.take_succ_cons, List.cons.injEq] at e
  exact h e.1
section
variable {t : Str} {i : Int} {r : List Nat} {c : Nat}
theorem At.nnul (h : At t i (c :: r)) (hd : c ≠ 110) : ¬ (wd4 t i == Str.ofString "null") = true := by
  rw [show wd4 t i = _ from h.slice 4, o_nu, wne hd]
  decide
theorem At.ntru (h : At t i (c :: r)) (hd : c ≠ 116) : ¬ (wd4 t i == Str.ofString "true") = true := by
  rw [show wd4 t i = _ from h.slice 4, o_tr, wne hd]
  decide
theorem At.nfal (h : At t i (c :: r)) (hd : c ≠ 102) : ¬ (wd5 t i == Str.ofString "false") = true := by
  rw [show wd5 t i = _ from h.slice 5, o_fa, wne hd]
  decide
theorem At.isne (h : At t i (c :: r)) {S : Str} {d : Nat} (o : S = ⟨#[d]⟩) (hd : c ≠ d) : ¬ (Mine.sgn t i == S) = true := by
  rw [h.is o]
  intro e
  exact hd (Nat.eq_of_beq_eq_true e)
theorem At.isyes (h : At t i (c :: r)) {S : Str} (o : S = ⟨#[c]⟩) : (Mine.sgn t i == S) = true := by
  rw [h.is o]
  exact Nat.beq_refl c
theorem At.nonE (h : At t i (c :: r)) : ¬ (Mine.sgn t i == Str.ofString "") = true := by
  rw [h.isE]; exact fun e => nomatch e
theorem At.badw (h : At t i (c :: r)) (h1 : ¬ (wd4 t i == Str.ofString "null") = true) (h2 : ¬ (wd4 t i == Str.ofString "true") = true) (h3 : c ≠ 102) (h4 : c ≠ 34) (h5 : c ≠ 45) (h6 : noIn (Str.ofString "0123456789") ⟨#[c]⟩ = true) : pln t i = .bad := by
  unfold pln
  rw [if_neg h1, if_neg h2, if_neg (h.nfal h3), if_neg (h.isne o_qu h4), if_neg (h.isne o_mi h5), if_neg h.nonE, if_pos (by rw [h.item]; exact h6)]
theorem At.num (h : At t i (c :: r)) (h1 : c = 49 ∨ c = 48) (hf : fine r = true) : ∃ e, pln t i = .ok (if c = 49 then Cd.one else Cd.zer).d e ∧ At t e r := by
  have f : c ≠ 110 ∧ c ≠ 116 ∧ c ≠ 102 ∧ c ≠ 34 ∧ c ≠ 45 := by omega
  have hs := h.step
  have hr0 : ren t (i + 1) = ren t i := ren_go h.ge.1 h.lt (by rw [cpa, h.item]; rcases h1 with rfl | rfl <;> decide)
  have hr : ren t (i + 1) = i + 1 := by
    cases r with
    | nil => exact ren_end1 (by rw [hs.eq]; omega)
    | cons d r => exact ren_end2 (by rw [cpa, hs.item]; exact (fine_d hf).1)
  have hx : (Mine.sgn t (i + 1) == Str.ofString ".") = false ∧ ((t.length : Int) ≤ i + 1 ∨ noIn (Str.ofString "eE") (Txt.item t (i + 1)) = true) := by
    rw [hs.is o_pt]
    cases r with
    | nil => exact ⟨rfl, .inl (by rw [hs.eq]; omega)⟩
    | cons d r => exact ⟨(fine_d hf).2.1, .inr (by rw [hs.item]; exact (fine_d hf).2.2)⟩
  have hd : ¬ noIn (Str.ofString "0123456789") (Txt.item t i) = true := by
    rw [h.item]
    rcases h1 with rfl | rfl <;> decide +kernel
  have e1 : Txt.slice t (some i) (some (i + 1)) = ⟨#[c]⟩ := h.sgn
  refine ⟨i + 1, ?_, hs⟩
  unfold pln
  rw [if_neg (h.nnul f.1), if_neg (h.ntru f.2.1), if_neg (h.nfal f.2.2.1), if_neg (h.isne o_qu f.2.2.2.1), if_neg (h.isne o_mi f.2.2.2.2), if_neg h.nonE, if_neg hd, ← hr0, hr, if_pos ⟨rfl, hx⟩, e1, o_1, o_0]
  rcases h1 with rfl | rfl
  · rfl
  · rw [if_neg (by decide), if_pos rfl]; rfl
theorem At.pln {r : List Nat} (h : At t i r) : PRel t (pln t i) (plnL r) := by
  cases r with
  | nil =>
    have hsl : ∀ k : Nat, Txt.slice t (some i) (some (i + (k : Int))) = ⟨#[]⟩ := fun k => by rw [h.slice k, List.take_nil]
    have e4 : wd4 t i = ⟨#[]⟩ := hsl 4
    have e5 : wd5 t i = ⟨#[]⟩ := hsl 5
    show Mine.pln t i = .bad
    unfold Mine.pln
    rw [e4, e5, h.is o_qu, h.is o_mi, h.isE, if_neg (by decide +kernel), if_neg (by decide +kernel), if_neg (by decide +kernel), if_neg (by decide), if_neg (by decide), if_pos (show ([] : List Nat).isEmpty = true from rfl)]
  | cons c r =>
    rw [show plnL (c :: r) = bif Nat.beq c 34 then (match jsL r [] with | .bad => .bad | .other => .other | .ok a r' => .ok (.s a) r')
    else bif Nat.beq c 110 then (match w3L 117 108 108 r with | some r' => .ok .nul r' | none => .bad)
    else bif Nat.beq c 116 then (match w3L 114 117 101 r with | some r' => .ok .tru r' | none => .bad)
    else bif Nat.beq c 49 then (bif fine r then .ok .one r else .other)
    else bif Nat.beq c 48 then (bif fine r then .ok .zer r else .other)
    else .other from rfl]
    cases q : Nat.beq c 34 with
    | true =>
      obtain rfl := Nat.eq_of_beq_eq_true q
      have hj := h.jstr
      have hp : Mine.pln t i = match Mine.jstr t i with
        | .ok l e => .ok (.tuple [.str (Str.ofString "string"), .str (Txt.join (Str.ofString "") l)]) e
        | .bad => .bad
        | .other => .other := by
        unfold Mine.pln
        rw [if_neg (h.nnul (by decide)), if_neg (h.ntru (by decide)), if_neg (h.nfal (by decide)), if_pos (h.isyes o_qu)]
        first | done | rfl
      change JRel t _ (jsL r []) at hj
      simp only [cond_true]
      rw [hp]
      cases jq : jsL r [] with
      | other => exact trivial
      | bad =>
        rw [jq] at hj
        rw [show Mine.jstr t i = .bad from hj]
        rfl
      | ok a r' =>
        rw [jq] at hj
        obtain ⟨e, e1, e2⟩ := hj
        rw [e1]
        exact ⟨e, rfl, e2⟩
    | false =>
    cases q1 : Nat.beq c 110 with
    | true =>
      obtain rfl := Nat.eq_of_beq_eq_true q1
      cases w : w3L 117 108 108 r with
      | some r' =>
        obtain rfl := w3L_some w
        have e4 : wd4 t i = ⟨[110, 117, 108, 108].toArray⟩ := h.slice 4
        refine ⟨i + 4, ?_, ?_⟩
        · unfold Mine.pln
          rw [e4, if_pos (by rw [o_nu]; rfl)]; rfl
        · have := h.step.step.step.step
          rw [show i + 1 + 1 + 1 + 1 = i + 4 by omega] at this
          exact this
      | none =>
        show Mine.pln t i = .bad
        refine h.badw ?_ (h.ntru (by decide)) (by decide) (by decide) (by decide) (by decide +kernel)
        have e4 : wd4 t i = ⟨(110 :: r.take 3).toArray⟩ := h.slice 4
        rw [e4, o_nu, beq_iff_eq]
        intro e
        injection e with e
        have e := congrArg Array.toList e
        simp only [List.cons.injEq, true_and] at e
        exact w3L_none w e
    | false =>
    cases q2 : Nat.beq c 116 with
    | true =>
      obtain rfl := Nat.eq_of_beq_eq_true q2
      cases w : w3L 114 117 101 r with
      | some r' =>
        obtain rfl := w3L_some w
        have e4 : wd4 t i = ⟨[116, 114, 117, 101].toArray⟩ := h.slice 4
        refine ⟨i + 4, ?_, ?_⟩
        · unfold Mine.pln
          rw [e4, if_neg (by decide +kernel), if_pos (by rw [o_tr]; rfl)]; rfl
        · have := h.step.step.step.step
          rw [show i + 1 + 1 + 1 + 1 = i + 4 by omega] at this
          exact this
      | none =>
        show Mine.pln t i = .bad
        refine h.badw (h.nnul (by decide)) ?_ (by decide) (by decide) (by decide) (by decide +kernel)
        have e4 : wd4 t i = ⟨(116 :: r.take 3).toArray⟩ := h.slice 4
        rw [e4, o_tr, beq_iff_eq]
        intro e
        injection e with e
        have e := congrArg Array.toList e
        simp only [List.cons.injEq, true_and] at e
        exact w3L_none w e
    | false =>
    cases q3 : Nat.beq c 49 with
    | true =>
      obtain rfl := Nat.eq_of_beq_eq_true q3
      cases hf : fine r with
      | false => exact trivial
      | true => exact h.num (.inl rfl) hf
    | false =>
    cases q4 : Nat.beq c 48 with
    | true =>
      obtain rfl := Nat.eq_of_beq_eq_true q4
      cases hf : fine r with
      | false => exact trivial
      | true => exact h.num (.inr rfl) hf
    | false => exact trivial
end
/-! the whole -/
inductive RL where
  | bad | other | row (a b : Cd) | obj (k1 : List Nat) (a : Cd) (k2 : List Nat) (b : Cd)
def RRel (x : PR) : RL → Prop
  | .other => True
  | .bad => x = .bad
  | .row a b => x = .ok (.tuple [.str (Str.ofString "array"), .list [a.d, b.d]]) 0
  | .obj k1 a k2 b => x = .ok (.tuple [.str (Str.ofString "object"), .list [.tuple [.str (Txt.join (Str.ofString "") (ones k1)), a.d], .tuple [.str (Txt.join (Str.ofString "") (ones k2)), b.d]]]) 0
/-- the closing bracket q, and the end -/
def endL (q : Nat) (R : RL) (r : List Nat) : RL :=
  match skpL r with
  | [] => .bad
  | c :: r' => bif Nat.beq c 44 then .other else bif Nat.beq c q then (match skpL r' with | [] => R | _ :: _ => .bad) else .bad
/-- behind a first thing: a comma and more -/
def moreL (q : Nat) (K : List Nat → RL) (r : List Nat) : RL :=
  match skpL r with
  | [] => .bad
  | c :: r' => bif Nat.beq c 44 then K (skpL r') else bif Nat.beq c q then .other else .bad
def pl1 (r : List Nat) (K : Cd → List Nat → RL) : RL :=
  match plnL r with
  | .bad => .bad
  | .other => .other
  | .ok c r' => K c r'
def st1 (r : List Nat) (K : List Nat → List Nat → RL) : RL :=
  match jstrL r with
  | .bad => .bad
  | .other => .other
  | .ok c r' => K c r'
def colL (K : List Nat → RL) (r : List Nat) : RL :=
  match skpL r with
  | [] => .bad
  | c :: r' => bif Nat.beq c 58 then K (skpL r') else .bad
def rowL (r : List Nat) : RL := pl1 (skpL (skpL r)) fun a r1 => moreL 93 (fun r2 => pl1 r2 fun b r3 => endL 93 (.row a b) r3) r1
def objL (r : List Nat) : RL := bif isL (skpL r) 125 then .other else st1 (skpL (skpL r)) fun k1 r1 => colL (fun r2 => pl1 r2 fun a r3 => moreL 125 (fun r4 => st1 r4 fun k2 r5 => colL (fun r6 => pl1 r6 fun b r7 => endL 125 (.obj k1 a k2 b) r7) r5) r3) r1
def rdL (r : List Nat) : RL :=
  match skpL r with
  | [] => .bad
  | c :: r' => bif Nat.beq c 91 then rowL r' else bif Nat.beq c 123 then objL r' else .other
section
variable {t : Str} {i : Int} {r : List Nat} {d1 d2 : PyData} {l1 l2 : List Str}
theorem fib {b : Bool} (h : b = false) : ¬ b = true := by rw [h]; decide
theorem At.pl1 {r : List Nat} (h : At t i r) (f : PyData → Int → PR) {K : Cd → List Nat → RL} (k : ∀ c e r', At t e r' → RRel (f c.d e) (K c r')) :
    RRel (if (Mine.sgn t i == Str.ofString "[") = true then .other else if (Mine.sgn t i == Str.ofString "{") = true then .other else match Mine.pln t i with | .bad => .bad | .other => .other | .ok d e => f d e) (pl1 r K) := by
  have hp := h.pln
  rw [h.is o_sq, h.is o_cu]
  unfold Mine.pl1
  cases q : plnL r with
  | other => exact trivial
  | bad =>
    rw [q] at hp
    rw [show Mine.pln t i = .bad from hp]
    cases r with
    | nil => rfl
    | cons c r =>
      have : isL (c :: r) 91 = false ∧ isL (c :: r) 123 = false := by
        constructor
        · show Nat.beq c 91 = false
          cases z : Nat.beq c 91 with
          | false => rfl
          | true => obtain rfl := Nat.eq_of_beq_eq_true z; exact nomatch (q : PL.other = .bad)
        · show Nat.beq c 123 = false
          cases z : Nat.beq c 123 with
          | false => rfl
          | true => obtain rfl := Nat.eq_of_beq_eq_true z; exact nomatch (q : PL.other = .bad)
      rw [if_neg (fib this.1), if_neg (fib this.2)]
      rfl
  | ok c' r' =>
    rw [q] at hp
    obtain ⟨e, e1, e2⟩ := hp
    rw [e1]
    cases r with
    | nil => exact nomatch q
    | cons c r =>
      have : isL (c :: r) 91 = false ∧ isL (c :: r) 123 = false := by
        constructor
        · show Nat.beq c 91 = false
          cases z : Nat.beq c 91 with
          | false => rfl
          | true => obtain rfl := Nat.eq_of_beq_eq_true z; exact nomatch (q : PL.other = .ok _ _)
        · show Nat.beq c 123 = false
          cases z : Nat.beq c 123 with
          | false => rfl
          | true => obtain rfl := Nat.eq_of_beq_eq_true z; exact nomatch (q : PL.other = .ok _ _)
      rw [if_neg (fib this.1), if_neg (fib this.2)]
      exact k _ _ _ e2
theorem At.st1 {r : List Nat} (h : At t i r) (f : List Str → Int → PR) {K : List Nat → List Nat → RL} (k : ∀ a e r', At t e r' → RRel (f (ones a) e) (K a r')) :
    RRel (match Mine.jstr t i with | .bad => .bad | .other => .other | .ok l e => f l e) (st1 r K) := by
  have hp := h.jstr
  unfold Mine.st1
  cases q : jstrL r with
  | other => exact trivial
  | bad =>
    rw [q] at hp
    rw [show Mine.jstr t i = .bad from hp]
    rfl
  | ok c' r' =>
    rw [q] at hp
    obtain ⟨e, e1, e2⟩ := hp
    rw [e1]
    exact k _ _ _ e2
theorem At.endL {q : Nat} {S : Str} {R : RL} {x : PR} (h : At t i r) (o : S = ⟨#[q]⟩) (hx : RRel x R) :
    RRel (if (Mine.sgn t (Mine.skp t i) == Str.ofString ",") = true then .other else if (Mine.sgn t (Mine.skp t i) != S) = true then .bad else if (Mine.sgn t (Mine.skp t (Mine.skp t i + 1)) != Str.ofString "") = true then .bad else x) (endL q R r) := by
  have h1 := h.skp
  unfold Mine.endL
  rw [bne, bne, h1.is o_co, h1.is o]
  cases hk : skpL r with
  | nil => rfl
  | cons c r' =>
    rw [hk] at h1
    have h2 := h1.step.skp
    show RRel (if Nat.beq c 44 = true then _ else if (!Nat.beq c q) = true then _ else _) (bif Nat.beq c 44 then .other else bif Nat.beq c q then (match skpL r' with | [] => R | _ :: _ => .bad) else .bad)
    cases q1 : Nat.beq c 44 with
    | true => exact trivial
    | false =>
      rw [if_neg (by decide)]
      cases q2 : Nat.beq c q with
      | false => rfl
      | true =>
        rw [if_neg (by decide), h2.isE]
        simp only [cond_true, cond_false]
        cases skpL r' with
        | nil => exact hx
        | cons _ _ => rfl
theorem At.moreL {q : Nat} {S : Str} {K : List Nat → RL} {x : PR} (h : At t i r) (o : S = ⟨#[q]⟩) (hx : ∀ r', At t (Mine.skp t (Mine.skp t i + 1)) r' → RRel x (K r')) :
    RRel (if (Mine.sgn t (Mine.skp t i) == Str.ofString ",") = true then x else if (Mine.sgn t (Mine.skp t i) != S) = true then .bad else .other) (moreL q K r) := by
  have h1 := h.skp
  unfold Mine.moreL
  rw [bne, h1.is o_co, h1.is o]
  cases hk : skpL r with
  | nil => rfl
  | cons c r' =>
    rw [hk] at h1
    have h2 := h1.step.skp
    show RRel (if Nat.beq c 44 = true then _ else if (!Nat.beq c q) = true then _ else _) (bif Nat.beq c 44 then K (skpL r') else bif Nat.beq c q then .other else .bad)
    cases q1 : Nat.beq c 44 with
    | true => exact hx _ h2
    | false =>
      rw [if_neg (by decide)]
      cases q2 : Nat.beq c q with
      | false => rfl
      | true => exact trivial
theorem At.colL {K : List Nat → RL} {x : PR} (h : At t i r) (hx : ∀ r', At t (Mine.skp t (Mine.skp t i + 1)) r' → RRel x (K r')) :
    RRel (if (Mine.sgn t (Mine.skp t i) != Str.ofString ":") = true then .bad else x) (colL K r) := by
  have h1 := h.skp
  unfold Mine.colL
  rw [bne, h1.is o_cl]
  cases hk : skpL r with
  | nil => rfl
  | cons c r' =>
    rw [hk] at h1
    have h2 := h1.step.skp
    show RRel (if (!Nat.beq c 58) = true then _ else _) (bif Nat.beq c 58 then K (skpL r') else .bad)
    cases q1 : Nat.beq c 58 with
    | true => exact hx _ h2
    | false => rfl
theorem At.row (h : At t (Mine.skp t 0) (91 :: r)) : RRel (rdA1 t) (rowL r) := by
  have h1 := h.step.skp
  have h2 := h1.skp
  unfold rdA1 rowL
  cases z : isL (skpL r) 93 with
  | true =>
    rw [h1.is o_qs, if_pos z]
    cases hk : skpL r with
    | nil => rw [hk] at z; exact nomatch z
    | cons c r' =>
      rw [hk] at z
      obtain rfl := Nat.eq_of_beq_eq_true z
      exact trivial
  | false =>
  rw [if_neg (by rw [h1.is o_qs, z]; decide)]
  refine h2.pl1 (rdA2 t) fun a e1 r1 k1 => ?_
  unfold rdA2
  refine k1.moreL o_qs fun r2 k2 => ?_
  refine k2.pl1 (rdA3 t a.d) fun b e3 r3 k3 => ?_
  unfold rdA3
  exact k3.endL o_qs rfl
theorem At.obj (h : At t (Mine.skp t 0) (123 :: r)) : RRel (rdO1 t) (objL r) := by
  have h1 := h.step.skp
  have h2 := h1.skp
  unfold rdO1 objL
  rw [h1.is o_uc]
  cases z : isL (skpL r) 125 with
  | true => exact trivial
  | false =>
  rw [if_neg (by decide)]
  refine h2.st1 (rdO2 t) fun ka e1 r1 k1 => ?_
  unfold rdO2
  refine k1.colL fun r2 k2 => ?_
  refine k2.pl1 (rdO3 t (ones ka)) fun a e3 r3 k3 => ?_
  unfold rdO3
  refine k3.moreL o_uc fun r4 k4 => ?_
  refine k4.st1 (rdO4 t (ones ka) a.d) fun kb e5 r5 k5 => ?_
  unfold rdO4
  refine k5.colL fun r6 k6 => ?_
  refine k6.pl1 (rdO5 t (ones ka) a.d (ones kb)) fun b e7 r7 k7 => ?_
  unfold rdO5
  exact k7.endL o_uc rfl
theorem rd_L (h : ∀ c ∈ t.cps.toList, c < 128) : RRel (rd t) (rdL t.cps.toList) := by
  have h1 := (At.zero h).skp
  unfold rd rdL
  rw [h1.is o_sq, h1.is o_cu]
  cases hk : skpL t.cps.toList with
  | nil =>
    rw [hk] at h1
    rw [show Mine.pln t (Mine.skp t 0) = .bad from h1.pln]
    rfl
  | cons c r =>
    rw [hk] at h1
    show RRel (if Nat.beq c 91 = true then _ else if Nat.beq c 123 = true then _ else _) (bif Nat.beq c 91 then rowL r else bif Nat.beq c 123 then objL r else .other)
    cases q : Nat.beq c 91 with
    | true =>
      obtain rfl := Nat.eq_of_beq_eq_true q
      exact h1.row
    | false =>
    cases q2 : Nat.beq c 123 with
    | true =>
      obtain rfl := Nat.eq_of_beq_eq_true q2
      exact h1.obj
    | false => exact trivial
end
end
section -- Q3
open PySem PySem.W PyProof.Rows PySem.Calls PySem.StrLaws
/-! the made texts as lists, and the check -/
def gapL : Nat → List Nat
  | 0 => [32]
  | 1 => []
  | _ => [10]
def mdL : Nat → List Nat
  | 0 => [110, 117, 108, 108]
  | 1 => [116, 114, 117, 101]
  | 2 => [49]
  | 3 => [48]
  | 4 => [34, 97, 92, 110, 34]
  | _ => [34, 93, 34]
def mdC : Nat → Cd
  | 0 => .nul
  | 1 => .tru
  | 2 => .one
  | 3 => .zer
  | 4 => .s [10, 97]
  | _ => .s [93]
def rowT (g a b : List Nat) : List Nat := 91 :: (g ++ (a ++ (44 :: (g ++ (b ++ (g ++ [93]))))))
def objT (g a b : List Nat) : List Nat := 123 :: (g ++ (34 :: 107 :: 48 :: 34 :: 58 :: (g ++ (a ++ (44 :: (g ++ (34 :: 107 :: 49 :: 34 :: 58 :: (g ++ (b ++ (g ++ [125])))))))))) 
def eqN : List Nat → List Nat → Bool
  | [], [] => true
  | a :: r, b :: s => Nat.beq a b && eqN r s
  | _, _ => false
theorem eqN_eq : ∀ {a b : List Nat}, eqN a b = true → a = b
  | [], [], _ => rfl
  | a :: r, b :: s, h => by
    have h : (Nat.beq a b && eqN r s) = true := h
    rw [Bool.and_eq_true] at h
    rw [Nat.eq_of_beq_eq_true h.1, eqN_eq h.2]
def eqC : Cd → Cd → Bool
  | .nul, .nul => true
  | .tru, .tru => true
  | .one, .one => true
  | .zer, .zer => true
  | .s a, .s b => eqN a b
  | _, _ => false
theorem eqC_eq : ∀ {a b : Cd}, eqC a b = true → a = b
  | .nul, .nul, _ => rfl
  | .tru, .tru, _ => rfl
  | .one, .one, _ => rfl
  | .zer, .zer, _ => rfl
  | .s a, .s b, h => by rw [eqN_eq (a := a) (b := b) h]
def isB : RL → Bool
  | .bad => true
  | _ => false
def isR (a b : Cd) : RL → Bool
  | .row c d => eqC c a && eqC d b
  | _ => false
def isO (a b : Cd) : RL → Bool
  | .obj k1 c k2 d => (eqN k1 [48, 107] && eqN k2 [49, 107]) && (eqC c a && eqC d b)
  | _ => false
/-- the list, worked out first -/
def fork : List Nat → (List Nat → Bool) → Bool
  | [], k => k []
  | c :: r, k => fork r fun r' => k (c :: r')
theorem fork_eq : ∀ (l : List Nat) (k : List Nat → Bool), fork l k = k l
  | [], _ => rfl
  | c :: r, k => fork_eq r _
def parts : List Nat → (List Nat → List Nat) → Bool
  | [], _ => true
  | c :: r, p => isB (rdL (p [])) && parts r fun x => p (c :: x)
theorem parts_all : ∀ {l : List Nat} {p : List Nat → List Nat}, parts l p = true → ∀ e, e < l.length → isB (rdL (p (l.take e))) = true
  | [], _, _, e, he => absurd he (Nat.not_lt_zero _)
  | c :: r, p, h, e, he => by
    have h : (isB (rdL (p [])) && parts r fun x => p (c :: x)) = true := h
    rw [Bool.and_eq_true] at h
    cases e with
    | zero => exact h.1
    | succ e => exact parts_all (p := fun x => p (c :: x)) h.2 e (Nat.lt_of_succ_lt_succ he)
def chk (ok : RL → Bool) (T : List Nat) : Bool :=
  fork T fun T => (ok (rdL T) && ok (rdL (T ++ [32, 10]))) && (([93, 125, 48, 44, 120, 34].all fun x => isB (rdL (T ++ [x]))) && (parts T (fun x => x) && (T.all (fun c => Nat.blt c 128) && Nat.ble T.length 60)))
def chkR (g f1 f2 : Nat) : Bool := chk (isR (mdC f1) (mdC f2)) (rowT (gapL g) (mdL f1) (mdL f2))
def chkO (g f1 f2 : Nat) : Bool := chk (isO (mdC f1) (mdC f2)) (objT (gapL g) (mdL f1) (mdL f2))
def six (p : Nat → Bool) : Bool := p 0 && (p 1 && (p 2 && (p 3 && (p 4 && p 5))))
theorem six_all {p : Nat → Bool} (h : six p = true) : ∀ n, n < 6 → p n = true := by
  simp only [six, Bool.and_eq_true] at h
  intro n hn
  match n, hn with
  | 0, _ => exact h.1
  | 1, _ => exact h.2.1
  | 2, _ => exact h.2.2.1
  | 3, _ => exact h.2.2.2.1
  | 4, _ => exact h.2.2.2.2.1
  | 5, _ => exact h.2.2.2.2.2
theorem r0 : six (fun a => six (chkR 0 a)) = true := by decide +kernel
theorem r1 : six (fun a => six (chkR 1 a)) = true := by decide +kernel
theorem r2 : six (fun a => six (chkR 2 a)) = true := by decide +kernel
theorem q0 : six (fun a => six (chkO 0 a)) = true := by decide +kernel
theorem q1 : six (fun a => six (chkO 1 a)) = true := by decide +kernel
theorem q2 : six (fun a => six (chkO 2 a)) = true := by decide +kernel
theorem chkR_all {g a b : Nat} (hg : g < 3) (ha : a < 6) (hb : b < 6) : chkR g a b = true := by
  match g, hg with
  | 0, _ => exact six_all (six_all r0 a ha) b hb
  | 1, _ => exact six_all (six_all r1 a ha) b hb
  | 2, _ => exact six_all (six_all r2 a ha) b hb
theorem chkO_all {g a b : Nat} (hg : g < 3) (ha : a < 6) (hb : b < 6) : chkO g a b = true := by
  match g, hg with
  | 0, _ => exact six_all (six_all q0 a ha) b hb
  | 1, _ => exact six_all (six_all q1 a ha) b hb
  | 2, _ => exact six_all (six_all q2 a ha) b hb
/-! the texts -/
def tx (l : List Nat) : Str := ⟨l.toArray⟩
theorem tx_app (a b : List Nat) : tx a ++ tx b = tx (a ++ b) := by
  show (⟨a.toArray ++ b.toArray⟩ : Str) = ⟨(a ++ b).toArray⟩
  rw [List.append_toArray]
theorem tx_list (a : List Nat) : (tx a).cps.toList = a := rfl
theorem tx_join (x a b : Str) : Txt.join x [a, b] = a ++ x ++ b := by
  show Builtin.Str.glued x [a, b] = _
  rw [StrLaws.glued_eq_join]
  rfl
theorem gapX_tx {n : Nat} (h : n < 3) : gapX (n : Int) = tx (gapL n) := by
  match n, h with
  | 0, _ => decide +kernel
  | 1, _ => decide +kernel
  | 2, _ => decide +kernel
theorem mdX_tx {n : Nat} (h : n < 6) : mdX (n : Int) = tx (mdL n) := by
  match n, h with
  | 0, _ => decide +kernel
  | 1, _ => decide +kernel
  | 2, _ => decide +kernel
  | 3, _ => decide +kernel
  | 4, _ => decide +kernel
  | 5, _ => decide +kernel
theorem o_k0 : Str.ofString "\"k0\":" = tx [34, 107, 48, 34, 58] := by decide +kernel
theorem o_k1 : Str.ofString "\"k1\":" = tx [34, 107, 49, 34, 58] := by decide +kernel
theorem o_bl : Str.ofString " \n" = tx [32, 10] := by decide +kernel
theorem text_row {g a b : Nat} (hg : g < 3) (ha : a < 6) (hb : b < 6) : mText true g a b = tx (rowT (gapL g) (mdL a) (mdL b)) := by
  unfold mText
  rw [if_pos rfl, tx_join, gapX_tx hg, mdX_tx ha, mdX_tx hb, o_sq, o_qs, o_co]
  show tx [91] ++ _ ++ (_ ++ (tx [44] ++ _) ++ _) ++ _ ++ tx [93] = _
  simp only [tx_app, rowT, List.append_assoc, List.cons_append, List.nil_append]
theorem text_obj {g a b : Nat} (hg : g < 3) (ha : a < 6) (hb : b < 6) : mText false g a b = tx (objT (gapL g) (mdL a) (mdL b)) := by
  unfold mText
  rw [if_neg (by decide), tx_join, gapX_tx hg, mdX_tx ha, mdX_tx hb, o_cu, o_uc, o_co, o_k0, o_k1]
  show tx [123] ++ _ ++ (_ ++ (tx [44] ++ _) ++ _) ++ _ ++ tx [125] = _
  simp only [tx_app, objT, List.append_assoc, List.cons_append, List.nil_append]
theorem cd_d {n : Nat} (h : n < 6) : (mdC n).d = .tuple [.str (mdK (n : Int)), mdV (n : Int)] := by
  match n, h with
  | 0, _ => rfl
  | 1, _ => rfl
  | 2, _ => rfl
  | 3, _ => rfl
  | 4, _ =>
    show PyData.tuple [.str (Str.ofString "string"), .str (Txt.join (Str.ofString "") (ones [10, 97]))] = .tuple [.str (Str.ofString "string"), .str (Str.ofString "a\n")]
    rw [show Txt.join (Str.ofString "") (ones [10, 97]) = Str.ofString "a\n" by decide +kernel]
  | 5, _ =>
    show PyData.tuple [.str (Str.ofString "string"), .str (Txt.join (Str.ofString "") (ones [93]))] = .tuple [.str (Str.ofString "string"), .str (Str.ofString "]")]
    rw [show Txt.join (Str.ofString "") (ones [93]) = Str.ofString "]" by decide +kernel]
/-- what is to be shown of the plain reading -/
structure Plain (r : Bool) (g f1 f2 : Int) : Prop where
  len : (mText r g f1 f2).length ≤ 60
  whole : rd (mText r g f1 f2) = .ok (mTree r f1 f2) 0
  blanks : rd (mText r g f1 f2 ++ Str.ofString " \n") = .ok (mTree r f1 f2) 0
  more : ∀ i : Int, 0 ≤ i → i < 6 → rd (mText r g f1 f2 ++ Txt.item (Str.ofString "]}0,x\"") i) = .bad
  part : ∀ e : Int, 0 ≤ e → e < ((mText r g f1 f2).length : Int) → rd (Txt.slice (mText r g f1 f2) none (some e)) = .bad
  sh : PySem.SeqAt.shaped (mTree r f1 f2) = true
  eq : PyData.eqv (mTree r f1 f2) (mTree r f1 f2) = true
theorem rd_tx {T : List Nat} (h : ∀ c ∈ T, c < 128) : RRel (rd (tx T)) (rdL T) := rd_L (t := tx T) h
theorem bad_tx {T : List Nat} (h : ∀ c ∈ T, c < 128) (hb : isB (rdL T) = true) : rd (tx T) = .bad := by
  have := rd_tx h
  revert this hb
  cases rdL T <;> intro hb this <;> first | exact this | exact nomatch hb
def shE (r : Bool) (a b : Nat) : Bool := PySem.SeqAt.shaped (mTree r a b) && PyData.eqv (mTree r a b) (mTree r a b)
theorem sh_t : six (fun a => six (shE true a)) = true := by decide +kernel
theorem sh_f : six (fun a => six (shE false a)) = true := by decide +kernel
theorem sh_ok {r : Bool} {a b : Nat} (ha : a < 6) (hb : b < 6) : PySem.SeqAt.shaped (mTree r a b) = true ∧ PyData.eqv (mTree r a b) (mTree r a b) = true := by
  have h : shE r a b = true := by
    cases r with
    | true => exact six_all (six_all sh_t a ha) b hb
    | false => exact six_all (six_all sh_f a ha) b hb
  unfold shE at h
  rw [Bool.and_eq_true] at h
  exact h
theorem plain_of {r : Bool} {g f1 f2 : Int} {T : List Nat} {ok : RL → Bool} (h : chk ok T = true) (ht : mText r g f1 f2 = tx T) (hok : ∀ R, ok R = true → ∀ x, RRel x R → x = .ok (mTree r f1 f2) 0)
    (hs : PySem.SeqAt.shaped (mTree r f1 f2) = true ∧ PyData.eqv (mTree r f1 f2) (mTree r f1 f2) = true) : Plain r g f1 f2 := by
  unfold chk at h
  rw [fork_eq] at h
  simp only [Bool.and_eq_true, List.all_eq_true] at h
  obtain ⟨⟨h1, h2⟩, h3, h4, h5, h6⟩ := h
  have hT : ∀ c ∈ T, c < 128 := fun c hc => Nat.blt_eq.mp (h5 c hc)
  have hl : (tx T).length = T.length := by simp [tx, Str.length]
  refine ⟨?_, ?_, ?_, ?_, ?_, hs.1, hs.2⟩
  · rw [ht, hl]; exact Nat.le_of_ble_eq_true h6
  · rw [ht]; exact hok _ h1 _ (rd_tx hT)
  · rw [ht, o_bl, tx_app]
    refine hok _ h2 _ (rd_tx fun c hc => ?_)
    rcases List.mem_append.mp hc with q | q
    · exact hT c q
    · simp only [List.mem_cons, List.not_mem_nil, or_false] at q
      omega
  · intro i h0 hi
    have : ∃ x, x < 128 ∧ Txt.item (Str.ofString "]}0,x\"") i = tx [x] ∧ x ∈ [93, 125, 48, 44, 120, 34] := by
      have : i = 0 ∨ i = 1 ∨ i = 2 ∨ i = 3 ∨ i = 4 ∨ i = 5 := by omega
      rcases this with rfl | rfl | rfl | rfl | rfl | rfl
      · exact ⟨93, by decide, by decide +kernel, by decide⟩
      · exact ⟨125, by decide, by decide +kernel, by decide⟩
      · exact ⟨48, by decide, by decide +kernel, by decide⟩
      · exact ⟨44, by decide, by decide +kernel, by decide⟩
      · exact ⟨120, by decide, by decide +kernel, by decide⟩
      · exact ⟨34, by decide, by decide +kernel, by decide⟩
    obtain ⟨x, hx, ex, mx⟩ := this
    rw [ht, ex, tx_app]
    refine bad_tx (fun c hc => ?_) (h3 x mx)
    rcases List.mem_append.mp hc with q | q
    · exact hT c q
    · rw [List.mem_singleton.mp q]; exact hx
  · intro e h0 he
    rw [ht] at he ⊢
    rw [hl] at he
    have hs : Txt.slice (tx T) none (some e) = tx (T.take e.toNat) := by
      have := sliceText_to (x := tx T) (j := e) ⟨h0, by rw [tx_list]; omega⟩
      rw [tx_list, List.drop_zero, Int.sub_zero] at this
      exact this
    rw [hs]
    exact bad_tx (fun c hc => hT c (List.mem_of_mem_take hc)) (parts_all h4 _ (by omega))
theorem plain_row {g a b : Nat} (hg : g < 3) (ha : a < 6) (hb : b < 6) : Plain true g a b := by
  refine plain_of (chkR_all hg ha hb) (text_row hg ha hb) (fun R h x hx => ?_) (sh_ok ha hb)
  cases R with
  | row c d =>
    have h : (eqC c (mdC a) && eqC d (mdC b)) = true := h
    rw [Bool.and_eq_true] at h
    rw [eqC_eq h.1, eqC_eq h.2] at hx
    rw [show x = _ from hx, cd_d ha, cd_d hb]
    rfl
  | bad => exact nomatch h
  | other => exact nomatch h
  | obj _ _ _ _ => exact nomatch h
theorem jk0 : Txt.join (Str.ofString "") (ones [48, 107]) = Str.ofString "k0" := by decide +kernel
theorem jk1 : Txt.join (Str.ofString "") (ones [49, 107]) = Str.ofString "k1" := by decide +kernel
theorem plain_obj {g a b : Nat} (hg : g < 3) (ha : a < 6) (hb : b < 6) : Plain false g a b := by
  refine plain_of (chkO_all hg ha hb) (text_obj hg ha hb) (fun R h x hx => ?_) (sh_ok ha hb)
  cases R with
  | obj k1 c k2 d =>
    have h : ((eqN k1 [48, 107] && eqN k2 [49, 107]) && (eqC c (mdC a) && eqC d (mdC b))) = true := h
    simp only [Bool.and_eq_true] at h
    rw [eqN_eq h.1.1, eqN_eq h.1.2, eqC_eq h.2.1, eqC_eq h.2.2] at hx
    rw [show x = _ from hx, cd_d ha, cd_d hb, jk0, jk1]
    rfl
  | bad => exact nomatch h
  | other => exact nomatch h
  | row _ _ => exact nomatch h
theorem plain_all (r : Bool) {g f1 f2 : Int} (hg : 0 ≤ g ∧ g < 3) (h1 : 0 ≤ f1 ∧ f1 < 6) (h2 : 0 ≤ f2 ∧ f2 < 6) : Plain r g f1 f2 := by
  obtain ⟨g, rfl⟩ := Int.eq_ofNat_of_zero_le hg.1
  obtain ⟨a, rfl⟩ := Int.eq_ofNat_of_zero_le h1.1
  obtain ⟨b, rfl⟩ := Int.eq_ofNat_of_zero_le h2.1
  cases r with
  | true => exact plain_row (by omega) (by omega) (by omega)
  | false => exact plain_obj (by omega) (by omega) (by omega)
end
theorem anew_W3 : True := by
  w_top off
  k_with_none
  trivial
section -- W3
/-- after the first row of law: cells is a list of two ints -/
def CellsP (h₀ : Heap) (L : Addr) (m : Str → Option Value) (s : Shared) (f : Flow) (s' : Shared) : Prop :=
  f = .next ∧ ∃ D x0 x1 k0 k1 n h' tk', s' = { s with heap := h', toks := tk' } ∧ Fr h₀ L h' (fun y => if y = Str.ofString "cells" then some (.ref D) else m y) ∧ News h₀ L h' [(D, ({ cls := .type "list", data := .seq #[.int x0 k0, .int x1 k1] n } : Obj))]
section
variable {prog : Program} {w : World} {A : Around} {E : Value → Shared → Prop} {s : Shared} {h₀ : Heap} {L : Addr} {m : Str → Option Value}
theorem seam {x : Sem Flow} {Q : Flow → Shared → Prop} (F : Fr h₀ L s.heap m) (a : wpAny (model prog w) A x (CellsP h₀ L m s) E s)
    (b : ∀ D x0 x1 k0 k1 n h' tk', Fr h₀ L h' (fun y => if y = Str.ofString "cells" then some (.ref D) else m y) → News h₀ L h' [(D, ({ cls := .type "list", data := .seq #[.int x0 k0, .int x1 k1] n } : Obj))] → Q .next { s with heap := h', toks := tk' }) : wpAny (model prog w) A x Q E s :=
  wpAny_mono a (fun f s' h => by obtain ⟨rfl, D, x0, x1, k0, k1, n, h', tk', rfl, F', N'⟩ := h; exact b D x0 x1 k0 k1 n h' tk' F' N') fun _ _ e => e
theorem cellsP_of {D : Addr} {x0 x1 : Int} {k0 k1 : Tok} {n : Nat} {h' : Heap} {tk' : Nat} {news : List (Addr × Obj)} (F : Fr h₀ L h' (fun y => if y = Str.ofString "cells" then some (.ref D) else m y)) (N : News h₀ L h' news)
    (hm : (D, ({ cls := .type "list", data := .seq #[.int x0 k0, .int x1 k1] n } : Obj)) ∈ news) : CellsP h₀ L m s .next { s with heap := h', toks := tk' } :=
  ⟨rfl, D, x0, x1, k0, k1, n, h', tk', rfl, F, fun p hp => by rw [List.mem_singleton.mp hp]; exact N _ hm⟩
end
section
variable {prog : Program} {w : World} {A : Around} {E : Value → Shared → Prop} {s : Shared} {h₀ : Heap} {L : Addr} {m : Str → Option Value} {news : List (Addr × Obj)}
theorem slice_any {value slice : Expr} {l : Addr} {items : Array Value} {zs : List Value} {vl vu : Value} {lo hi : Option Int} {ops : List Value} {Q : Value → Shared → Prop}
    (F : Fr h₀ L s.heap m) (N : News h₀ L s.heap news) (hl : s.heap.IsList l items) (pl : IsPart vl lo) (pu : IsPart vu hi) (e : (slicePick items lo hi none).toList = zs)
    (h : ∀ D h', Fr h₀ L h' m → News h₀ L h' ((D, listOf zs.toArray 0) :: news) → (∀ p ∈ news, p.1 < D) → Q (.ref D) { s with heap := h' })
    (hs : subscripted slice false (.ref l) (.ref s.heap.objs.size) = operate ops (getItem (.ref l) (.ref s.heap.objs.size)))
    (hsz : items.size ≤ sizeLine) :
    wpAny (model prog w) A (subscriptTail value slice (.ref l) (.ref s.heap.objs.size)) Q E { s with heap := s.heap.push { cls := .type "slice", data := .fields #[vl, vu, .none] } } := by
  refine tail_any (Heap.IsList.typeIs (s := { s with heap := s.heap.push { cls := .type "slice", data := .fields #[vl, vu, .none] } }) (hl.push _)) list_getitem_lookup
    (wpAny_getItem_list_slice (hl.push _) (Heap.IsSliceOf.new ..) pl pu IsPart.none (by decide) ?_ hsz) hs
  have N1 := News.push (F.push { cls := .type "slice", data := .fields #[vl, vu, .none] }) (N.grown fun _ _ e => Heap.get?_push_of_some _ e) { cls := .type "list", data := .seq (slicePick items lo hi none) }
  rw [Heap.size_push] at N1
  show Q (.ref (s.heap.push _).objs.size) _
  rw [Heap.size_push]
  refine h _ _ ((F.push _).push _) ?_ fun p hp => Nat.lt_succ_of_lt (Heap.lt_size (N p hp).1)
  rw [← e, Array.toArray_toList]
  exact N1
end
theorem pick2 (x y : Value) (r : List Value) : (slicePick (x :: y :: r).toArray none (some 2) none).toList = [x, y] := by
  have e : sliceBounds none (some 2) none (x :: y :: r).toArray.size = (((0 : Nat) : Int), ((2 : Nat) : Int), 1) := by
    simp only [sliceBounds, Option.getD_none, show (1 : Int) > 0 by decide, if_true, List.size_toArray, List.length_cons]
    simp
    omega
  rw [kmk_pick_nat _ e]
  rfl
theorem two_size {vs : List Value} {ns : List Int} {x y : Value} {a b : Int} (hI : IntsAre vs ns) (hc : ¬ (((63 : Nat) : Int) < ((a :: b :: ns).length : Int))) : (x :: y :: vs).toArray.size ≤ sizeLine := by
  have := hI.length
  rw [sizeLine_eq, List.size_toArray]
  simp only [List.length_cons] at hc ⊢
  omega
end
end
end
end
end
end
end
end
section
local macro_rules | `(tactic| walk_at $s:str) => `(tactic| k_extra $s)
section -- W3
theorem rows_W3_1 : True := by
  k_with_none
  k_with "subscriptTail Name Slice ref ref" => (k_here; k_dflt (refine slice_any (by k_asm) (by k_asm) (by kmk_list) (by kmk_part) (by kmk_part) (by exact pick2 _ _ _) ?_ (by with_unfolding_all rfl) (by exact two_size (by assumption) (by assumption)); k_whole); intro D' h' F' N' l1; (try k_lt l1))
  trivial
theorem n_ok (x : Int) : 0 ≤ 8 + 9 * Int.fmod x (10 ^ Int.toNat 9) ∧ Int.fmod (8 + 9 * Int.fmod x (10 ^ Int.toNat 9)) 9 = 8 := by
  have e : Int.fmod x (10 ^ Int.toNat 9) = x % 1000000000 := by
    rw [show (10 : Int) ^ Int.toNat 9 = 1000000000 from rfl]
    exact Int.fmod_eq_emod_of_nonneg _ (by decide)
  rw [e, Int.fmod_eq_emod_of_nonneg _ (by decide)]
  omega
section
variable {w : World} {p : Program} {loose : List Str} {mean : ExcName → Option Value} {mg mb : Str → Option Value} {D : Addr} {n : Int} {k : Tok} {c : Nat} {dp un dd uu : Nat} {gd : Option (List Code)} {env : Env} {outer : List Env} {A₀ : Around} {base h₀ : Heap} {L : Addr} {m : Str → Option Value} {s : Shared} {Q E : Value → Shared → Prop} {news : List (Addr × Obj)} {f : Addr} {vs : List Value}
/-- the call of _law_made at depth 1 -/
theorem CtM.use1 (C : CtM w p loose mean mg mb f dd uu D (lst1 n k c) vs (Made n)) (B : Below A₀ base outer h₀) (F : Fr h₀ L s.heap m) (X : (kfr w.params).In h₀) (N : News h₀ L s.heap ((D, lst1 n k c) :: news)) (hD : ∀ q ∈ news, q.1 ≠ D) (T : Top p loose mean mg mb h₀) (hf : env.frame = some L) (hke : env.scope.kind = .function) (hd : dp + dd < recursionLimit) (hu : un + uu < cLine)
    (ret : ∀ V A r g f1 f2 k c tl, 0 ≤ g ∧ g < 3 → 0 ≤ f1 ∧ f1 < 6 → 0 ≤ f2 ∧ f2 < 6 → (∀ h : Heap, (∀ q ∈ tl, h.get? q.1 = some q.2) → ∃ as, Reads h (.ref A) (mTree r f1 f2) as) → ∀ h' tk', Fr h₀ L h' m → News h₀ L h' ((V, tupM (.ref A) (.str (mText r g f1 f2) k) c) :: (news ++ tl)) → Q (.ref V) { s with heap := h', toks := tk' }) :
    wpAny (model PySem.Challenge.rw_sz0076_01.prog w) (topE dp un gd env outer) (call (.ref f) vs) Q E s := by
  have N1 : News h₀ L s.heap [(D, lst1 n k c)] := fun q hq => by rw [List.mem_singleton.mp hq]; exact N _ (.head _)
  refine C dp un gd env outer A₀ base h₀ L m s Q E B F X T N1 hf hke hd hu fun v tl h' tk' r x => ?_
  obtain ⟨V, A, k, c, rfl, hV, hr⟩ := r
  have N' := x.led F N hD
  refine ret V A (decide (((n.fdiv 9).fdiv 3).fmod 2 = 0)) ((n.fdiv 9).fmod 3) (((n.fdiv 9).fdiv 6).fmod 6) ((((n.fdiv 9).fdiv 6).fdiv 9).fmod 6) k c tl (mod3 _) (mod6 _) (mod6 _) hr h' tk' (x.fr F N1) fun q hq => ?_
  rcases List.mem_cons.mp hq with e | hq
  · rw [e]; exact N' _ (List.mem_append_left _ hV)
  rcases List.mem_append.mp hq with hq | hq
  · exact N' _ (List.mem_append_right _ hq)
  · exact N' _ (List.mem_append_left _ hq)
end
theorem one_ne {D D' : Addr} {o : Obj} (h : D' ≠ D) : ∀ q ∈ [(D', o)], q.1 ≠ D := fun q hq => by rw [List.mem_singleton.mp hq]; exact h
theorem add_ok {x y : Str} (h : x.length ≤ 60) (hy : y.length ≤ 10) : x.length + y.length ≤ sizeLine := by
  rw [sizeLine_eq]; omega
theorem len_add {x y : Str} (h : x.length ≤ 60) (hy : y.length ≤ 10) : (x ++ y).length ≤ 100 := by
  rw [Str.length_append]; omega
theorem rows_W3_2 : True := by
  k_with "binaryOp Add str str" => (k_here; (with_reducible show wpAny _ _ (binaryOp Operator.Add (Value.str _ _) (Value.str _ _)) _ _ _); (refine add_str ?_ (by exact add_ok (by assumption) (by decide))); intro _ _)
  trivial
theorem rd_no {w : World} : ∀ v tl, ¬ Rd w .bad v tl := fun v tl h => by
  obtain ⟨d, h, _⟩ := h
  cases h
theorem slice_len {x : Str} {i : Int} (h : x.length ≤ 60) : (Txt.slice x none (some i)).length ≤ 100 := Nat.le_trans (Txt.slice_le _ _ _) (by omega)
theorem turnR_of {h₀ : Heap} {L : Addr} {x : Str} {m₀ : Str → Option Value} {news : List (Addr × Obj)} {v : Value} {s : Shared} {h' : Heap} {tk' : Nat} (F : Fr h₀ L h' (fun y => if y = x then some v else m₀ y)) (N : News h₀ L h' news) : TurnR h₀ L x m₀ news v s .next { s with heap := h', toks := tk' } :=
  ⟨rfl, h', tk', rfl, F, N⟩
theorem item_add {x y : Str} {i : Int} (h : x.length ≤ 60) : (x ++ Txt.item y i).length ≤ 100 := by
  have : (Txt.item y i).length ≤ 1 := Nat.le_of_eq rfl
  rw [Str.length_append]; omega
/-! The names that the head would give to its twins (quick copies of the objects that it lays): taken here, so that it lays none. The twins' equations would make the compiled file four times as large. -/
theorem lawx.tw10091854660125246853 : True := trivial
theorem lawx.tw10187188590991645963 : True := trivial
theorem lawx.tw10215806411670422537 : True := trivial
theorem lawx.tw10233504534798178881 : True := trivial
theorem lawx.tw10465398145539794702 : True := trivial
theorem lawx.tw10489569142576531646 : True := trivial
theorem lawx.tw10533214878137926569 : True := trivial
theorem lawx.tw10588770750080234752 : True := trivial
theorem lawx.tw10728100064784301705 : True := trivial
theorem lawx.tw10740538271516627571 : True := trivial
theorem lawx.tw10775735154975776957 : True := trivial
theorem lawx.tw10827023785477515254 : True := trivial
theorem lawx.tw10849307140815986111 : True := trivial
theorem lawx.tw10874655925353947283 : True := trivial
theorem lawx.tw10897247711695331093 : True := trivial
theorem lawx.tw11071221067438670541 : True := trivial
theorem lawx.tw11108765139870089119 : True := trivial
theorem lawx.tw11150624569642804743 : True := trivial
theorem lawx.tw11247952235631882432 : True := trivial
theorem lawx.tw11258925322374094663 : True := trivial
theorem lawx.tw11266213021639815369 : True := trivial
theorem lawx.tw11402005871762610338 : True := trivial
theorem lawx.tw11498813714384970039 : True := trivial
theorem lawx.tw11508369046617057535 : True := trivial
theorem lawx.tw11513400443556228376 : True := trivial
theorem lawx.tw11708299512078218884 : True := trivial
theorem lawx.tw11775807266962513056 : True := trivial
theorem lawx.tw11822892290815579136 : True := trivial
theorem lawx.tw11829721170439662397 : True := trivial
theorem lawx.tw11903646459516791971 : True := trivial
theorem lawx.tw11910523791789421881 : True := trivial
theorem lawx.tw11971965159796641370 : True := trivial
theorem lawx.tw11975279074964650662 : True := trivial
theorem lawx.tw12056068152539657905 : True := trivial
theorem lawx.tw12065466151805293542 : True := trivial
theorem lawx.tw1206626014190229104 : True := trivial
theorem lawx.tw12086456716241338422 : True := trivial
theorem lawx.tw12103019268214026352 : True := trivial
theorem lawx.tw12137049292854998715 : True := trivial
theorem lawx.tw12147318109344516158 : True := trivial
theorem lawx.tw12172704895631622991 : True := trivial
theorem lawx.tw12209241268153602129 : True := trivial
theorem lawx.tw12234332084096583083 : True := trivial
theorem lawx.tw12342776496831586222 : True := trivial
theorem lawx.tw12350929344235560361 : True := trivial
theorem lawx.tw12466823250265542530 : True := trivial
theorem lawx.tw12545493624171784262 : True := trivial
theorem lawx.tw12627841068561575538 : True := trivial
theorem lawx.tw12680383266735890433 : True := trivial
theorem lawx.tw12717405517375074681 : True := trivial
theorem lawx.tw12889959137696733703 : True := trivial
theorem lawx.tw12922048537251013124 : True := trivial
theorem lawx.tw12934956009043739785 : True := trivial
theorem lawx.tw13187989190889981544 : True := trivial
theorem lawx.tw13281126919590065496 : True := trivial
theorem lawx.tw13336845871080257834 : True := trivial
theorem lawx.tw13346802046986598487 : True := trivial
theorem lawx.tw13395891964381079018 : True := trivial
theorem lawx.tw13527904103624651736 : True := trivial
theorem lawx.tw13608167597878667759 : True := trivial
theorem lawx.tw13698634805778796379 : True := trivial
theorem lawx.tw13706308490176151536 : True := trivial
theorem lawx.tw13760671479336753165 : True := trivial
theorem lawx.tw1382294929848941011 : True := trivial
theorem lawx.tw13898173939426379015 : True := trivial
theorem lawx.tw14012757286415242246 : True := trivial
theorem lawx.tw14094158278389289643 : True := trivial
theorem lawx.tw14355721682441971279 : True := trivial
theorem lawx.tw14452773735276584378 : True := trivial
theorem lawx.tw1453345226462572222 : True := trivial
theorem lawx.tw14594158403221498652 : True := trivial
theorem lawx.tw14612141977249276342 : True := trivial
theorem lawx.tw14642359619467879151 : True := trivial
theorem lawx.tw14654590372050461971 : True := trivial
theorem lawx.tw14756213678625675052 : True := trivial
theorem lawx.tw14780208798447773401 : True := trivial
theorem lawx.tw14894849738639281003 : True := trivial
theorem lawx.tw14918042842659329677 : True := trivial
theorem lawx.tw14932814637846074062 : True := trivial
theorem lawx.tw14957397233124642539 : True := trivial
theorem lawx.tw15018488437098415163 : True := trivial
theorem lawx.tw15222372348497582202 : True := trivial
theorem lawx.tw15288166281424587444 : True := trivial
theorem lawx.tw15492980423280467442 : True := trivial
theorem lawx.tw15517066058075508178 : True := trivial
theorem lawx.tw15620565335223871791 : True := trivial
theorem lawx.tw15737150376640773149 : True := trivial
theorem lawx.tw15761336932057386152 : True := trivial
theorem lawx.tw15819146022739621063 : True := trivial
theorem lawx.tw16050702935204245000 : True := trivial
theorem lawx.tw16086502051906248985 : True := trivial
theorem lawx.tw16092521682804765017 : True := trivial
theorem lawx.tw16146444460133075364 : True := trivial
theorem lawx.tw16213271924513286491 : True := trivial
theorem lawx.tw16366361382827565485 : True := trivial
theorem lawx.tw1645011944662163445 : True := trivial
theorem lawx.tw16455107649682883927 : True := trivial
theorem lawx.tw16482968702249537642 : True := trivial
theorem lawx.tw16485574809438506652 : True := trivial
theorem lawx.tw16502935232047143271 : True := trivial
theorem lawx.tw16572761993221427042 : True := trivial
theorem lawx.tw16594914824520290927 : True := trivial
theorem lawx.tw16659991342469535046 : True := trivial
theorem lawx.tw1681421633896518304 : True := trivial
theorem lawx.tw16972459181822130953 : True := trivial
theorem lawx.tw17033308313280947153 : True := trivial
theorem lawx.tw17079438722205452847 : True := trivial
theorem lawx.tw17098571096711595299 : True := trivial
theorem lawx.tw17205537796554134181 : True := trivial
theorem lawx.tw17236490352920103069 : True := trivial
theorem lawx.tw1737105126621028083 : True := trivial
theorem lawx.tw17387328023973194672 : True := trivial
theorem lawx.tw17469893763091063178 : True := trivial
theorem lawx.tw17547610626462545516 : True := trivial
theorem lawx.tw17562291381655651839 : True := trivial
theorem lawx.tw17572835989006565280 : True := trivial
theorem lawx.tw17746485676304925981 : True := trivial
theorem lawx.tw17949003173949837820 : True := trivial
theorem lawx.tw17975515603237862423 : True := trivial
theorem lawx.tw1797612941448434082 : True := trivial
theorem lawx.tw17999099234913315863 : True := trivial
theorem lawx.tw18055551329419779646 : True := trivial
theorem lawx.tw18105943676913346752 : True := trivial
theorem lawx.tw18155009942024493045 : True := trivial
theorem lawx.tw18352027769550485681 : True := trivial
theorem lawx.tw18395541525195620972 : True := trivial
theorem lawx.tw18396650267925806684 : True := trivial
theorem lawx.tw1877019795951092248 : True := trivial
theorem lawx.tw191740131074937699 : True := trivial
theorem lawx.tw1937417789787165499 : True := trivial
theorem lawx.tw2065433866096398134 : True := trivial
theorem lawx.tw2141901155384942421 : True := trivial
theorem lawx.tw2340884855224396996 : True := trivial
theorem lawx.tw235342211868957644 : True := trivial
theorem lawx.tw2376283710542865304 : True := trivial
theorem lawx.tw2402379919425800084 : True := trivial
theorem lawx.tw2424954795820871639 : True := trivial
theorem lawx.tw25966274751049694 : True := trivial
theorem lawx.tw2627788266183061390 : True := trivial
theorem lawx.tw2681779192241441938 : True := trivial
theorem lawx.tw2864399653035583036 : True := trivial
theorem lawx.tw2897437391450345033 : True := trivial
theorem lawx.tw2955010476343902161 : True := trivial
theorem lawx.tw2961222335232845028 : True := trivial
theorem lawx.tw3053614699604822112 : True := trivial
theorem lawx.tw3107844666055276920 : True := trivial
theorem lawx.tw3137435577736890943 : True := trivial
theorem lawx.tw3172115531595550943 : True := trivial
theorem lawx.tw3229078853013129353 : True := trivial
theorem lawx.tw3278229342223211516 : True := trivial
theorem lawx.tw3293796875418891722 : True := trivial
theorem lawx.tw3375164187419023632 : True := trivial
theorem lawx.tw3380451218277424061 : True := trivial
theorem lawx.tw356716468164091680 : True := trivial
theorem lawx.tw3623341428308306968 : True := trivial
theorem lawx.tw3735200323283336109 : True := trivial
theorem lawx.tw3737890115687331167 : True := trivial
theorem lawx.tw3914182629397939742 : True := trivial
theorem lawx.tw3950741424926963857 : True := trivial
theorem lawx.tw3980701153783524821 : True := trivial
theorem lawx.tw4030227997155030950 : True := trivial
theorem lawx.tw4191325773598679058 : True := trivial
theorem lawx.tw4198190847340018931 : True := trivial
theorem lawx.tw4299305185318941610 : True := trivial
theorem lawx.tw4453011217546785785 : True := trivial
theorem lawx.tw4463909820869705903 : True := trivial
theorem lawx.tw4469591513330931692 : True := trivial
theorem lawx.tw4586556870198201813 : True := trivial
theorem lawx.tw4623881653909579155 : True := trivial
theorem lawx.tw4678663871307785596 : True := trivial
theorem lawx.tw4728616634080480321 : True := trivial
theorem lawx.tw475692676311609105 : True := trivial
theorem lawx.tw4763481224455524528 : True := trivial
theorem lawx.tw4865322682264453185 : True := trivial
theorem lawx.tw4878172877741430219 : True := trivial
theorem lawx.tw4911031482053033587 : True := trivial
theorem lawx.tw5024357272837020749 : True := trivial
theorem lawx.tw51157980446683880 : True := trivial
theorem lawx.tw5197668849227302808 : True := trivial
theorem lawx.tw5236507429128979925 : True := trivial
theorem lawx.tw5239594890767250222 : True := trivial
theorem lawx.tw5299576943707065026 : True := trivial
theorem lawx.tw5357370476002483029 : True := trivial
theorem lawx.tw5400993684706398263 : True := trivial
theorem lawx.tw5410288388913553028 : True := trivial
theorem lawx.tw5431541338203454689 : True := trivial
theorem lawx.tw5464314864417786589 : True := trivial
theorem lawx.tw5497031324202166888 : True := trivial
theorem lawx.tw5550586890827136224 : True := trivial
theorem lawx.tw5550768575473314895 : True := trivial
theorem lawx.tw567930802271773968 : True := trivial
theorem lawx.tw5740576291267487314 : True := trivial
theorem lawx.tw5842031738155130819 : True := trivial
theorem lawx.tw5884554475545060579 : True := trivial
theorem lawx.tw5987562936540242920 : True := trivial
theorem lawx.tw6006334389095976094 : True := trivial
theorem lawx.tw6107390858648826888 : True := trivial
theorem lawx.tw6120245739072120410 : True := trivial
theorem lawx.tw6175885483885361381 : True := trivial
theorem lawx.tw6229325060874113742 : True := trivial
theorem lawx.tw6256583207244517183 : True := trivial
theorem lawx.tw6418128060162482272 : True := trivial
theorem lawx.tw6469534832594592966 : True := trivial
theorem lawx.tw6541951760006588162 : True := trivial
theorem lawx.tw6672970578951240457 : True := trivial
theorem lawx.tw6722886299865116243 : True := trivial
theorem lawx.tw6812674787295001779 : True := trivial
theorem lawx.tw6834282607121423491 : True := trivial
theorem lawx.tw6865143507342469489 : True := trivial
theorem lawx.tw6961323149736799575 : True := trivial
theorem lawx.tw7004842848546200804 : True := trivial
theorem lawx.tw7069316658076103762 : True := trivial
theorem lawx.tw7135061879464705844 : True := trivial
theorem lawx.tw7212997296451959220 : True := trivial
theorem lawx.tw7218168837991645592 : True := trivial
theorem lawx.tw7247901168749046145 : True := trivial
theorem lawx.tw7270042667870091736 : True := trivial
theorem lawx.tw7426948977058484875 : True := trivial
theorem lawx.tw7434132692392023328 : True := trivial
theorem lawx.tw7474767875570479133 : True := trivial
theorem lawx.tw7647345636125460655 : True := trivial
theorem lawx.tw7664348940014378206 : True := trivial
theorem lawx.tw7733765462321880548 : True := trivial
theorem lawx.tw7762580845448675633 : True := trivial
theorem lawx.tw7900680103980908338 : True := trivial
theorem lawx.tw791685432938640207 : True := trivial
theorem lawx.tw7969851584430400520 : True := trivial
theorem lawx.tw7977681236403726394 : True := trivial
theorem lawx.tw8038113951154446748 : True := trivial
theorem lawx.tw8073562134564379865 : True := trivial
theorem lawx.tw8116179643837613688 : True := trivial
theorem lawx.tw8222240653904121117 : True := trivial
theorem lawx.tw8240376368160265625 : True := trivial
theorem lawx.tw8527568322913990930 : True := trivial
theorem lawx.tw8563845990467778963 : True := trivial
theorem lawx.tw8567589881495300742 : True := trivial
theorem lawx.tw866567564449500506 : True := trivial
theorem lawx.tw8776333635815483555 : True := trivial
theorem lawx.tw890256968217692577 : True := trivial
theorem lawx.tw8993671726408768584 : True := trivial
theorem lawx.tw9025434258898261660 : True := trivial
theorem lawx.tw9026572724496745841 : True := trivial
theorem lawx.tw9101944926975781914 : True := trivial
theorem lawx.tw9112216783991970315 : True := trivial
theorem lawx.tw9233428631068928969 : True := trivial
theorem lawx.tw9249403353365007521 : True := trivial
theorem lawx.tw9269233074742354836 : True := trivial
theorem lawx.tw9417277052356451514 : True := trivial
theorem lawx.tw945553429722954631 : True := trivial
theorem lawx.tw9483352839657073844 : True := trivial
theorem lawx.tw971803996724049480 : True := trivial
set_option Elab.async true in
set_option maxHeartbeats 8000000 in
theorem lawx : PySem.Challenge.rw_sz0076_01.Holds := by
  w_on
  o_law
  o_head (kHook kfr kfAt (fun P => kf_at P))
  case hw => w_witness2
  k_go0
  repeat' (first | ((fail_if_success (with_reducible show wpAny _ _ (exec (Stmt.Assign _ _ _) _) _ _ _)); (first | (k_unfold; (try dsimp only)) | (k_end; wrow_close) | walk1 | (dsimp only; walk1) | (leave1; try dsimp only))))
  refine seam (by assumption) ?seamA ?seamB
  case seamA =>
    rename IntsAre _ _ => hI
    rcases hI with _ | ⟨a, ta, _ | ⟨b, tb, hI⟩⟩
    · skip
      repeat' (first | (fail_if_success (with_reducible show wpAny _ _ (subscriptTail (Expr.List _ _) (Expr.Slice _ _ _ _) _ _) _ _ _)); ((first | (k_unfold; (try dsimp only)) | (k_end; wrow_close) | walk1 | (dsimp only; walk1) | (leave1; try dsimp only))))
      refine' slice_any (zs := [Value.int 5321 _, Value.int 3 _]) ?xF ?xN ?xl ?xp ?xq ?xe ?_ ?xs ?xz
      case xF => k_asm
      case xN => k_asm
      case xl => kmk_list
      case xp => kmk_part
      case xq => kmk_part
      case xs => with_unfolding_all rfl
      case xz => exact Nat.le_of_ble_eq_true rfl
      case xe => with_unfolding_all exact rfl
      k_whole
      intro D8 h8 F8 N8 l8
      k_lt l8
      repeat' (first | (fail_if_success (with_reducible show CellsP _ _ _ _ _ _)); ((first | (k_unfold; (try dsimp only)) | (k_end; wrow_close) | walk1 | (dsimp only; walk1) | (leave1; try dsimp only))))
      exact cellsP_of (by assumption) (by assumption) (by k_mem)
    · skip
      repeat' (first | (fail_if_success (with_reducible show wpAny _ _ (subscriptTail (Expr.List _ _) (Expr.Slice _ _ _ _) _ _) _ _ _)); ((first | (k_unfold; (try dsimp only)) | (k_end; wrow_close) | walk1 | (dsimp only; walk1) | (leave1; try dsimp only))))
      refine' slice_any (zs := [Value.int 3 _]) ?xF ?xN ?xl ?xp ?xq ?xe ?_ ?xs ?xz
      case xF => k_asm
      case xN => k_asm
      case xl => kmk_list
      case xp => kmk_part
      case xq => kmk_part
      case xs => with_unfolding_all rfl
      case xz => exact Nat.le_of_ble_eq_true rfl
      case xe => with_unfolding_all exact rfl
      k_whole
      intro D8 h8 F8 N8 l8
      k_lt l8
      repeat' (first | (fail_if_success (with_reducible show CellsP _ _ _ _ _ _)); ((first | (k_unfold; (try dsimp only)) | (k_end; wrow_close) | walk1 | (dsimp only; walk1) | (leave1; try dsimp only))))
      exact cellsP_of (by assumption) (by assumption) (by k_mem)
    · skip
      repeat' (first | (fail_if_success (with_reducible show wpAny _ _ (subscriptTail (Expr.List _ _) (Expr.Slice _ _ _ _) _ _) _ _ _)); ((first | (k_unfold; (try dsimp only)) | (k_end; wrow_close) | walk1 | (dsimp only; walk1) | (leave1; try dsimp only))))
      refine' slice_any (zs := []) ?yF ?yN ?yl ?yp ?yq ?ye ?_ ?ys ?yz
      case yF => k_asm
      case yN => k_asm
      case yl => kmk_list
      case yp => kmk_part
      case yq => kmk_part
      case ys => with_unfolding_all rfl
      case yz => exact Nat.le_of_ble_eq_true rfl
      case ye => with_unfolding_all exact rfl
      k_whole
      intro Dy hy Fy Ny ly
      k_lt ly
      repeat' (first | (fail_if_success (with_reducible show CellsP _ _ _ _ _ _)); ((first | (k_unfold; (try dsimp only)) | (k_end; wrow_close) | walk1 | (dsimp only; walk1) | (leave1; try dsimp only))))
      exact cellsP_of (by assumption) (by assumption) (by k_mem)
  case seamB =>
    intro D x0 x1 k0 k1 n h8 tk8 F8 N8
    repeat' (first | (fail_if_success (with_reducible show wpAny _ _ (call (Value.ref 258) _) _ _ _)); ((first | (k_unfold; (try dsimp only)) | (k_end; wrow_close) | walk1 | (dsimp only; walk1) | (leave1; try dsimp only))))
    refine' CtM.use1 (made1 _ _ _ _ _ (n_ok _).1 (n_ok _).2) ?uB ?uF ?uX ?uN ?uD ?uT ?uf ?uk ?ud ?uu ?_
    case uB => assumption
    case uF => assumption
    case uX => assumption
    case uN => assumption
    case uD => exact one_ne (by k_ne)
    case uT => assumption
    case uf => exact rfl
    case uk => exact rfl
    case ud => decide
    case uu => decide
    k_whole
    intro V A r g f1 f2 kt ct tl hg hf1 hf2 hrd h7 tk7 F7 N7
    simp only [List.cons_append, List.nil_append] at N7
    repeat' (first | (fail_if_success (with_reducible show wpAny _ _ (call (Value.ref 253) _) _ _ _)); ((first | (k_unfold; (try dsimp only)) | (k_end; wrow_close) | walk1 | (dsimp only; walk1) | (leave1; try dsimp only))))
    have P : Plain r g f1 f2 := plain_all r hg hf1 hf2
    have hl60 := P.len
    refine' Ct.use (read_c _ _ (Nat.le_trans P.len (by decide)) _ P.whole (fun z => nomatch z)) ?vvB ?vvF ?vvX ?vvN ?vvT ?vvk ?vvd ?vvu ?_ ?vvE
    case vvE => exact fun z => nomatch z
    case vvB => assumption
    case vvF => assumption
    case vvX => assumption
    case vvN => assumption
    case vvT => assumption
    case vvk => exact rfl
    case vvd => decide
    case vvu => decide
    k_whole
    intro vv tlv hv tkv hrv Fv Nv lv
    obtain ⟨dv, hdv, hrv⟩ := hrv
    cases hdv
    obtain ⟨av, qv⟩ := hrv hv (Frag.In.keeps (by assumption) Fv.keep) (fun q hq => (Nv q (List.mem_append_left _ hq)).1)
    obtain ⟨bv, pv⟩ := hrd hv (fun q hq => (Nv q (List.mem_append_right _ (.tail _ (.tail _ hq)))).1)
    have Mv := fun q hq => Nv q (List.mem_append_right _ hq)
    clear Nv lv hrv
    change News _ _ _ _ at Mv
    repeat' (first | (fail_if_success (with_reducible show wpAny _ _ (compareOp _ _ _) _ _ _)); ((first | (k_unfold; (try dsimp only)) | (k_end; wrow_close) | walk1 | (dsimp only; walk1) | (leave1; try dsimp only))))
    refine ne_dataH qv pv P.sh P.sh (by ktr_units) ?_
    rw [P.eq]
    clear qv pv
    repeat' (first | (fail_if_success (with_reducible show wpAny _ _ (call (Value.ref 253) _) _ _ _)); ((first | (k_unfold; (try dsimp only)) | (k_end; wrow_close) | walk1 | (dsimp only; walk1) | (leave1; try dsimp only))))
    refine' Ct.use (read_c _ _ (len_add P.len (by decide)) _ P.blanks (fun z => nomatch z)) ?vwB ?vwF ?vwX ?vwN ?vwT ?vwk ?vwd ?vwu ?_ ?vwE
    case vwE => exact fun z => nomatch z
    case vwB => assumption
    case vwF => assumption
    case vwX => assumption
    case vwN => assumption
    case vwT => assumption
    case vwk => exact rfl
    case vwd => decide
    case vwu => decide
    k_whole
    intro vw tlw hw tkw hrw Fw Nw lw
    obtain ⟨dw, hdw, hrw⟩ := hrw
    cases hdw
    obtain ⟨aw, qw⟩ := hrw hw (Frag.In.keeps (by assumption) Fw.keep) (fun q hq => (Nw q (List.mem_append_left _ hq)).1)
    obtain ⟨bw, pw⟩ := hrd hw (fun q hq => (Nw q (List.mem_append_right _ (.tail _ (.tail _ hq)))).1)
    have Mw := fun q hq => Nw q (List.mem_append_right _ hq)
    clear Nw lw hrw
    change News _ _ _ _ at Mw
    repeat' (first | (fail_if_success (with_reducible show wpAny _ _ (compareOp _ _ _) _ _ _)); ((first | (k_unfold; (try dsimp only)) | (k_end; wrow_close) | walk1 | (dsimp only; walk1) | (leave1; try dsimp only))))
    refine ne_dataH qw pw P.sh P.sh (by ktr_units) ?_
    rw [P.eq]
    clear qw pw
    repeat' (first | (fail_if_success (with_reducible show wpAny _ _ (call (Value.ref 265) _) _ _ _)); ((first | (k_unfold; (try dsimp only)) | (k_end; wrow_close) | walk1 | (dsimp only; walk1) | (leave1; try dsimp only))))
    refine' refused_of _ _ ((read_c _ _ (item_add hl60) _ (P.more _ (mod6 _).1 (mod6 _).2) (fun z => nomatch z)).mono (fun _ _ h => h) (fun _ => trivial)) rd_no _ _ _ _ _ _ _ _ _ _ _ _ _ _ _ _ ?xB ?xF ?xX ?xN ?xT ?xb ?xt ?xk ?xd ?xu ?_
    case xB => assumption
    case xF => assumption
    case xX => assumption
    case xN => assumption
    case xT => assumption
    case xb => assumption
    case xt => assumption
    case xk => exact rfl
    case xd => decide
    case xu => decide
    k_whole
    intro hx tkx Fx Nx
    repeat' (first | (fail_if_success (with_reducible show wpAny _ _ (exec (Stmt.For _ _ _ _ _) _) _ _ _)); ((first | (k_unfold; (try dsimp only)) | (k_end; wrow_close) | walk1 | (dsimp only; walk1) | (leave1; try dsimp only))))
    refine for_F (by assumption) rfl rfl ?_ (by intro _; rfl) (by passes_own)
    repeat' (first | (fail_if_success (with_reducible show wpAny _ _ (call (Value.type "range") _) _ _ _)); ((first | (k_unfold; (try dsimp only)) | (k_end; wrow_close) | walk1 | (dsimp only; walk1) | (leave1; try dsimp only))))
    refine' range_loop (n := (mText r g f1 f2).length) ?lh ?ln ?lF ?lN ?lt ?ld
    case lh => exact rfl
    case ln => exact Nat.le_trans P.len (by decide)
    case lF => assumption
    case lN => assumption
    case ld =>
      intro hz tkz mz Fz Nz
      repeat' (first | (k_unfold; (try dsimp only)) | (k_end; wrow_close) | walk1 | (dsimp only; walk1) | (leave1; try dsimp only))
    case lt =>
      intro i ti I oI hy tky hi Fy Ny
      repeat' (first | (fail_if_success (with_reducible show wpAny _ _ (call (Value.ref 265) _) _ _ _)); ((first | (k_unfold; (try dsimp only)) | (k_end; wrow_close) | walk1 | (dsimp only; walk1) | (leave1; try dsimp only))))
      refine' refused_of _ _ ((read_c _ _ (slice_len hl60) _ (P.part _ (Int.natCast_nonneg _) (by exact_mod_cast hi)) (fun z => nomatch z)).mono (fun _ _ h => h) (fun _ => trivial)) rd_no _ _ _ _ _ _ _ _ _ _ _ _ _ _ _ _ ?zB ?zF ?zX ?zN ?zT ?zb ?zt ?zk ?zd ?zu ?_
      case zB => assumption
      case zF => assumption
      case zX => assumption
      case zN => assumption
      case zT => assumption
      case zb => assumption
      case zt => assumption
      case zk => exact rfl
      case zd => decide
      case zu => decide
      k_whole
      intro hu tku Fu Nu
      repeat' (first | (fail_if_success (with_reducible show TurnR _ _ _ _ _ _ _ _ _)); ((first | (k_unfold; (try dsimp only)) | (k_end; wrow_close) | walk1 | (dsimp only; walk1) | (leave1; try dsimp only))))
      exact turnR_of (by assumption) (by assumption)
end
end
end Mine
theorem PySem.Challenge.cw_sz0076_01_holds : PySem.Challenge.rw_sz0076_01.Holds :=
  Mine.lawx
