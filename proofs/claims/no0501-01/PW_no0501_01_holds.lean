import PyProof.Rows.All
import Wide.All
import OpenK.AllK
import Wide.FinOn
import PySem.Challenge.RW_no0501_01
open PySem PySem.W PyProof.Rows
set_option Elab.async false
set_option maxRecDepth 100000
set_option maxHeartbeats 8000000
set_option linter.unusedVariables false
set_option linter.unusedSimpArgs false
set_option rowWalk.seconds 0
section
local macro_rules | `(tactic| walk_at $s:str) => `(tactic| k_extra $s)
namespace Mine
/- the top's run, checked by the kernel at once (open_top's twins alone are 16 MB of the compiled file) -/
namespace hd
noncomputable def heap_39 : Params → Frag := fun P => (fun {s0 s1 s2 s3 s8 s9 s21 : Stmt} {n24 g24 : Str} {p24 : Arguments} {b24 : List Stmt} {d24 : List PySem.Expr} {r24 : Option PySem.Expr} {t24 : List TypeParam} {c24 : PySem.Scope} {u24 : Option PySem.Scope} {q24 : Pos} {n31 g31 : Str} {p31 : Arguments} {b31 : List Stmt} {d31 : List PySem.Expr} {r31 : Option PySem.Expr} {t31 : List TypeParam} {c31 : PySem.Scope} {u31 : Option PySem.Scope} {q31 : Pos} {n38 g38 : Str} {p38 : Arguments} {b38 : List Stmt} {d38 : List PySem.Expr} {r38 : Option PySem.Expr} {t38 : List TypeParam} {c38 : PySem.Scope} {u38 : Option PySem.Scope} {q38 : Pos} {n45 g45 : Str} {p45 : Arguments} {b45 : List Stmt} {d45 : List PySem.Expr} {r45 : Option PySem.Expr} {t45 : List TypeParam} {c45 : PySem.Scope} {u45 : Option PySem.Scope} {q45 : Pos} {n52 g52 : Str} {p52 : Arguments} {b52 : List Stmt} {d52 : List PySem.Expr} {r52 : Option PySem.Expr} {t52 : List TypeParam} {c52 : PySem.Scope} {u52 : Option PySem.Scope} {q52 : Pos} {n59 g59 : Str} {p59 : Arguments} {b59 : List Stmt} {d59 : List PySem.Expr} {r59 : Option PySem.Expr} {t59 : List TypeParam} {c59 : PySem.Scope} {u59 : Option PySem.Scope} {q59 : Pos} {n66 g66 : Str} {p66 : Arguments} {b66 : List Stmt} {d66 : List PySem.Expr} {r66 : Option PySem.Expr} {t66 : List TypeParam} {c66 : PySem.Scope} {u66 : Option PySem.Scope} {q66 : Pos} {n73 g73 : Str} {p73 : Arguments} {b73 : List Stmt} {d73 : List PySem.Expr} {r73 : Option PySem.Expr} {t73 : List TypeParam} {c73 : PySem.Scope} {u73 : Option PySem.Scope} {q73 : Pos} {n80 g80 : Str} {p80 : Arguments} {b80 : List Stmt} {d80 : List PySem.Expr} {r80 : Option PySem.Expr} {t80 : List TypeParam} {c80 : PySem.Scope} {u80 : Option PySem.Scope} {q80 : Pos} {n87 g87 : Str} {p87 : Arguments} {b87 : List Stmt} {d87 : List PySem.Expr} {r87 : Option PySem.Expr} {t87 : List TypeParam} {c87 : PySem.Scope} {u87 : Option PySem.Scope} {q87 : Pos} {n94 g94 : Str} {p94 : Arguments} {b94 : List Stmt} {d94 : List PySem.Expr} {r94 : Option PySem.Expr} {t94 : List TypeParam} {c94 : PySem.Scope} {u94 : Option PySem.Scope} {q94 : Pos} {n101 g101 : Str} {p101 : Arguments} {b101 : List Stmt} {d101 : List PySem.Expr} {r101 : Option PySem.Expr} {t101 : List TypeParam} {c101 : PySem.Scope} {u101 : Option PySem.Scope} {q101 : Pos} {n108 g108 : Str} {p108 : Arguments} {b108 : List Stmt} {d108 : List PySem.Expr} {r108 : Option PySem.Expr} {t108 : List TypeParam} {c108 : PySem.Scope} {u108 : Option PySem.Scope} {q108 : Pos} {n115 g115 : Str} {p115 : Arguments} {b115 : List Stmt} {d115 : List PySem.Expr} {r115 : Option PySem.Expr} {t115 : List TypeParam} {c115 : PySem.Scope} {u115 : Option PySem.Scope} {q115 : Pos} {n122 g122 : Str} {p122 : Arguments} {b122 : List Stmt} {d122 : List PySem.Expr} {r122 : Option PySem.Expr} {t122 : List TypeParam} {c122 : PySem.Scope} {u122 : Option PySem.Scope} {q122 : Pos} {n129 g129 : Str} {p129 : Arguments} {b129 : List Stmt} {d129 : List PySem.Expr} {r129 : Option PySem.Expr} {t129 : List TypeParam} {c129 : PySem.Scope} {u129 : Option PySem.Scope} {q129 : Pos} {n136 g136 : Str} {p136 : Arguments} {b136 : List Stmt} {d136 : List PySem.Expr} {r136 : Option PySem.Expr} {t136 : List TypeParam} {c136 : PySem.Scope} {u136 : Option PySem.Scope} {q136 : Pos} {n143 g143 : Str} {p143 : Arguments} {b143 : List Stmt} {d143 : List PySem.Expr} {r143 : Option PySem.Expr} {t143 : List TypeParam} {c143 : PySem.Scope} {u143 : Option PySem.Scope} {q143 : Pos} {n150 g150 : Str} {p150 : Arguments} {b150 : List Stmt} {d150 : List PySem.Expr} {r150 : Option PySem.Expr} {t150 : List TypeParam} {c150 : PySem.Scope} {u150 : Option PySem.Scope} {q150 : Pos} {n157 g157 : Str} {p157 : Arguments} {b157 : List Stmt} {d157 : List PySem.Expr} {r157 : Option PySem.Expr} {t157 : List TypeParam} {c157 : PySem.Scope} {u157 : Option PySem.Scope} {q157 : Pos} {n164 g164 : Str} {p164 : Arguments} {b164 : List Stmt} {d164 : List PySem.Expr} {r164 : Option PySem.Expr} {t164 : List TypeParam} {c164 : PySem.Scope} {u164 : Option PySem.Scope} {q164 : Pos} {n169 g169 : Str} {p169 : Arguments} {b169 : List Stmt} {d169 : List PySem.Expr} {r169 : Option PySem.Expr} {t169 : List TypeParam} {c169 : PySem.Scope} {u169 : Option PySem.Scope} {q169 : Pos} (_ : PySem.Challenge.pw_no0501_01.main.body = [s0, s1, s2, s3, .FunctionDef n24 p24 b24 d24 r24 t24 c24 u24 g24 q24, .FunctionDef n31 p31 b31 d31 r31 t31 c31 u31 g31 q31, .FunctionDef n38 p38 b38 d38 r38 t38 c38 u38 g38 q38, .FunctionDef n45 p45 b45 d45 r45 t45 c45 u45 g45 q45, s8, s9, .FunctionDef n52 p52 b52 d52 r52 t52 c52 u52 g52 q52, .FunctionDef n59 p59 b59 d59 r59 t59 c59 u59 g59 q59, .FunctionDef n66 p66 b66 d66 r66 t66 c66 u66 g66 q66, .FunctionDef n73 p73 b73 d73 r73 t73 c73 u73 g73 q73, .FunctionDef n80 p80 b80 d80 r80 t80 c80 u80 g80 q80, .FunctionDef n87 p87 b87 d87 r87 t87 c87 u87 g87 q87, .FunctionDef n94 p94 b94 d94 r94 t94 c94 u94 g94 q94, .FunctionDef n101 p101 b101 d101 r101 t101 c101 u101 g101 q101, .FunctionDef n108 p108 b108 d108 r108 t108 c108 u108 g108 q108, .FunctionDef n115 p115 b115 d115 r115 t115 c115 u115 g115 q115, .FunctionDef n122 p122 b122 d122 r122 t122 c122 u122 g122 q122, s21, .FunctionDef n129 p129 b129 d129 r129 t129 c129 u129 g129 q129, .FunctionDef n136 p136 b136 d136 r136 t136 c136 u136 g136 q136, .FunctionDef n143 p143 b143 d143 r143 t143 c143 u143 g143 q143, .FunctionDef n150 p150 b150 d150 r150 t150 c150 u150 g150 q150, .FunctionDef n157 p157 b157 d157 r157 t157 c157 u157 g157 q157, .FunctionDef n164 p164 b164 d164 r164 t164 c164 u164 g164 q164, .FunctionDef n169 p169 b169 d169 r169 t169 c169 u169 g169 q169]) => (
  (nat_lit 2, { cls := Value.none, data := Data.dict #[] }) ::
    (nat_lit 3, { cls := Value.type "dict", data := Data.dict #[{ hash := PyData.keyHash P (Str.ofString "__name__"), key := Value.str (Str.ofString "__name__") 165, val := Value.str (Str.ofString "law_no0501_01") 350 }, { hash := PyData.keyHash P (Str.ofString "__doc__"), key := Value.str (Str.ofString "__doc__") 166, val := Value.none }, { hash := PyData.keyHash P (Str.ofString "__package__"), key := Value.str (Str.ofString "__package__") 167, val := Value.none }, { hash := PyData.keyHash P (Str.ofString "__loader__"), key := Value.str (Str.ofString "__loader__") 168, val := Value.builtin "__main__.__loader__#opaque" }, { hash := PyData.keyHash P (Str.ofString "__spec__"), key := Value.str (Str.ofString "__spec__") 169, val := Value.none }, { hash := PyData.keyHash P (Str.ofString "__annotations__"), key := Value.str (Str.ofString "__annotations__") 170, val := Value.ref 6 }, { hash := PyData.keyHash P (Str.ofString "__builtins__"), key := Value.str (Str.ofString "__builtins__") 171, val := Value.ref 4 }, { hash := PyData.keyHash P (Str.ofString "__file__"), key := Value.str (Str.ofString "__file__") 173, val := Value.str (Str.ofString "/claim/cut.py") 172 }, { hash := PyData.keyHash P (Str.ofString "__cached__"), key := Value.str (Str.ofString "__cached__") 174, val := Value.none }, { hash := PyData.keyHash P (Str.ofString "NAN"), key := Value.str (Str.ofString "NAN") 191, val := Value.ref 15 }, { hash := PyData.keyHash P (Str.ofString "INF"), key := Value.str (Str.ofString "INF") 194, val := Value.ref 16 }, { hash := PyData.keyHash P (Str.ofString "ZERO"), key := Value.str (Str.ofString "ZERO") 197, val := Value.ref 17 }, { hash := PyData.keyHash P (Str.ofString "gcd"), key := Value.str (Str.ofString "gcd") 205, val := Value.ref 24 }, { hash := PyData.keyHash P (Str.ofString "make"), key := Value.str (Str.ofString "make") 214, val := Value.ref 31 }, { hash := PyData.keyHash P (Str.ofString "neg"), key := Value.str (Str.ofString "neg") 221, val := Value.ref 38 }, { hash := PyData.keyHash P (Str.ofString "nearest_whole"), key := Value.str (Str.ofString "nearest_whole") 231, val := Value.ref 45 }, { hash := PyData.keyHash P (Str.ofString "MOST_EXPONENT"), key := Value.str (Str.ofString "MOST_EXPONENT") 235, val := Value.int 4096 234 }, { hash := PyData.keyHash P (Str.ofString "whole_text"), key := Value.str (Str.ofString "whole_text") 245, val := Value.ref 52 }, { hash := PyData.keyHash P (Str.ofString "special_text"), key := Value.str (Str.ofString "special_text") 252, val := Value.ref 59 }, { hash := PyData.keyHash P (Str.ofString "fixed_text"), key := Value.str (Str.ofString "fixed_text") 262, val := Value.ref 66 }, { hash := PyData.keyHash P (Str.ofString "decimal_places"), key := Value.str (Str.ofString "decimal_places") 271, val := Value.ref 73 }, { hash := PyData.keyHash P (Str.ofString "exact_text"), key := Value.str (Str.ofString "exact_text") 281, val := Value.ref 80 }, { hash := PyData.keyHash P (Str.ofString "digits_value"), key := Value.str (Str.ofString "digits_value") 291, val := Value.ref 87 }, { hash := PyData.keyHash P (Str.ofString "digit_run"), key := Value.str (Str.ofString "digit_run") 300, val := Value.ref 94 }, { hash := PyData.keyHash P (Str.ofString "exponent_value"), key := Value.str (Str.ofString "exponent_value") 309, val := Value.ref 101 }, { hash := PyData.keyHash P (Str.ofString "powered"), key := Value.str (Str.ofString "powered") 318, val := Value.ref 108 }, { hash := PyData.keyHash P (Str.ofString "unsigned_number"), key := Value.str (Str.ofString "unsigned_number") 337, val := Value.ref 115 }, { hash := PyData.keyHash P (Str.ofString "parse_number"), key := Value.str (Str.ofString "parse_number") 349, val := Value.ref 122 }, { hash := PyData.keyHash P (Str.ofString "_law_pool"), key := Value.str (Str.ofString "_law_pool") 364, val := Value.ref 129 }, { hash := PyData.keyHash P (Str.ofString "_law_pick"), key := Value.str (Str.ofString "_law_pick") 373, val := Value.ref 136 }, { hash := PyData.keyHash P (Str.ofString "_law_reduced"), key := Value.str (Str.ofString "_law_reduced") 383, val := Value.ref 143 }, { hash := PyData.keyHash P (Str.ofString "_law_digits"), key := Value.str (Str.ofString "_law_digits") 396, val := Value.ref 150 }, { hash := PyData.keyHash P (Str.ofString "_law_numeral"), key := Value.str (Str.ofString "_law_numeral") 413, val := Value.ref 157 }, { hash := PyData.keyHash P (Str.ofString "_law_word"), key := Value.str (Str.ofString "_law_word") 423, val := Value.ref 164 }, { hash := PyData.keyHash P (Str.ofString "law"), key := Value.str (Str.ofString "law") 429, val := Value.ref 169 }] 35 }) ::
    (nat_lit 15, { cls := Value.type "tuple", data := Data.seq #[Value.int 0 189, Value.int 0 190] }) ::
    (nat_lit 16, { cls := Value.type "tuple", data := Data.seq #[Value.int 1 192, Value.int 0 193] }) ::
    (nat_lit 17, { cls := Value.type "tuple", data := Data.seq #[Value.int 0 195, Value.int 1 196] }) ::
    (nat_lit 18, { cls := Value.type "tuple", data := Data.seq #[] }) ::
    (nat_lit 20, { cls := Value.type "tuple", data := Data.seq #[Value.str (Str.ofString "a") 201, Value.str (Str.ofString "b") 202] }) ::
    (nat_lit 21, { cls := Value.type "tuple", data := Data.seq #[] }) ::
    (nat_lit 23, { cls := Value.type "code", data := Data.fields #[Value.str (Str.ofString "gcd") 198, Value.str (Str.ofString "gcd") 199, Value.str (Str.ofString "/claim/cut.py") 200, Value.int 5 0, Value.int 2 0, Value.int 0 0, Value.int 0 0, Value.int 3 0, Value.ref 18, Value.bool true, Value.int 181 0, Value.ref 19, Value.none, Value.ref 20, Value.ref 21, Value.ref 22, Value.int 203 0, Value.int 5 0, Value.str (Str.ofString "/claim/cut.py") 204] }) ::
    (nat_lit 24, { cls := Value.type "function", data := Data.func { name := Str.ofString "gcd", qualname := Str.ofString "gcd", params := p24, body := FuncBody.stmts b24, scope := c24, globals := 3, closure := [], defaults := Value.none, kwdefaults := Value.none, pyModule := Value.str (Str.ofString "vectorcove.rational") 187, code := Value.ref 23 } }) ::
    (nat_lit 25, { cls := Value.type "tuple", data := Data.seq #[] }) ::
    (nat_lit 27, { cls := Value.type "tuple", data := Data.seq #[Value.str (Str.ofString "n") 209, Value.str (Str.ofString "d") 210, Value.str (Str.ofString "common") 211] }) ::
    (nat_lit 28, { cls := Value.type "tuple", data := Data.seq #[] }) ::
    (nat_lit 30, { cls := Value.type "code", data := Data.fields #[Value.str (Str.ofString "make") 206, Value.str (Str.ofString "make") 207, Value.str (Str.ofString "/claim/cut.py") 208, Value.int 9 0, Value.int 2 0, Value.int 0 0, Value.int 0 0, Value.int 3 0, Value.ref 25, Value.bool true, Value.int 181 0, Value.ref 26, Value.none, Value.ref 27, Value.ref 28, Value.ref 29, Value.int 212 0, Value.int 9 0, Value.str (Str.ofString "/claim/cut.py") 213] }) ::
    (nat_lit 31, { cls := Value.type "function", data := Data.func { name := Str.ofString "make", qualname := Str.ofString "make", params := p31, body := FuncBody.stmts b31, scope := c31, globals := 3, closure := [], defaults := Value.none, kwdefaults := Value.none, pyModule := Value.str (Str.ofString "vectorcove.rational") 187, code := Value.ref 30 } }) ::
    (nat_lit 32, { cls := Value.type "tuple", data := Data.seq #[] }) ::
    (nat_lit 34, { cls := Value.type "tuple", data := Data.seq #[Value.str (Str.ofString "x") 218] }) ::
    (nat_lit 35, { cls := Value.type "tuple", data := Data.seq #[] }) ::
    (nat_lit 37, { cls := Value.type "code", data := Data.fields #[Value.str (Str.ofString "neg") 215, Value.str (Str.ofString "neg") 216, Value.str (Str.ofString "/claim/cut.py") 217, Value.int 19 0, Value.int 1 0, Value.int 0 0, Value.int 0 0, Value.int 3 0, Value.ref 32, Value.bool true, Value.int 181 0, Value.ref 33, Value.none, Value.ref 34, Value.ref 35, Value.ref 36, Value.int 219 0, Value.int 19 0, Value.str (Str.ofString "/claim/cut.py") 220] }) ::
    (nat_lit 38, { cls := Value.type "function", data := Data.func { name := Str.ofString "neg", qualname := Str.ofString "neg", params := p38, body := FuncBody.stmts b38, scope := c38, globals := 3, closure := [], defaults := Value.none, kwdefaults := Value.none, pyModule := Value.str (Str.ofString "vectorcove.rational") 187, code := Value.ref 37 } }) ::
    (nat_lit 39, { cls := Value.type "tuple", data := Data.seq #[] }) ::
    (nat_lit 41, { cls := Value.type "tuple", data := Data.seq #[Value.str (Str.ofString "n") 225, Value.str (Str.ofString "d") 226, Value.str (Str.ofString "low") 227, Value.str (Str.ofString "rest") 228] }) ::
    (nat_lit 42, { cls := Value.type "tuple", data := Data.seq #[] }) ::
    (nat_lit 44, { cls := Value.type "code", data := Data.fields #[Value.str (Str.ofString "nearest_whole") 222, Value.str (Str.ofString "nearest_whole") 223, Value.str (Str.ofString "/claim/cut.py") 224, Value.int 23 0, Value.int 2 0, Value.int 0 0, Value.int 0 0, Value.int 3 0, Value.ref 39, Value.bool true, Value.int 181 0, Value.ref 40, Value.none, Value.ref 41, Value.ref 42, Value.ref 43, Value.int 229 0, Value.int 23 0, Value.str (Str.ofString "/claim/cut.py") 230] }) ::
    (nat_lit 45, { cls := Value.type "function", data := Data.func { name := Str.ofString "nearest_whole", qualname := Str.ofString "nearest_whole", params := p45, body := FuncBody.stmts b45, scope := c45, globals := 3, closure := [], defaults := Value.none, kwdefaults := Value.none, pyModule := Value.str (Str.ofString "vectorcove.rational") 187, code := Value.ref 44 } }) ::
    (nat_lit 46, { cls := Value.type "tuple", data := Data.seq #[] }) ::
    (nat_lit 48, { cls := Value.type "tuple", data := Data.seq #[Value.str (Str.ofString "n") 239, Value.str (Str.ofString "rest") 240, Value.str (Str.ofString "row") 241, Value.str (Str.ofString "part") 242] }) ::
    (nat_lit 49, { cls := Value.type "tuple", data := Data.seq #[] }) ::
    (nat_lit 51, { cls := Value.type "code", data := Data.fields #[Value.str (Str.ofString "whole_text") 236, Value.str (Str.ofString "whole_text") 237, Value.str (Str.ofString "/claim/cut.py") 238, Value.int 31 0, Value.int 1 0, Value.int 0 0, Value.int 0 0, Value.int 3 0, Value.ref 46, Value.bool true, Value.int 181 0, Value.ref 47, Value.none, Value.ref 48, Value.ref 49, Value.ref 50, Value.int 243 0, Value.int 31 0, Value.str (Str.ofString "/claim/cut.py") 244] }) ::
    (nat_lit 52, { cls := Value.type "function", data := Data.func { name := Str.ofString "whole_text", qualname := Str.ofString "whole_text", params := p52, body := FuncBody.stmts b52, scope := c52, globals := 3, closure := [], defaults := Value.none, kwdefaults := Value.none, pyModule := Value.str (Str.ofString "vectorcove.numtext") 232, code := Value.ref 51 } }) ::
    (nat_lit 53, { cls := Value.type "tuple", data := Data.seq #[] }) ::
    (nat_lit 55, { cls := Value.type "tuple", data := Data.seq #[Value.str (Str.ofString "x") 249] }) ::
    (nat_lit 56, { cls := Value.type "tuple", data := Data.seq #[] }) ::
    (nat_lit 58, { cls := Value.type "code", data := Data.fields #[Value.str (Str.ofString "special_text") 246, Value.str (Str.ofString "special_text") 247, Value.str (Str.ofString "/claim/cut.py") 248, Value.int 42 0, Value.int 1 0, Value.int 0 0, Value.int 0 0, Value.int 3 0, Value.ref 53, Value.bool true, Value.int 181 0, Value.ref 54, Value.none, Value.ref 55, Value.ref 56, Value.ref 57, Value.int 250 0, Value.int 42 0, Value.str (Str.ofString "/claim/cut.py") 251] }) ::
    (nat_lit 59, { cls := Value.type "function", data := Data.func { name := Str.ofString "special_text", qualname := Str.ofString "special_text", params := p59, body := FuncBody.stmts b59, scope := c59, globals := 3, closure := [], defaults := Value.none, kwdefaults := Value.none, pyModule := Value.str (Str.ofString "vectorcove.numtext") 232, code := Value.ref 58 } }) ::
    (nat_lit 60, { cls := Value.type "tuple", data := Data.seq #[] }) ::
    (nat_lit 62, { cls := Value.type "tuple", data := Data.seq #[Value.str (Str.ofString "x") 256, Value.str (Str.ofString "places") 257, Value.str (Str.ofString "n") 258, Value.str (Str.ofString "text") 259] }) ::
    (nat_lit 63, { cls := Value.type "tuple", data := Data.seq #[] }) ::
    (nat_lit 65, { cls := Value.type "code", data := Data.fields #[Value.str (Str.ofString "fixed_text") 253, Value.str (Str.ofString "fixed_text") 254, Value.str (Str.ofString "/claim/cut.py") 255, Value.int 50 0, Value.int 2 0, Value.int 0 0, Value.int 0 0, Value.int 3 0, Value.ref 60, Value.bool true, Value.int 181 0, Value.ref 61, Value.none, Value.ref 62, Value.ref 63, Value.ref 64, Value.int 260 0, Value.int 50 0, Value.str (Str.ofString "/claim/cut.py") 261] }) ::
    (nat_lit 66, { cls := Value.type "function", data := Data.func { name := Str.ofString "fixed_text", qualname := Str.ofString "fixed_text", params := p66, body := FuncBody.stmts b66, scope := c66, globals := 3, closure := [], defaults := Value.none, kwdefaults := Value.none, pyModule := Value.str (Str.ofString "vectorcove.numtext") 232, code := Value.ref 65 } }) ::
    (nat_lit 67, { cls := Value.type "tuple", data := Data.seq #[] }) ::
    (nat_lit 69, { cls := Value.type "tuple", data := Data.seq #[Value.str (Str.ofString "d") 266, Value.str (Str.ofString "twos") 267, Value.str (Str.ofString "fives") 268] }) ::
    (nat_lit 70, { cls := Value.type "tuple", data := Data.seq #[] }) ::
    (nat_lit 72, { cls := Value.type "code", data := Data.fields #[Value.str (Str.ofString "decimal_places") 263, Value.str (Str.ofString "decimal_places") 264, Value.str (Str.ofString "/claim/cut.py") 265, Value.int 58 0, Value.int 1 0, Value.int 0 0, Value.int 0 0, Value.int 3 0, Value.ref 67, Value.bool true, Value.int 181 0, Value.ref 68, Value.none, Value.ref 69, Value.ref 70, Value.ref 71, Value.int 269 0, Value.int 58 0, Value.str (Str.ofString "/claim/cut.py") 270] }) ::
    (nat_lit 73, { cls := Value.type "function", data := Data.func { name := Str.ofString "decimal_places", qualname := Str.ofString "decimal_places", params := p73, body := FuncBody.stmts b73, scope := c73, globals := 3, closure := [], defaults := Value.none, kwdefaults := Value.none, pyModule := Value.str (Str.ofString "vectorcove.numtext") 232, code := Value.ref 72 } }) ::
    (nat_lit 74, { cls := Value.type "tuple", data := Data.seq #[] }) ::
    (nat_lit 76, { cls := Value.type "tuple", data := Data.seq #[Value.str (Str.ofString "x") 275, Value.str (Str.ofString "text") 276, Value.str (Str.ofString "places") 277, Value.str (Str.ofString "n") 278] }) ::
    (nat_lit 77, { cls := Value.type "tuple", data := Data.seq #[] }) ::
    (nat_lit 79, { cls := Value.type "code", data := Data.fields #[Value.str (Str.ofString "exact_text") 272, Value.str (Str.ofString "exact_text") 273, Value.str (Str.ofString "/claim/cut.py") 274, Value.int 70 0, Value.int 1 0, Value.int 0 0, Value.int 0 0, Value.int 3 0, Value.ref 74, Value.bool true, Value.int 181 0, Value.ref 75, Value.none, Value.ref 76, Value.ref 77, Value.ref 78, Value.int 279 0, Value.int 70 0, Value.str (Str.ofString "/claim/cut.py") 280] }) ::
    (nat_lit 80, { cls := Value.type "function", data := Data.func { name := Str.ofString "exact_text", qualname := Str.ofString "exact_text", params := p80, body := FuncBody.stmts b80, scope := c80, globals := 3, closure := [], defaults := Value.none, kwdefaults := Value.none, pyModule := Value.str (Str.ofString "vectorcove.numtext") 232, code := Value.ref 79 } }) ::
    (nat_lit 81, { cls := Value.type "tuple", data := Data.seq #[] }) ::
    (nat_lit 83, { cls := Value.type "tuple", data := Data.seq #[Value.str (Str.ofString "text") 285, Value.str (Str.ofString "base") 286, Value.str (Str.ofString "value") 287, Value.str (Str.ofString "char") 288] }) ::
    (nat_lit 84, { cls := Value.type "tuple", data := Data.seq #[] }) ::
    (nat_lit 86, { cls := Value.type "code", data := Data.fields #[Value.str (Str.ofString "digits_value") 282, Value.str (Str.ofString "digits_value") 283, Value.str (Str.ofString "/claim/cut.py") 284, Value.int 82 0, Value.int 2 0, Value.int 0 0, Value.int 0 0, Value.int 3 0, Value.ref 81, Value.bool true, Value.int 181 0, Value.ref 82, Value.none, Value.ref 83, Value.ref 84, Value.ref 85, Value.int 289 0, Value.int 82 0, Value.str (Str.ofString "/claim/cut.py") 290] }) ::
    (nat_lit 87, { cls := Value.type "function", data := Data.func { name := Str.ofString "digits_value", qualname := Str.ofString "digits_value", params := p87, body := FuncBody.stmts b87, scope := c87, globals := 3, closure := [], defaults := Value.none, kwdefaults := Value.none, pyModule := Value.str (Str.ofString "vectorcove.numtext") 232, code := Value.ref 86 } }) ::
    (nat_lit 88, { cls := Value.type "tuple", data := Data.seq #[] }) ::
    (nat_lit 90, { cls := Value.type "tuple", data := Data.seq #[Value.str (Str.ofString "text") 295, Value.str (Str.ofString "at") 296, Value.str (Str.ofString "digits") 297] }) ::
    (nat_lit 91, { cls := Value.type "tuple", data := Data.seq #[] }) ::
    (nat_lit 93, { cls := Value.type "code", data := Data.fields #[Value.str (Str.ofString "digit_run") 292, Value.str (Str.ofString "digit_run") 293, Value.str (Str.ofString "/claim/cut.py") 294, Value.int 87 0, Value.int 3 0, Value.int 0 0, Value.int 0 0, Value.int 3 0, Value.ref 88, Value.bool true, Value.int 181 0, Value.ref 89, Value.none, Value.ref 90, Value.ref 91, Value.ref 92, Value.int 298 0, Value.int 87 0, Value.str (Str.ofString "/claim/cut.py") 299] }) ::
    (nat_lit 94, { cls := Value.type "function", data := Data.func { name := Str.ofString "digit_run", qualname := Str.ofString "digit_run", params := p94, body := FuncBody.stmts b94, scope := c94, globals := 3, closure := [], defaults := Value.none, kwdefaults := Value.none, pyModule := Value.str (Str.ofString "vectorcove.numtext") 232, code := Value.ref 93 } }) ::
    (nat_lit 95, { cls := Value.type "tuple", data := Data.seq #[] }) ::
    (nat_lit 97, { cls := Value.type "tuple", data := Data.seq #[Value.str (Str.ofString "text") 304, Value.str (Str.ofString "start") 305, Value.str (Str.ofString "value") 306] }) ::
    (nat_lit 98, { cls := Value.type "tuple", data := Data.seq #[] }) ::
    (nat_lit 100, { cls := Value.type "code", data := Data.fields #[Value.str (Str.ofString "exponent_value") 301, Value.str (Str.ofString "exponent_value") 302, Value.str (Str.ofString "/claim/cut.py") 303, Value.int 91 0, Value.int 1 0, Value.int 0 0, Value.int 0 0, Value.int 3 0, Value.ref 95, Value.bool true, Value.int 181 0, Value.ref 96, Value.none, Value.ref 97, Value.ref 98, Value.ref 99, Value.int 307 0, Value.int 91 0, Value.str (Str.ofString "/claim/cut.py") 308] }) ::
    (nat_lit 101, { cls := Value.type "function", data := Data.func { name := Str.ofString "exponent_value", qualname := Str.ofString "exponent_value", params := p101, body := FuncBody.stmts b101, scope := c101, globals := 3, closure := [], defaults := Value.none, kwdefaults := Value.none, pyModule := Value.str (Str.ofString "vectorcove.numtext") 232, code := Value.ref 100 } }) ::
    (nat_lit 102, { cls := Value.type "tuple", data := Data.seq #[] }) ::
    (nat_lit 104, { cls := Value.type "tuple", data := Data.seq #[Value.str (Str.ofString "n") 313, Value.str (Str.ofString "base") 314, Value.str (Str.ofString "e") 315] }) ::
    (nat_lit 105, { cls := Value.type "tuple", data := Data.seq #[] }) ::
    (nat_lit 107, { cls := Value.type "code", data := Data.fields #[Value.str (Str.ofString "powered") 310, Value.str (Str.ofString "powered") 311, Value.str (Str.ofString "/claim/cut.py") 312, Value.int 101 0, Value.int 3 0, Value.int 0 0, Value.int 0 0, Value.int 3 0, Value.ref 102, Value.bool true, Value.int 181 0, Value.ref 103, Value.none, Value.ref 104, Value.ref 105, Value.ref 106, Value.int 316 0, Value.int 101 0, Value.str (Str.ofString "/claim/cut.py") 317] }) ::
    (nat_lit 108, { cls := Value.type "function", data := Data.func { name := Str.ofString "powered", qualname := Str.ofString "powered", params := p108, body := FuncBody.stmts b108, scope := c108, globals := 3, closure := [], defaults := Value.none, kwdefaults := Value.none, pyModule := Value.str (Str.ofString "vectorcove.numtext") 232, code := Value.ref 107 } }) ::
    (nat_lit 109, { cls := Value.type "tuple", data := Data.seq #[] }) ::
    (nat_lit 111, { cls := Value.type "tuple", data := Data.seq #[Value.str (Str.ofString "text") 322, Value.str (Str.ofString "base") 323, Value.str (Str.ofString "digits") 324, Value.str (Str.ofString "mark") 325, Value.str (Str.ofString "scale") 326, Value.str (Str.ofString "end") 327, Value.str (Str.ofString "before") 328, Value.str (Str.ofString "behind") 329, Value.str (Str.ofString "start") 330, Value.str (Str.ofString "e") 331, Value.str (Str.ofString "ok") 332, Value.str (Str.ofString "n") 333, Value.str (Str.ofString "found") 334] }) ::
    (nat_lit 112, { cls := Value.type "tuple", data := Data.seq #[] }) ::
    (nat_lit 114, { cls := Value.type "code", data := Data.fields #[Value.str (Str.ofString "unsigned_number") 319, Value.str (Str.ofString "unsigned_number") 320, Value.str (Str.ofString "/claim/cut.py") 321, Value.int 111 0, Value.int 1 0, Value.int 0 0, Value.int 0 0, Value.int 3 0, Value.ref 109, Value.bool true, Value.int 181 0, Value.ref 110, Value.none, Value.ref 111, Value.ref 112, Value.ref 113, Value.int 335 0, Value.int 111 0, Value.str (Str.ofString "/claim/cut.py") 336] }) ::
    (nat_lit 115, { cls := Value.type "function", data := Data.func { name := Str.ofString "unsigned_number", qualname := Str.ofString "unsigned_number", params := p115, body := FuncBody.stmts b115, scope := c115, globals := 3, closure := [], defaults := Value.none, kwdefaults := Value.none, pyModule := Value.str (Str.ofString "vectorcove.numtext") 232, code := Value.ref 114 } }) ::
    (nat_lit 116, { cls := Value.type "tuple", data := Data.seq #[] }) ::
    (nat_lit 118, { cls := Value.type "tuple", data := Data.seq #[Value.str (Str.ofString "text") 341, Value.str (Str.ofString "body") 342, Value.str (Str.ofString "negative") 343, Value.str (Str.ofString "small") 344, Value.str (Str.ofString "found") 345, Value.str (Str.ofString "ok") 346] }) ::
    (nat_lit 119, { cls := Value.type "tuple", data := Data.seq #[] }) ::
    (nat_lit 121, { cls := Value.type "code", data := Data.fields #[Value.str (Str.ofString "parse_number") 338, Value.str (Str.ofString "parse_number") 339, Value.str (Str.ofString "/claim/cut.py") 340, Value.int 143 0, Value.int 1 0, Value.int 0 0, Value.int 0 0, Value.int 3 0, Value.ref 116, Value.bool true, Value.int 181 0, Value.ref 117, Value.none, Value.ref 118, Value.ref 119, Value.ref 120, Value.int 347 0, Value.int 143 0, Value.str (Str.ofString "/claim/cut.py") 348] }) ::
    (nat_lit 122, { cls := Value.type "function", data := Data.func { name := Str.ofString "parse_number", qualname := Str.ofString "parse_number", params := p122, body := FuncBody.stmts b122, scope := c122, globals := 3, closure := [], defaults := Value.none, kwdefaults := Value.none, pyModule := Value.str (Str.ofString "vectorcove.numtext") 232, code := Value.ref 121 } }) ::
    (nat_lit 123, { cls := Value.type "tuple", data := Data.seq #[] }) ::
    (nat_lit 125, { cls := Value.type "tuple", data := Data.seq #[Value.str (Str.ofString "script") 355, Value.str (Str.ofString "figures") 356, Value.str (Str.ofString "mix") 357, Value.str (Str.ofString "cell") 358, Value.str (Str.ofString "big") 359, Value.str (Str.ofString "rest") 360, Value.str (Str.ofString "step") 361] }) ::
    (nat_lit 126, { cls := Value.type "tuple", data := Data.seq #[] }) ::
    (nat_lit 128, { cls := Value.type "code", data := Data.fields #[Value.str (Str.ofString "_law_pool") 352, Value.str (Str.ofString "_law_pool") 353, Value.str (Str.ofString "/claim/cut.py") 354, Value.int 161 0, Value.int 1 0, Value.int 0 0, Value.int 0 0, Value.int 3 0, Value.ref 123, Value.bool true, Value.int 181 0, Value.ref 124, Value.none, Value.ref 125, Value.ref 126, Value.ref 127, Value.int 362 0, Value.int 161 0, Value.str (Str.ofString "/claim/cut.py") 363] }) ::
    (nat_lit 129, { cls := Value.type "function", data := Data.func { name := Str.ofString "_law_pool", qualname := Str.ofString "_law_pool", params := p129, body := FuncBody.stmts b129, scope := c129, globals := 3, closure := [], defaults := Value.none, kwdefaults := Value.none, pyModule := Value.str (Str.ofString "law_no0501_01") 350, code := Value.ref 128 } }) ::
    (nat_lit 130, { cls := Value.type "tuple", data := Data.seq #[] }) ::
    (nat_lit 132, { cls := Value.type "tuple", data := Data.seq #[Value.str (Str.ofString "pool") 368, Value.str (Str.ofString "bound") 369, Value.str (Str.ofString "figure") 370] }) ::
    (nat_lit 133, { cls := Value.type "tuple", data := Data.seq #[] }) ::
    (nat_lit 135, { cls := Value.type "code", data := Data.fields #[Value.str (Str.ofString "_law_pick") 365, Value.str (Str.ofString "_law_pick") 366, Value.str (Str.ofString "/claim/cut.py") 367, Value.int 176 0, Value.int 2 0, Value.int 0 0, Value.int 0 0, Value.int 3 0, Value.ref 130, Value.bool true, Value.int 181 0, Value.ref 131, Value.none, Value.ref 132, Value.ref 133, Value.ref 134, Value.int 371 0, Value.int 176 0, Value.str (Str.ofString "/claim/cut.py") 372] }) ::
    (nat_lit 136, { cls := Value.type "function", data := Data.func { name := Str.ofString "_law_pick", qualname := Str.ofString "_law_pick", params := p136, body := FuncBody.stmts b136, scope := c136, globals := 3, closure := [], defaults := Value.none, kwdefaults := Value.none, pyModule := Value.str (Str.ofString "law_no0501_01") 350, code := Value.ref 135 } }) ::
    (nat_lit 137, { cls := Value.type "tuple", data := Data.seq #[] }) ::
    (nat_lit 139, { cls := Value.type "tuple", data := Data.seq #[Value.str (Str.ofString "n") 377, Value.str (Str.ofString "d") 378, Value.str (Str.ofString "one") 379, Value.str (Str.ofString "two") 380] }) ::
    (nat_lit 140, { cls := Value.type "tuple", data := Data.seq #[] }) ::
    (nat_lit 142, { cls := Value.type "code", data := Data.fields #[Value.str (Str.ofString "_law_reduced") 374, Value.str (Str.ofString "_law_reduced") 375, Value.str (Str.ofString "/claim/cut.py") 376, Value.int 186 0, Value.int 2 0, Value.int 0 0, Value.int 0 0, Value.int 3 0, Value.ref 137, Value.bool true, Value.int 181 0, Value.ref 138, Value.none, Value.ref 139, Value.ref 140, Value.ref 141, Value.int 381 0, Value.int 186 0, Value.str (Str.ofString "/claim/cut.py") 382] }) ::
    (nat_lit 143, { cls := Value.type "function", data := Data.func { name := Str.ofString "_law_reduced", qualname := Str.ofString "_law_reduced", params := p143, body := FuncBody.stmts b143, scope := c143, globals := 3, closure := [], defaults := Value.none, kwdefaults := Value.none, pyModule := Value.str (Str.ofString "law_no0501_01") 350, code := Value.ref 142 } }) ::
    (nat_lit 144, { cls := Value.type "tuple", data := Data.seq #[] }) ::
    (nat_lit 146, { cls := Value.type "tuple", data := Data.seq #[Value.str (Str.ofString "pool") 387, Value.str (Str.ofString "base") 388, Value.str (Str.ofString "count") 389, Value.str (Str.ofString "row") 390, Value.str (Str.ofString "total") 391, Value.str (Str.ofString "step") 392, Value.str (Str.ofString "figure") 393] }) ::
    (nat_lit 147, { cls := Value.type "tuple", data := Data.seq #[] }) ::
    (nat_lit 149, { cls := Value.type "code", data := Data.fields #[Value.str (Str.ofString "_law_digits") 384, Value.str (Str.ofString "_law_digits") 385, Value.str (Str.ofString "/claim/cut.py") 386, Value.int 191 0, Value.int 3 0, Value.int 0 0, Value.int 0 0, Value.int 3 0, Value.ref 144, Value.bool true, Value.int 181 0, Value.ref 145, Value.none, Value.ref 146, Value.ref 147, Value.ref 148, Value.int 394 0, Value.int 191 0, Value.str (Str.ofString "/claim/cut.py") 395] }) ::
    (nat_lit 150, { cls := Value.type "function", data := Data.func { name := Str.ofString "_law_digits", qualname := Str.ofString "_law_digits", params := p150, body := FuncBody.stmts b150, scope := c150, globals := 3, closure := [], defaults := Value.none, kwdefaults := Value.none, pyModule := Value.str (Str.ofString "law_no0501_01") 350, code := Value.ref 149 } }) ::
    (nat_lit 151, { cls := Value.type "tuple", data := Data.seq #[] }) ::
    (nat_lit 153, { cls := Value.type "tuple", data := Data.seq #[Value.str (Str.ofString "pool") 400, Value.str (Str.ofString "base") 401, Value.str (Str.ofString "before") 402, Value.str (Str.ofString "high") 403, Value.str (Str.ofString "point") 404, Value.str (Str.ofString "behind") 405, Value.str (Str.ofString "low") 406, Value.str (Str.ofString "row") 407, Value.str (Str.ofString "far") 408, Value.str (Str.ofString "n") 409, Value.str (Str.ofString "scale") 410] }) ::
    (nat_lit 154, { cls := Value.type "tuple", data := Data.seq #[] }) ::
    (nat_lit 156, { cls := Value.type "code", data := Data.fields #[Value.str (Str.ofString "_law_numeral") 397, Value.str (Str.ofString "_law_numeral") 398, Value.str (Str.ofString "/claim/cut.py") 399, Value.int 199 0, Value.int 1 0, Value.int 0 0, Value.int 0 0, Value.int 3 0, Value.ref 151, Value.bool true, Value.int 181 0, Value.ref 152, Value.none, Value.ref 153, Value.ref 154, Value.ref 155, Value.int 411 0, Value.int 199 0, Value.str (Str.ofString "/claim/cut.py") 412] }) ::
    (nat_lit 157, { cls := Value.type "function", data := Data.func { name := Str.ofString "_law_numeral", qualname := Str.ofString "_law_numeral", params := p157, body := FuncBody.stmts b157, scope := c157, globals := 3, closure := [], defaults := Value.none, kwdefaults := Value.none, pyModule := Value.str (Str.ofString "law_no0501_01") 350, code := Value.ref 156 } }) ::
    (nat_lit 158, { cls := Value.type "tuple", data := Data.seq #[] }) ::
    (nat_lit 160, { cls := Value.type "tuple", data := Data.seq #[Value.str (Str.ofString "pool") 417, Value.str (Str.ofString "kind") 418, Value.str (Str.ofString "row") 419, Value.str (Str.ofString "bad") 420] }) ::
    (nat_lit 161, { cls := Value.type "tuple", data := Data.seq #[] }) ::
    (nat_lit 163, { cls := Value.type "code", data := Data.fields #[Value.str (Str.ofString "_law_word") 414, Value.str (Str.ofString "_law_word") 415, Value.str (Str.ofString "/claim/cut.py") 416, Value.int 217 0, Value.int 1 0, Value.int 0 0, Value.int 0 0, Value.int 3 0, Value.ref 158, Value.bool true, Value.int 181 0, Value.ref 159, Value.none, Value.ref 160, Value.ref 161, Value.ref 162, Value.int 421 0, Value.int 217 0, Value.str (Str.ofString "/claim/cut.py") 422] }) ::
    (nat_lit 164, { cls := Value.type "function", data := Data.func { name := Str.ofString "_law_word", qualname := Str.ofString "_law_word", params := p164, body := FuncBody.stmts b164, scope := c164, globals := 3, closure := [], defaults := Value.none, kwdefaults := Value.none, pyModule := Value.str (Str.ofString "law_no0501_01") 350, code := Value.ref 163 } }) ::
    (nat_lit 165, { cls := Value.type "tuple", data := Data.seq #[] }) ::
    (nat_lit 168, { cls := Value.type "code", data := Data.fields #[Value.str (Str.ofString "law") 424, Value.str (Str.ofString "law") 425, Value.str (Str.ofString "/claim/cut.py") 426, Value.int 226 0, Value.int 1 0, Value.int 0 0, Value.int 0 0, Value.int 3 0, Value.ref 165, Value.bool true, Value.int 181 0, Value.ref 166, Value.none, Value.none, Value.none, Value.ref 167, Value.int 427 0, Value.int 226 0, Value.str (Str.ofString "/claim/cut.py") 428] }) ::
    (nat_lit 169, { cls := Value.type "function", data := Data.func { name := Str.ofString "law", qualname := Str.ofString "law", params := p169, body := FuncBody.stmts b169, scope := c169, globals := 3, closure := [], defaults := Value.none, kwdefaults := Value.none, pyModule := Value.str (Str.ofString "law_no0501_01") 350, code := Value.ref 168 } }) :: [] : Frag)) rfl
noncomputable def view_39 : Program := (fun {s0 s1 s2 s3 s4 s5 s6 s7 s8 s9 s10 s11 s12 s13 s14 s15 s16 s17 s18 s19 s20 s21 s22 s23 s24 s25 s26 s27 s28 : Stmt} (_ : PySem.Challenge.pw_no0501_01.main.body = [s0, s1, s2, s3, s4, s5, s6, s7, s8, s9, s10, s11, s12, s13, s14, s15, s16, s17, s18, s19, s20, s21, s22, s23, s24, s25, s26, s27, s28]) => ({ PySem.Challenge.rw_no0501_01.row.toRowW.1 with main := { PySem.Challenge.rw_no0501_01.row.toRowW.1.main with body := [s1, s2, s3, s4, s5, s6, s7, s9, s10, s11, s12, s13, s14, s15, s16, s17, s18, s19, s20, s22, s23, s24, s25, s26, s27, s28] } } : Program)) rfl
noncomputable abbrev hook : Hook := kHook heap_39 (nat_lit 2 :: nat_lit 3 :: nat_lit 15 :: nat_lit 16 :: nat_lit 17 :: nat_lit 18 :: nat_lit 20 :: nat_lit 21 :: nat_lit 23 :: nat_lit 24 :: nat_lit 25 :: nat_lit 27 :: nat_lit 28 :: nat_lit 30 :: nat_lit 31 :: nat_lit 32 :: nat_lit 34 :: nat_lit 35 :: nat_lit 37 :: nat_lit 38 :: nat_lit 39 :: nat_lit 41 :: nat_lit 42 :: nat_lit 44 :: nat_lit 45 :: nat_lit 46 :: nat_lit 48 :: nat_lit 49 :: nat_lit 51 :: nat_lit 52 :: nat_lit 53 :: nat_lit 55 :: nat_lit 56 :: nat_lit 58 :: nat_lit 59 :: nat_lit 60 :: nat_lit 62 :: nat_lit 63 :: nat_lit 65 :: nat_lit 66 :: nat_lit 67 :: nat_lit 69 :: nat_lit 70 :: nat_lit 72 :: nat_lit 73 :: nat_lit 74 :: nat_lit 76 :: nat_lit 77 :: nat_lit 79 :: nat_lit 80 :: nat_lit 81 :: nat_lit 83 :: nat_lit 84 :: nat_lit 86 :: nat_lit 87 :: nat_lit 88 :: nat_lit 90 :: nat_lit 91 :: nat_lit 93 :: nat_lit 94 :: nat_lit 95 :: nat_lit 97 :: nat_lit 98 :: nat_lit 100 :: nat_lit 101 :: nat_lit 102 :: nat_lit 104 :: nat_lit 105 :: nat_lit 107 :: nat_lit 108 :: nat_lit 109 :: nat_lit 111 :: nat_lit 112 :: nat_lit 114 :: nat_lit 115 :: nat_lit 116 :: nat_lit 118 :: nat_lit 119 :: nat_lit 121 :: nat_lit 122 :: nat_lit 123 :: nat_lit 125 :: nat_lit 126 :: nat_lit 128 :: nat_lit 129 :: nat_lit 130 :: nat_lit 132 :: nat_lit 133 :: nat_lit 135 :: nat_lit 136 :: nat_lit 137 :: nat_lit 139 :: nat_lit 140 :: nat_lit 142 :: nat_lit 143 :: nat_lit 144 :: nat_lit 146 :: nat_lit 147 :: nat_lit 149 :: nat_lit 150 :: nat_lit 151 :: nat_lit 153 :: nat_lit 154 :: nat_lit 156 :: nat_lit 157 :: nat_lit 158 :: nat_lit 160 :: nat_lit 161 :: nat_lit 163 :: nat_lit 164 :: nat_lit 165 :: nat_lit 168 :: nat_lit 169 :: []) (fun _ => by kernel_rfl)
theorem said : PySem.Challenge.rw_no0501_01.wellSaid = true := by kernel_rfl
theorem left : LeftO PySem.Challenge.rw_no0501_01.row.toRowW.1 view_39 [] (fun s => xlAt view_39 [] s && recOk PySem.Challenge.rw_no0501_01.row.records s) hook.obs hook.val 1686 := fun w => by kernel_rfl
end hd

end Mine
namespace Mine

/-- What a call of the def at `f` does: from a state that holds `news` it comes back, and the new value and ledger are as `Out` says. -/
noncomputable def Ct (w : World) (d : Nat) (f : Addr) (vs : List Value) (news : List (Addr × Obj)) (Out : Value → List (Addr × Obj) → Prop) : Prop :=
  ∀ (mean : ExcName → Option Value) (mg mb : Str → Option Value) (dp un : Nat) (gd : Option (List Code)) (cn : Str) (cs : Scope) (a : Addr) (ccd : Value) (cl : List (Str × Addr)) (outer : List Env) (A₀ : Around) (base h₀ : Heap) (L : Addr) (m : Str → Option Value) (s : Shared)
    (Q E : Value → Shared → Prop),
    Below A₀ base outer h₀ → Fr h₀ L s.heap m → (Mine.hd.heap_39 w.params).In h₀ → News h₀ L s.heap news → Top Mine.hd.view_39 (looseW Mine.hd.view_39 []) mean mg mb h₀ → cs.kind = .function → dp + d < recursionLimit → un + 8 * d < cLine →
    (∀ r news' h' tk', Out r news' → Fr h₀ L h' m → News h₀ L h' news' → Q r { s with heap := h', toks := tk' }) →
    wpAny (model PySem.Challenge.rw_no0501_01.row.prog w) (ktrTop dp un gd cn cs L a ccd cl outer) (call (.ref f) vs) Q E s

theorem ct_use {w : World} {d : Nat} {f : Addr} {vs : List Value} {news : List (Addr × Obj)} {Out : Value → List (Addr × Obj) → Prop} (C : Ct w d f vs news Out)
  {mean : ExcName → Option Value} {mg mb : Str → Option Value} {dp un : Nat} {gd : Option (List Code)} {cn : Str} {cs : Scope} {a : Addr} {ccd : Value} {cl : List (Str × Addr)} {outer : List Env} {A₀ : Around} {base h₀ : Heap} {L : Addr} {m : Str → Option Value} {s : Shared}
    {Q E : Value → Shared → Prop} (B : Below A₀ base outer h₀) (F : Fr h₀ L s.heap m) (X : (Mine.hd.heap_39 w.params).In h₀) (N : News h₀ L s.heap news) (T : Top Mine.hd.view_39 (looseW Mine.hd.view_39 []) mean mg mb h₀) (hk : cs.kind = .function) (hd : dp + d < recursionLimit) (hu : un + 8 * d < cLine)
    (ret : ∀ r news' h' tk', Out r news' → Fr h₀ L h' m → News h₀ L h' news' → Q r { s with heap := h', toks := tk' }) :
    wpAny (model PySem.Challenge.rw_no0501_01.row.prog w) (ktrTop dp un gd cn cs L a ccd cl outer) (call (.ref f) vs) Q E s :=
  C _ _ _ _ _ _ _ _ _ _ _ _ _ _ _ _ _ _ _ _ B F X N T hk hd hu ret

theorem ct_use2 {w : World} {d : Nat} {f : Addr} {vs : List Value} {news : List (Addr × Obj)} {Out : Value → List (Addr × Obj) → Prop}
  {mean : ExcName → Option Value} {mg mb : Str → Option Value} {dp un : Nat} {gd : Option (List Code)} {cn : Str} {cs : Scope} {a : Addr} {ccd : Value} {cl : List (Str × Addr)} {outer : List Env} {A₀ : Around} {base h₀ : Heap} {L : Addr} {m : Str → Option Value} {s : Shared}
    {Q E : Value → Shared → Prop} (B : Below A₀ base outer h₀) (F : Fr h₀ L s.heap m) (X : (Mine.hd.heap_39 w.params).In h₀) (N : News h₀ L s.heap news) (T : Top Mine.hd.view_39 (looseW Mine.hd.view_39 []) mean mg mb h₀) (hk : cs.kind = .function) (hd : dp + d < recursionLimit) (hu : un + 8 * d < cLine)
    (C : Ct w d f vs news Out)
    (ret : ∀ r news' h' tk', Out r news' → Fr h₀ L h' m → News h₀ L h' news' → Q r { s with heap := h', toks := tk' }) :
    wpAny (model PySem.Challenge.rw_no0501_01.row.prog w) (ktrTop dp un gd cn cs L a ccd cl outer) (call (.ref f) vs) Q E s :=
  C _ _ _ _ _ _ _ _ _ _ _ _ _ _ _ _ _ _ _ _ B F X N T hk hd hu ret
theorem noPy {x y : Int} (h : y.natAbs ≤ 10000000000000000000000000000000000000000000000000000000000000000000000000000000000000000000000000000) : Builtin.divisionGoesByPylong x y = false := by
  refine PyProof.noPylong_of_log2 ?_
  by_cases h0 : y.natAbs = 0
  · rw [h0]; decide +kernel
  · have h1 : y.natAbs.log2 < 340 := (Nat.log2_lt h0).mpr (Nat.lt_of_le_of_lt h (by decide +kernel))
    omega
noncomputable abbrev tup2 (x y : Value) : Obj := { cls := .type "tuple", data := .seq #[x, y] }
/-- texts by the list of their signs' numbers -/
noncomputable def ST (l : List Nat) : Str := ⟨l.toArray⟩
/-- the decimal digits' signs -/
noncomputable def nd (m : Nat) : List Nat := (Nat.toDigits 10 m).map Char.toNat
noncomputable def itext (n : Int) : List Nat := if n < 0 then 45 :: nd n.natAbs else nd n.natAbs
theorem ST_len (l : List Nat) : (ST l).length = l.length := by simp [ST, Str.length]
theorem ST_list (l : List Nat) : (ST l).cps.toList = l := by simp [ST]
theorem ST_of (x : Str) : x = ST x.cps.toList := by cases x; simp [ST]
theorem ST_append (a b : List Nat) : ST a ++ ST b = ST (a ++ b) := Str.ext' (by rw [Str.cps_append]; simp [ST])
theorem ST_ofString (s : String) : Str.ofString s = ST (s.toList.map Char.toNat) := by rw [Str.ofString_eq_toList]; rfl
theorem ST_int (n : Int) : Str.ofString (toString n) = ST (itext n) := by
  cases n with
  | ofNat m =>
    rw [ST_of (Str.ofString (toString (Int.ofNat m)))]
    congr 1
    have h : ¬ (Int.ofNat m < 0) := by simp
    rw [itext, if_neg h]
    exact KIN.signs_num m
  | negSucc m =>
    rw [ST_ofString]
    congr 1
    have h : (Int.negSucc m < 0) := Int.negSucc_lt_zero m
    rw [itext, if_pos h]
    show ("-" ++ Nat.repr (m+1)).toList.map Char.toNat = _
    rw [String.toList_append, List.map_append, Nat.toList_repr]
    rfl
/-- the value is a pair of ints: one of the top's three, or one of the ledger -/
inductive PairAt (news : List (Addr × Obj)) : Value → Int → Int → Prop
  | nan : PairAt news (.ref 15) 0 0
  | inf : PairAt news (.ref 16) 1 0
  | zero : PairAt news (.ref 17) 0 1
  | new {a : Addr} {p q : Int} {t1 t2 : Tok} : (a, tup2 (.int p t1) (.int q t2)) ∈ news → PairAt news (.ref a) p q
theorem PairAt.mono {news news' : List (Addr × Obj)} {v : Value} {p q : Int} (h : PairAt news v p q) (hs : ∀ x ∈ news, x ∈ news') : PairAt news' v p q := by
  cases h with
  | nan => exact .nan
  | inf => exact .inf
  | zero => exact .zero
  | new hm => exact .new (hs _ hm)
/-- a frame's map with the named values in front -/
noncomputable def pin (ps : List (Str × Value)) (u : Str → Option Value) : Str → Option Value := fun z => match ps.lookup z with | some v => some v | none => u z
theorem lookup_mem9 {z : Str} {v : Value} : ∀ {ps : List (Str × Value)}, ps.lookup z = some v → (z, v) ∈ ps
  | [], h => by cases h
  | (y, w) :: r, h => by
    rw [List.lookup_cons] at h
    by_cases e : (z == y) = true
    · rw [e] at h
      have e2 : z = y := beq_iff_eq.mp e
      obtain rfl := Option.some.inj h
      rw [e2]; exact .head _
    · rw [Bool.not_eq_true] at e
      rw [e] at h
      exact .tail _ (lookup_mem9 h)
theorem pin_eq {ps : List (Str × Value)} {m : Str → Option Value} (hp : ∀ p ∈ ps, m p.1 = some p.2) : pin ps m = m := by
  funext z
  unfold pin
  split
  · rename_i v h
    exact (hp _ (lookup_mem9 h)).symm
  · rfl
theorem fr_pin {h₀ h : Heap} {L : Addr} {ps : List (Str × Value)} {m : Str → Option Value} (F : Fr h₀ L h m) (hp : ∀ p ∈ ps, m p.1 = some p.2) : Fr h₀ L h (pin ps m) := by
  rw [pin_eq hp]; exact F
/-- the state behind a statement: the named values, the ledger, what is known -/
noncomputable def Mid {σ : Type} (g : Heap) (L : Addr) (s : Shared) (ps : σ → List (Str × Value)) (led : σ → List (Addr × Obj)) (P : σ → Prop) (s' : Shared) : Prop :=
  ∃ c u h tk, s' = { s with heap := h, toks := tk } ∧ Fr g L h (pin (ps c) u) ∧ News g L h (led c) ∧ P c
noncomputable def MidOK {σ : Type} (g : Heap) (L : Addr) (s : Shared) (ps : σ → List (Str × Value)) (led : σ → List (Addr × Obj)) (P : σ → Prop) (Q : Flow → Shared → Prop) (f : Flow) (s' : Shared) : Prop :=
  match f with
  | .next => Mid g L s ps led P s'
  | f => Q f s'
theorem Mid.intro {σ : Type} {g h : Heap} {L : Addr} {s : Shared} {tk : Nat} {ps : σ → List (Str × Value)} {led : σ → List (Addr × Obj)} {P : σ → Prop} {m : Str → Option Value} {news : List (Addr × Obj)} (c : σ)
    (F : Fr g L h m) (N : News g L h news) (hp : ∀ p ∈ ps c, m p.1 = some p.2) (hn : ∀ p ∈ led c, p ∈ news) (hP : P c) : Mid g L s ps led P { s with heap := h, toks := tk } :=
  ⟨c, m, h, tk, rfl, fr_pin F hp, fun p hq => N p (hn p hq), hP⟩
theorem MidOK.ret {σ : Type} {g : Heap} {L : Addr} {s s' : Shared} {ps : σ → List (Str × Value)} {led : σ → List (Addr × Obj)} {P : σ → Prop} {Q : Flow → Shared → Prop} {v : Value} (h : Q (.ret v) s') : MidOK g L s ps led P Q (.ret v) s' := h
theorem and_no1 {a b : Bool} (h : a = false) : ¬ (a = true ∧ b = true) := by rw [h]; simp
theorem and_no2 {a b : Bool} (h : b = false) : ¬ (a = true ∧ b = true) := by rw [h]; simp
theorem cut9 {σ : Type} {M : Model} {A : Around} {E : Value → Shared → Prop} {Q : Flow → Shared → Prop} {s : Shared} {st : Stmt} {rest : List Stmt} {env : Env} {g : Heap} {L : Addr} (ps : σ → List (Str × Value)) (led : σ → List (Addr × Obj)) (P : σ → Prop) {m : Str → Option Value}
    (_F : Fr g L s.heap m)
    (h1 : wpAny M A (exec st env) (MidOK g L s ps led P Q) E s)
    (h2 : ∀ c u h tk, P c → Fr g L h (pin (ps c) u) → News g L h (led c) → wpAny M A (execs rest env) Q E { s with heap := h, toks := tk }) :
    wpAny M A (execs (st :: rest) env) Q E s := by
  refine wpAny_execs_cons (wpAny_mono h1 (fun f s' hq => ?_) fun _ _ e => e)
  cases f with
  | next =>
    obtain ⟨c, u, h, tk, rfl, F, N, hP⟩ := hq
    exact h2 c u h tk hP F N
  | _ => exact hq
/-- fills the walk's table of the written part -/
theorem fillNow : PySem.Challenge.rw_no0501_01.prog = PySem.Challenge.rw_no0501_01.prog ∧ Mine.hd.heap_39 = Mine.hd.heap_39 := by
  k_fill
  exact ⟨rfl, rfl⟩
end Mine
namespace Mine
local macro_rules | `(tactic| k_all) => `(tactic| assumption)
theorem fmod_in {x b : Int} (hb : 0 < b) : 0 ≤ x.fmod b ∧ x.fmod b < b := by
  rw [Int.fmod_eq_emod_of_nonneg _ (by omega)]
  exact ⟨Int.emod_nonneg _ (by omega), Int.emod_lt_of_pos _ hb⟩
noncomputable abbrev poolO (fa : Addr) (i : Int) (ti : Tok) (mx : Int) (tm : Tok) (n : Nat) : Obj := W.listOf #[.ref fa, .int i ti, .int mx tm] n
theorem pick_ct (w : World) (pa fa : Addr) (i mx b : Int) (ti tm tb : Tok) (n nf : Nat) (vs : List Value) (ns : List Int) (rest : List (Addr × Obj)) (hI : IntsAre vs ns) (hlen : ns.length < 2 ^ 62) (hi : 0 ≤ i) (hb : 0 < b) (hne : pa ≠ fa) (hne2 : fa ≠ pa) (hra : ∀ p ∈ rest, p.1 ≠ pa) :
    Ct w 1 136 [.ref pa, .int b tb] ((pa, poolO fa i ti mx tm n) :: (fa, W.listOf vs.toArray nf) :: rest)
     (fun r news' => ∃ x t i' ti' mx' tm' n', r = .int x t ∧ 0 ≤ x ∧ x < b ∧ 0 ≤ i' ∧ (pa, poolO fa i' ti' mx' tm' n') :: (fa, W.listOf vs.toArray nf) :: rest = news') := by
  k_with_none
  w_top off
  k_with "execs nil" => ((with_reducible refine wpAny_execs_nil ?_))
  k_with "execs cons" => ((with_reducible refine wpAny_execs_cons ?_))
  k_with "exec If" => ((with_reducible refine wpAny_If ?_))
  unfold Ct
  intro mean mg mb dp un gd cn cs a ccd cl outer A₀ base h₀ L m s Q E B F X N T hk hd hu hret
  refine wpAny_call ?_
  k_dflt ktr_enter
  k_steps
  all_goals (rename Fr h₀ _ _ _ => F8; rename News h₀ _ _ _ => N8)
  · exact hret _ _ _ _ ⟨_, _, _, _, _, _, _, rfl, (fmod_in hb).1, (fmod_in hb).2, by omega, rfl⟩ F8 N8
  · exact hret _ _ _ _ ⟨_, _, _, _, _, _, _, rfl, (fmod_in hb).1, (fmod_in hb).2, hi, rfl⟩ F8 N8
  · exact hret _ _ _ _ ⟨_, _, _, _, _, _, _, rfl, (fmod_in hb).1, (fmod_in hb).2, hi, rfl⟩ F8 N8

theorem pick_use {w : World} {pa fa : Addr} {i mx b : Int} {ti tm tb : Tok} {n nf : Nat} {vs : List Value} {ns : List Int} {rest : List (Addr × Obj)}
  {mean : ExcName → Option Value} {mg mb : Str → Option Value} {dp un : Nat} {gd : Option (List Code)} {cn : Str} {cs : Scope} {a : Addr} {ccd : Value} {cl : List (Str × Addr)} {outer : List Env} {A₀ : Around} {base h₀ : Heap} {L : Addr} {m : Str → Option Value} {s : Shared}
    {Q E : Value → Shared → Prop} (B : Below A₀ base outer h₀) (F : Fr h₀ L s.heap m) (X : (Mine.hd.heap_39 w.params).In h₀) (N : News h₀ L s.heap ((pa, poolO fa i ti mx tm n) :: (fa, W.listOf vs.toArray nf) :: rest)) (T : Top Mine.hd.view_39 (looseW Mine.hd.view_39 []) mean mg mb h₀) (hk : cs.kind = .function) (hd : dp + 1 < recursionLimit) (hu : un + 8 * 1 < cLine)
    (hI : IntsAre vs ns) (hlen : ns.length < 2 ^ 62) (hi : 0 ≤ i) (hb : 0 < b) (hne : pa ≠ fa) (hne2 : fa ≠ pa) (hra : ∀ p ∈ rest, p.1 ≠ pa)
    (ret : ∀ x t i' ti' mx' tm' n' h' tk', 0 ≤ x → x < b → 0 ≤ i' → Fr h₀ L h' m → News h₀ L h' ((pa, poolO fa i' ti' mx' tm' n') :: (fa, W.listOf vs.toArray nf) :: rest) → Q (.int x t) { s with heap := h', toks := tk' }) :
    wpAny (model PySem.Challenge.rw_no0501_01.row.prog w) (ktrTop dp un gd cn cs L a ccd cl outer) (call (.ref 136) [.ref pa, .int b tb]) Q E s :=
  ct_use (pick_ct w pa fa i mx b ti tm tb n nf vs ns rest hI hlen hi hb hne hne2 hra) B F X N T hk hd hu fun r news' h' tk' ⟨x, t, i', ti', mx', tm', n', e, h1, h2, h3, e2⟩ F' N' => by
    subst e; subst e2; exact ret x t i' ti' mx' tm' n' h' tk' h1 h2 h3 F' N'
theorem news_f1 {h₀ h : Heap} {L : Addr} {a b c : Addr × Obj} {l : List (Addr × Obj)} (N : News h₀ L h (c :: a :: b :: l)) : News h₀ L h (a :: b :: c :: l) := fun p hp => N p (by
  simp only [List.mem_cons] at hp ⊢; rcases hp with h | h | h | h <;> simp only [h, true_or, or_true])
theorem news_f2 {h₀ h : Heap} {L : Addr} {a b c d : Addr × Obj} {l : List (Addr × Obj)} (N : News h₀ L h (c :: d :: a :: b :: l)) : News h₀ L h (a :: b :: c :: d :: l) := fun p hp => N p (by
  simp only [List.mem_cons] at hp ⊢; rcases hp with h | h | h | h | h <;> simp only [h, true_or, or_true])
theorem news_f3 {h₀ h : Heap} {L : Addr} {a b c d e : Addr × Obj} {l : List (Addr × Obj)} (N : News h₀ L h (c :: d :: e :: a :: b :: l)) : News h₀ L h (a :: b :: c :: d :: e :: l) := fun p hp => N p (by
  simp only [List.mem_cons] at hp ⊢; rcases hp with h | h | h | h | h | h <;> simp only [h, true_or, or_true])

end Mine
namespace Mine
theorem ints_app : ∀ {us : List Value} {ns : List Int}, IntsAre us ns → ∀ (x : Int) (t : Tok), IntsAre (us ++ [Value.int x t]) (ns ++ [x])
  | _, _, .nil, x, t => .cons x t .nil
  | _, _, .cons y u r, x, t => .cons y u (ints_app r x t)
set_option linter.unusedSimpArgs false
theorem len_snoc {h₀ h : Heap} {L l : Addr} {p : Addr × Obj} {r : List (Addr × Obj)} {us : List Value} {ns : List Int} {x : Int} {t : Tok} {c : Nat} (_N : News h₀ L h (p :: (l, W.listOf (us ++ [Value.int x t]).toArray c) :: r)) (h : IntsAre us ns) :
    IntsAre (us ++ [Value.int x t]) (ns ++ [x]) ∧ (us ++ [Value.int x t]).length = (ns ++ [x]).length ∧ (ns ++ [x]).length = ns.length + 1 := ⟨ints_app h x t, (ints_app h x t).length, by simp⟩
theorem pool_sub1 {h₀ h : Heap} {L : Addr} {a b c : Addr × Obj} {l o : List (Addr × Obj)} (N : News h₀ L h (a :: b :: c :: (l ++ o))) : News h₀ L h (a :: c :: l) := fun p hp => N p (by
  simp only [List.mem_cons, List.mem_append] at hp ⊢; rcases hp with h | h | h <;> simp only [h, true_or, or_true])
theorem pool_sub2 {h₀ h : Heap} {L : Addr} {a b c : Addr × Obj} {l : List (Addr × Obj)} (N : News h₀ L h (a :: b :: c :: l)) : News h₀ L h (a :: c :: l) := fun p hp => N p (by
  simp only [List.mem_cons] at hp ⊢; rcases hp with h | h | h <;> simp only [h, true_or, or_true])
theorem pool_ct (w : World) (l : Addr) (vs : List Value) (ns : List Int) (hI : IntsAre vs ns) (hlen : ns.length ≤ 63) (news : List (Addr × Obj)) :
  ∀ (mean : ExcName → Option Value) (mg mb : Str → Option Value) (dp un : Nat) (gd : Option (List Code)) (cn : Str) (cs : Scope) (a : Addr) (ccd : Value) (cl : List (Str × Addr)) (outer : List Env) (A₀ : Around) (base h₀ : Heap) (L : Addr) (m : Str → Option Value) (s : Shared)
    (Q E : Value → Shared → Prop),
    Below A₀ base outer h₀ → Fr h₀ L s.heap m → (Mine.hd.heap_39 w.params).In h₀ → News h₀ L s.heap news → Top Mine.hd.view_39 (looseW Mine.hd.view_39 []) mean mg mb h₀ → cs.kind = .function → base.IsList l vs.toArray → dp + 1 < recursionLimit → un + 8 * 1 < cLine →
    (∀ pa fa i ti mx tm n nf vs2 ns2 h' tk', IntsAre vs2 ns2 → ns2.length < 2 ^ 62 → 0 ≤ i → fa < pa → (∀ p ∈ news, p.1 < fa) → Fr h₀ L h' m → News h₀ L h' ((pa, poolO fa i ti mx tm n) :: (fa, W.listOf vs2.toArray nf) :: news) → Q (.ref pa) { s with heap := h', toks := tk' }) →
    wpAny (model PySem.Challenge.rw_no0501_01.row.prog w) (ktrTop dp un gd cn cs L a ccd cl outer) (call (.ref 129) [.ref l]) Q E s := by
  k_with_none
  w_top off
  k_with "binaryOp FloorDiv int int" => (((with_reducible refine floordiv_int ?_ ?_ (Or.inl (noPy ?_))); omega; rotate_left; omega))
  k_with "binaryOp Mod int int" => (((with_reducible refine mod_int' ?_ ?_ (Or.inl (noPy ?_))); omega; rotate_left; omega))
  k_with "call builtin:len" => ((k_here; (with_reducible show wpAny _ _ (call (Value.builtin "len") [Value.ref _]) _ _ _); (rename News _ _ _ _ => nE9); (simp only [List.push_toArray] at nE9); (have hS9 := len_snoc nE9 (by assumption)); (obtain ⟨hS8, hS7, hS6⟩ := hS9); k_dflt (refine kst_len nE9 (.tail _ (.head _)) hS7 (by omega) ?_)))
  intro mean mg mb dp un gd cn cs a ccd cl outer A₀ base h₀ L m s Q E B F X N T hk hL hd hu hret
  refine wpAny_call ?_
  k_dflt cell_enter
  k_with "pyIter ref" => k_dflt first
    | k_state_given ["figures!"] (fun f0 pre fs r => fs.length ≤ f0.length + pre.length) "figures" "rest"
    | k_state (fun pre fs mx => fs.length ≤ 60 * pre.length) "figures" "mix"
  k_steps
  all_goals (rename News _ _ _ _ => N8; (try simp only [List.push_toArray] at N8))
  all_goals (rename Fr h₀ _ _ _ => F8)
  all_goals (try simp only [List.append_assoc] at N8)
  all_goals (rename _ ∧ _ ∧ AllLt _ _ => l8)
  all_goals (try simp only [rangeKs_length] at *)
  · refine hret _ _ _ _ _ _ _ _ _ _ _ _ (by assumption) ?_ ?_ l8.2.1 ?_ F8 (pool_sub1 N8)
    all_goals first | assumption | omega
  · refine hret _ _ _ _ _ _ _ _ _ _ _ _ (by assumption) ?_ ?_ l8.2.1 ?_ F8 (pool_sub1 N8)
    all_goals first | assumption | omega
  · refine hret _ _ _ _ _ _ _ _ _ _ _ _ (by assumption) ?_ ?_ l8.2.1 ?_ F8 (pool_sub2 N8)
    all_goals first | assumption | omega

end Mine
namespace Mine
section
variable {prog : Program} {w : World} {A : Around} {E : Value → Shared → Prop} {s : Shared} {env : Env} {h₀ : Heap} {L : Addr} {m : Str → Option Value} {news : List (Addr × Obj)}
theorem item_tab {value slice : Expr} {l : Addr} {vs : List Value} {ys : List Str} {k : Int} {u : Tok} {n : Nat} {Q : Value → Shared → Prop} (N : News h₀ L s.heap news) (hm : (l, W.listOf vs.toArray n) ∈ news) (hi : StrsAre vs ys) (h0 : 0 ≤ k) (hk : k < ys.length) (hlen : ys.length ≤ 100) (hl : ∀ y ∈ ys, y.length ≤ 8) (h : ∀ r t, r ∈ ys → r.length ≤ 8 → Q (.str r t) s)
    (hs : subscripted slice false (.ref l) (.int k u) = operate [.ref l, .int k u] (getItem (.ref l) (.int k u)) := by with_unfolding_all rfl) :
    wpAny (model prog w) A (subscriptTail value slice (.ref l) (.int k u)) Q E s := by
  refine item_strsR (N.isList hm) hi h0 hk (by omega) (fun t => ?_) hs
  have hlt : k.toNat < ys.length := by omega
  have e : ys.getD k.toNat Str.empty = ys[k.toNat] := by simp [List.getD, hlt]
  rw [e]
  exact h _ t (List.getElem_mem hlt) (hl _ (List.getElem_mem hlt))
end

end Mine
namespace Mine
noncomputable def hv (c : Nat) : Int := Txt.find (Str.ofString "0123456789abcdef") (Txt.lower ⟨#[c]⟩)
noncomputable def dvI (b : Int) (l : List Int) : Int := l.foldl (fun v c => v * b + hv c.toNat) 0
theorem dvI_snoc (b : Int) (l : List Int) (n : Nat) : dvI b (l ++ [(n : Int)]) = dvI b l * b + hv n := by
  unfold dvI; rw [List.foldl_append]; rfl
theorem digits_value_ct (w : World) (x : Str) (b : Int) (tx tb : Tok) (news : List (Addr × Obj)) (hx : x.length ≤ 1000000) (hb : 0 ≤ b ∧ b ≤ 16) :
    Ct w 1 87 [.str x tx, .int b tb] news (fun r news' => news = news' ∧ ∃ t, r = .int (dvI b (KStt.codes x)) t) := by
  k_with_none
  w_top off
  k_with "binaryOp FloorDiv int int" => (((with_reducible refine floordiv_int ?_ ?_ (Or.inl (noPy ?_))); omega; rotate_left; omega))
  k_with "binaryOp Mod int int" => (((with_reducible refine mod_int' ?_ ?_ (Or.inl (noPy ?_))); omega; rotate_left; omega))
  unfold Ct
  intro mean mg mb dp un gd cn cs a ccd cl outer A₀ base h₀ L m s Q E B F X N T hk hd hu hret
  refine wpAny_call ?_
  k_dflt ktr_enter
  k_with "pyIter str" => k_dflt (k_state (fun pre v => v = dvI b pre) "value")
  k_with "state" => first | (rw [dvI_snoc]; subst_vars; rfl) | rfl
  k_steps
  subst_vars
  exact hret _ _ _ _ ⟨rfl, _, rfl⟩ (by assumption) (by assumption)

end Mine
namespace Mine
noncomputable def pd (y : Str) (c : Nat) : Bool := Txt.contains y (Txt.lower ⟨#[c]⟩)
noncomputable def runEnd (y x : Str) (i : Int) : Int := i + ((x.cps.toList.drop i.toNat).takeWhile (pd y)).length
theorem item_at {x : Str} {i : Int} (h0 : 0 ≤ i) (h1 : i < x.length) : ∃ c, x.cps.toList.drop i.toNat = c :: x.cps.toList.drop (i.toNat + 1) ∧ Txt.item x i = ⟨#[c]⟩ := by
  have hl : i.toNat < x.cps.size := by show i.toNat < x.length; omega
  refine ⟨x.cps[i.toNat], ?_, item_meets h0 (by simp [hl])⟩
  rw [List.drop_eq_getElem_cons (by simpa using hl)]
  simp
theorem run_step {x y : Str} {i k : Int} (h0 : 0 ≤ i) (h1 : i < x.length) (h2 : runEnd y x i = runEnd y x k) (h : (Builtin.Str.occurrences y (Txt.lower (Txt.item x i)) 0 y.length 1).isEmpty = false) :
    0 ≤ i + 1 ∧ i + 1 ≤ x.length ∧ runEnd y x (i + 1) = runEnd y x k := by
  refine ⟨by omega, by omega, ?_⟩
  rw [← h2]
  obtain ⟨c, e1, e2⟩ := item_at h0 h1
  unfold runEnd
  have e3 : (i + 1).toNat = i.toNat + 1 := by omega
  have hp : pd y c = true := by
    unfold pd Txt.contains
    rw [← e2, h]; rfl
  rw [e1, e3, List.takeWhile_cons, hp]
  simp only [if_true, List.length_cons]
  omega
theorem run_stop {x y : Str} {i : Int} (h0 : 0 ≤ i) (h1 : i < x.length) (h : (Builtin.Str.occurrences y (Txt.lower (Txt.item x i)) 0 y.length 1).isEmpty = true) : runEnd y x i = i := by
  obtain ⟨c, e1, e2⟩ := item_at h0 h1
  unfold runEnd
  have hp : pd y c = false := by
    unfold pd Txt.contains
    rw [← e2, h]; rfl
  rw [e1, List.takeWhile_cons, hp]
  simp
theorem run_out {x y : Str} {i : Int} (h0 : 0 ≤ i) (h1 : ¬ i < x.length) : runEnd y x i = i := by
  unfold runEnd
  have hl : x.cps.toList.length = x.length := by simp [Str.length]
  rw [List.drop_eq_nil_of_le (by omega)]
  simp
theorem sl1 {x y : Str} (h : (Txt.slice x none (some 1) == y) = true) (hl : (Txt.slice x none (some 1)).length ≤ x.length) (hy : y.length = 1) : (1 : Int) ≤ x.length := by
  rw [beq_iff_eq.mp h, hy] at hl
  omega
theorem digit_run_ct (w : World) (x y : Str) (k : Int) (tx ty tk : Tok) (news : List (Addr × Obj)) (hx : x.length ≤ 1000000) (h0 : 0 ≤ k) (h1 : k ≤ x.length) :
    Ct w 1 94 [.str x tx, .int k tk, .str y ty] news (fun r news' => news = news' ∧ ∃ e t, r = .int e t ∧ e = runEnd y x k ∧ k ≤ e ∧ e ≤ x.length) := by
  k_with_none
  w_top off
  k_with "binaryOp FloorDiv int int" => (((with_reducible refine floordiv_int ?_ ?_ (Or.inl (noPy ?_))); omega; rotate_left; omega))
  k_with "binaryOp Mod int int" => (((with_reducible refine mod_int' ?_ ?_ (Or.inl (noPy ?_))); omega; rotate_left; omega))
  unfold Ct
  intro mean mg mb dp un gd cn cs a ccd cl outer A₀ base h₀ L m s Q E B F X N T hk hd hu hret
  refine wpAny_call ?_
  k_dflt ktr_enter
  k_with "exec While BoolOp cons nil" => k_dflt (k_while (fun _ i => 0 ≤ i ∧ i ≤ x.length ∧ runEnd y x i = runEnd y x k) (fun _ i => x.length - i.toNat) "at")
  k_with "state" => first | exact ⟨h0, h1, rfl⟩ | exact run_step (by assumption) (by assumption) (by assumption) (by assumption)
  k_steps
  · rename runEnd y x _ = runEnd y x k => hr
    refine hret _ _ _ _ ⟨rfl, _, _, rfl, ?_, ?_, by assumption⟩ (by assumption) (by assumption)
    · rw [← hr]; exact (run_stop (by assumption) (by assumption) (by assumption)).symm
    · have e8 := run_stop (x := x) (y := y) (by assumption) (by assumption) (by assumption)
      rw [← e8, hr]; unfold runEnd; omega
  · rename runEnd y x _ = runEnd y x k => hr
    refine hret _ _ _ _ ⟨rfl, _, _, rfl, ?_, ?_, by assumption⟩ (by assumption) (by assumption)
    · rw [← hr]; exact (run_out (by assumption) (by assumption)).symm
    · have e8 := run_out (x := x) (y := y) (by assumption) (by assumption)
      rw [← e8, hr]; unfold runEnd; omega

end Mine
namespace Mine
/-- what exponent_value gives -/
noncomputable def expV (x : Str) (st : Int) : Bool × Int :=
  if st = x.length then (false, 0) else if runEnd (Str.ofString "0123456789") x st ≠ x.length then (false, 0)
  else (true, if (Txt.item x 0 == Str.ofString "-") = true then 0 - (if 9 < (x.length : Int) - st then (10 : Int) ^ Int.toNat 6 else if (10 : Int) ^ Int.toNat 6 < dvI 10 (KStt.codes (Txt.slice x (some st) (some (st + 9)))) then (10 : Int) ^ Int.toNat 6 else dvI 10 (KStt.codes (Txt.slice x (some st) (some (st + 9)))))
      else (if 9 < (x.length : Int) - st then (10 : Int) ^ Int.toNat 6 else if (10 : Int) ^ Int.toNat 6 < dvI 10 (KStt.codes (Txt.slice x (some st) (some (st + 9)))) then (10 : Int) ^ Int.toNat 6 else dvI 10 (KStt.codes (Txt.slice x (some st) (some (st + 9))))))
noncomputable def expSpec (x : Str) : Bool × Int := expV x (if (Txt.slice x none (some 1) == Str.ofString "-") = true ∨ (Txt.slice x none (some 1) == Str.ofString "+") = true then 1 else 0)
section
variable {x : Str} {st i : Int} {b : Bool} {v : Int}
theorem exp1 (h : (Txt.slice x none (some 1) == Str.ofString "-") = true) (e : (b, v) = expV x 1) : (b, v) = expSpec x := by
  rw [e, expSpec, if_pos (Or.inl h)]
theorem exp2 (h : (Txt.slice x none (some 1) == Str.ofString "+") = true) (e : (b, v) = expV x 1) : (b, v) = expSpec x := by
  rw [e, expSpec, if_pos (Or.inr h)]
theorem exp0 (h1 : (Txt.slice x none (some 1) == Str.ofString "-") = false) (h2 : (Txt.slice x none (some 1) == Str.ofString "+") = false) (e : (b, v) = expV x 0) : (b, v) = expSpec x := by
  rw [e, expSpec, if_neg (by rw [h1, h2]; decide)]
theorem expA (h : st = x.length) : (false, 0) = expV x st := by rw [expV, if_pos h]
theorem expB (h : st ≠ x.length) (hi : i = runEnd (Str.ofString "0123456789") x st) (h2 : i ≠ x.length) : (false, 0) = expV x st := by rw [expV, if_neg h, if_pos (by rw [← hi]; exact h2)]
theorem expC (h : st ≠ x.length) (hi : i = runEnd (Str.ofString "0123456789") x st) (h2 : i = x.length) (h3 : 9 < (x.length : Int) - st) (h4 : (Txt.item x 0 == Str.ofString "-") = true) : (true, 0 - (10 : Int) ^ Int.toNat 6) = expV x st := by
  rw [expV, if_neg h, if_neg (by rw [← hi, h2]; simp), if_pos h4, if_pos h3]
theorem expD (h : st ≠ x.length) (hi : i = runEnd (Str.ofString "0123456789") x st) (h2 : i = x.length) (h3 : 9 < (x.length : Int) - st) (h4 : (Txt.item x 0 == Str.ofString "-") = false) : (true, (10 : Int) ^ Int.toNat 6) = expV x st := by
  rw [expV, if_neg h, if_neg (by rw [← hi, h2]; simp), if_neg (by rw [h4]; simp), if_pos h3]
theorem expE (h : st ≠ x.length) (hi : i = runEnd (Str.ofString "0123456789") x st) (h2 : i = x.length) (h3 : ¬ 9 < (x.length : Int) - st) (h4 : (Txt.item x 0 == Str.ofString "-") = true) : (true, 0 - (if (10 : Int) ^ Int.toNat 6 < dvI 10 (KStt.codes (Txt.slice x (some st) (some (st + 9)))) then (10 : Int) ^ Int.toNat 6 else dvI 10 (KStt.codes (Txt.slice x (some st) (some (st + 9)))))) = expV x st := by
  rw [expV, if_neg h, if_neg (show ¬ (runEnd (Str.ofString "0123456789") x st ≠ x.length) by rw [← hi, h2]; simp), if_pos h4, if_neg h3]
theorem expF (h : st ≠ x.length) (hi : i = runEnd (Str.ofString "0123456789") x st) (h2 : i = x.length) (h3 : ¬ 9 < (x.length : Int) - st) (h4 : (Txt.item x 0 == Str.ofString "-") = false) : (true, (if (10 : Int) ^ Int.toNat 6 < dvI 10 (KStt.codes (Txt.slice x (some st) (some (st + 9)))) then (10 : Int) ^ Int.toNat 6 else dvI 10 (KStt.codes (Txt.slice x (some st) (some (st + 9)))))) = expV x st := by
  rw [expV, if_neg h, if_neg (show ¬ (runEnd (Str.ofString "0123456789") x st ≠ x.length) by rw [← hi, h2]; simp), if_neg (show ¬ ((Txt.item x 0 == Str.ofString "-") = true) by rw [h4]; simp), if_neg h3]
end
theorem exp_ct (w : World) (x : Str) (tx : Tok) (news : List (Addr × Obj)) (hx : x.length ≤ 1000) :
    Ct w 2 101 [.str x tx] news (fun r news' => ∃ a b v t, r = .ref a ∧ (a, tup2 (.bool b) (.int v t)) :: news = news' ∧ (b, v) = expSpec x ∧ (∀ p ∈ news, p.1 < a)) := by
  k_with_none
  w_top off
  k_with "binaryOp FloorDiv int int" => (((with_reducible refine floordiv_int ?_ ?_ (Or.inl (noPy ?_))); omega; rotate_left; omega))
  k_with "binaryOp Mod int int" => (((with_reducible refine mod_int' ?_ ?_ (Or.inl (noPy ?_))); omega; rotate_left; omega))
  k_with "call ref" => ((k_here; (with_reducible show wpAny _ _ (call (Value.ref 87) _) _ _ _); k_dflt (refine ct_use2 (by k_asm) (by k_asm) (by k_asm) (by k_asm) (by k_asm) (by first | exact rfl | assumption) (by ktr_room) (by ktr_units) (digits_value_ct _ _ _ _ _ _ (by first | with_reducible assumption | omega) (by omega)) ?_; intro r9 news9 h9 tk9 ho9 F9 N9; (try dsimp only at ho9); obtain ⟨e8, t9, e9⟩ := ho9; subst e8; subst e9; (all_goals (try dsimp only at N9)); (all_goals (try dsimp only)); (all_goals (try k_sweep)); (all_goals (try k_fold)))))
  k_with "call ref" => ((k_here; (with_reducible show wpAny _ _ (call (Value.ref 94) _) _ _ _); k_dflt (refine ct_use2 (by k_asm) (by k_asm) (by k_asm) (by k_asm) (by k_asm) (by first | exact rfl | assumption) (by ktr_room) (by ktr_units) (digit_run_ct _ _ _ _ _ _ _ _ (by first | with_reducible assumption | omega) (by omega) (by first | with_reducible assumption | omega | exact sl1 (by with_reducible assumption) (by with_reducible assumption) (by decide) | exact sl_dot (by with_reducible assumption) (by with_reducible assumption))) ?_; intro r9 news9 h9 tk9 ho9 F9 N9; (try dsimp only at ho9); obtain ⟨e8, i9, t9, e9, ei9, hi9, hj9⟩ := ho9; subst e8; subst e9; (all_goals (try dsimp only at N9)); (all_goals (try dsimp only)); (all_goals (try k_sweep)); (all_goals (try k_fold)))))
  unfold Ct
  intro mean mg mb dp un gd cn cs a ccd cl outer A₀ base h₀ L m s Q E B F X N T hk hd hu hret
  refine wpAny_call ?_
  k_dflt ktr_enter
  k_steps
  all_goals refine hret _ _ _ _ ⟨_, _, _, _, rfl, rfl, ?_, by assumption⟩ (by assumption) (by assumption)
  all_goals with_reducible first | refine exp1 (by assumption) ?_ | refine exp2 (by assumption) ?_ | refine exp0 (by assumption) (by assumption) ?_
  all_goals with_reducible first | exact expA (by assumption) | exact expB (by assumption) (by assumption) (by assumption) | exact expC (by assumption) (by assumption) (by assumption) (by assumption) (by assumption) | exact expD (by assumption) (by assumption) (by assumption) (by assumption) (by assumption) | exact expE (by assumption) (by assumption) (by assumption) (by assumption) (by assumption) | exact expF (by assumption) (by assumption) (by assumption) (by assumption) (by assumption)

end Mine
namespace Mine
theorem gcd_step {x y a b : Int} (h1 : 0 ≤ a) (h2 : 0 ≤ b) (h4 : b ≤ 10000000000000000000000000000000000000000000000000000000000000000000000000000000000000000000000000000) (h3 : Nat.gcd a.toNat b.toNat = Int.gcd x y) (hb : 0 < b) :
    0 ≤ b ∧ 0 ≤ a.fmod b ∧ a.fmod b ≤ 10000000000000000000000000000000000000000000000000000000000000000000000000000000000000000000000000000 ∧ Nat.gcd b.toNat (a.fmod b).toNat = Int.gcd x y := by
  have e : a.fmod b = a % b := Int.fmod_eq_emod_of_nonneg a h2
  refine ⟨h2, by rw [e]; exact Int.emod_nonneg _ (by omega), by rw [e]; have := Int.emod_lt_of_pos a hb; omega, ?_⟩
  have e2 : (a % b).toNat = a.toNat % b.toNat := by
    rw [Int.toNat_emod h1 h2]
  rw [e, e2, ← h3, Nat.gcd_comm a.toNat, Nat.gcd_comm b.toNat (a.toNat % b.toNat)]
  exact (Nat.gcd_rec b.toNat a.toNat).symm
theorem gcd_meas {a b : Int} (h2 : 0 ≤ b) (hb : 0 < b) : (a.fmod b).toNat < b.toNat := by
  rw [Int.fmod_eq_emod_of_nonneg a h2]
  have := Int.emod_lt_of_pos a hb
  omega
theorem gcd_start {x y : Int} (hx : 0 ≤ x) (hy : 0 ≤ y) (hb : y ≤ 10000000000000000000000000000000000000000000000000000000000000000000000000000000000000000000000000000) : 0 ≤ x ∧ 0 ≤ y ∧ y ≤ 10000000000000000000000000000000000000000000000000000000000000000000000000000000000000000000000000000 ∧ Nat.gcd x.toNat y.toNat = Int.gcd x y := by
  refine ⟨hx, hy, hb, ?_⟩
  unfold Int.gcd
  congr 1 <;> omega
theorem gcd_end {x y a b : Int} (h1 : 0 ≤ a) (h2 : 0 ≤ b) (h3 : Nat.gcd a.toNat b.toNat = Int.gcd x y) (hb : ¬ 0 < b) (hy : 0 < y) : a = (Int.gcd x y : Nat) ∧ 0 < a ∧ a ≤ y := by
  have : b = 0 := by omega
  subst this
  have e : a = (Int.gcd x y : Nat) := by rw [← h3]; simp; omega
  have := Int.gcd_pos_of_ne_zero_right x (show y ≠ 0 by omega)
  have h9 : (Int.gcd x y : Int) ≤ y := Int.le_of_dvd hy (Int.gcd_dvd_right x y)
  exact ⟨e, by omega, by omega⟩
theorem gcd_ct (w : World) (x y : Int) (tx ty : Tok) (news : List (Addr × Obj)) (hx : 0 ≤ x) (hy : 0 < y) (hb : y ≤ 10000000000000000000000000000000000000000000000000000000000000000000000000000000000000000000000000000) :
    Ct w 1 24 [.int x tx, .int y ty] news (fun r news' => news = news' ∧ ∃ g t, r = .int g t ∧ g = (Int.gcd x y : Nat) ∧ 0 < g ∧ g ≤ y) := by
  k_with_none
  w_top off
  k_with "binaryOp FloorDiv int int" => (((with_reducible refine floordiv_int ?_ ?_ (Or.inl (noPy ?_))); omega; rotate_left; omega))
  k_with "binaryOp Mod int int" => (((with_reducible refine mod_int' ?_ ?_ (Or.inl (noPy ?_))); omega; rotate_left; omega))
  unfold Ct
  intro mean mg mb dp un gd cn cs a ccd cl outer A₀ base h₀ L m s Q E B F X N T hk hd hu hret
  refine wpAny_call ?_
  k_dflt ktr_enter
  k_with "exec While Compare cons nil" => k_while (fun _ a b => 0 ≤ a ∧ 0 ≤ b ∧ b ≤ 10000000000000000000000000000000000000000000000000000000000000000000000000000000000000000000000000000 ∧ Nat.gcd a.toNat b.toNat = Int.gcd x y) (fun _ a b => b.toNat) "a" "b"
  k_with "state" => first | exact gcd_step (by assumption) (by assumption) (by assumption) (by assumption) (by assumption) | exact gcd_start (by omega) (by omega) (by omega)
  k_with "measure" => exact gcd_meas (by assumption) (by assumption)
  k_steps
  refine hret _ _ _ _ ⟨rfl, _, _, rfl, ?_⟩ (by assumption) (by assumption)
  exact gcd_end (by assumption) (by assumption) (by assumption) (by assumption) hy

theorem make_ct (w : World) (x y : Int) (tx ty : Tok) (news : List (Addr × Obj)) (hx : 0 ≤ x) (hy : 0 < y) (hb : y ≤ 10000000000000000000000000000000000000000000000000000000000000000000000000000000000000000000000000000) :
    Ct w 2 31 [.int x tx, .int y ty] news (fun r news' => ∃ a p q t1 t2, r = .ref a ∧ (a, tup2 (.int p t1) (.int q t2)) :: news = news' ∧ p = x / (Int.gcd x y : Nat) ∧ q = y / (Int.gcd x y : Nat) ∧ ∀ p ∈ news, p.1 < a) := by
  k_with_none
  w_top off
  k_with "binaryOp FloorDiv int int" => (((with_reducible refine floordiv_int ?_ ?_ (Or.inl (noPy ?_))); omega; rotate_left; omega))
  k_with "binaryOp Mod int int" => (((with_reducible refine mod_int' ?_ ?_ (Or.inl (noPy ?_))); omega; rotate_left; omega))
  k_with "call ref" => ((k_here; (with_reducible show wpAny _ _ (call (Value.ref 24) _) _ _ _); k_dflt (refine ct_use2 (by k_asm) (by k_asm) (by k_asm) (by k_asm) (by k_asm) (by first | exact rfl | assumption) (by ktr_room) (by ktr_units) (gcd_ct _ _ _ _ _ _ (by omega) (by omega) (by omega)) ?_; intro r9 news9 h9 tk9 ho9 F9 N9; (try dsimp only at ho9); obtain ⟨e8, g9, t9, e9, eg9, hg9, hl9⟩ := ho9; subst e8; subst e9; (all_goals (try dsimp only at N9)); (all_goals (try dsimp only)); (all_goals (try k_sweep)); (all_goals (try k_fold)))))
  unfold Ct
  intro mean mg mb dp un gd cn cs a ccd cl outer A₀ base h₀ L m s Q E B F X N T hk hd hu hret
  refine wpAny_call ?_
  k_dflt ktr_enter
  k_steps
  · exfalso; omega
  rename _ = ((Int.gcd _ _ : Nat) : Int) => eg9
  have e8 : (if x < 0 then -x else x) = x := if_neg (by omega)
  rw [e8] at eg9
  refine hret _ _ _ _ ⟨_, _, _, _, _, rfl, rfl, ?_, ?_, by assumption⟩ (by assumption) (by assumption)
  · rw [← eg9]; exact Int.fdiv_eq_ediv_of_nonneg _ (by omega)
  · rw [← eg9]; exact Int.fdiv_eq_ediv_of_nonneg _ (by omega)
theorem neg_ct (w : World) (v : Value) (x y : Int) (news : List (Addr × Obj)) (hv : PairAt news v x y) :
    Ct w 1 38 [v] news (fun r news' => ∃ a t1 t2, r = .ref a ∧ (a, tup2 (.int (0 - x) t1) (.int y t2)) :: news = news' ∧ ∀ p ∈ news, p.1 < a) := by
  k_with_none
  w_top off
  k_with "binaryOp FloorDiv int int" => (((with_reducible refine floordiv_int ?_ ?_ (Or.inl (noPy ?_))); omega; rotate_left; omega))
  k_with "binaryOp Mod int int" => (((with_reducible refine mod_int' ?_ ?_ (Or.inl (noPy ?_))); omega; rotate_left; omega))
  k_with "call ref" => ((k_here; (with_reducible show wpAny _ _ (call (Value.ref 24) _) _ _ _); k_dflt (refine ct_use2 (by k_asm) (by k_asm) (by k_asm) (by k_asm) (by k_asm) (by first | exact rfl | assumption) (by ktr_room) (by ktr_units) (gcd_ct _ _ _ _ _ _ (by omega) (by omega) (by omega)) ?_; intro r9 news9 h9 tk9 ho9 F9 N9; (try dsimp only at ho9); obtain ⟨e8, g9, t9, e9, eg9, hg9, hl9⟩ := ho9; subst e8; subst e9; (all_goals (try dsimp only at N9)); (all_goals (try dsimp only)); (all_goals (try k_sweep)); (all_goals (try k_fold)))))
  k_with "call ref" => ((k_here; (with_reducible show wpAny _ _ (call (Value.ref 31) _) _ _ _); k_dflt (refine ct_use2 (by k_asm) (by k_asm) (by k_asm) (by k_asm) (by k_asm) (by first | exact rfl | assumption) (by ktr_room) (by ktr_units) (make_ct _ _ _ _ _ _ (by omega) (by first | omega | exact mulP_pos (by omega) (by omega)) (by first | omega | exact mulP_le (by omega) (by omega) (by omega) (by omega) (by omega))) ?_; intro r9 news9 h9 tk9 ho9 F9 N9; (try dsimp only at ho9); obtain ⟨a9, p9, q9, t9, u9, e8, e9, ep9, eq9, hl9⟩ := ho9; subst e8; subst e9; (all_goals (try dsimp only at N9)); (all_goals (try dsimp only)); (all_goals (try k_sweep)); (all_goals (try k_fold)))))
  unfold Ct
  intro mean mg mb dp un gd cn cs a ccd cl outer A₀ base h₀ L m s Q E B F X N T hk hd hu hret
  refine wpAny_call ?_
  k_dflt ktr_enter
  cases hv
  all_goals k_steps
  all_goals exact hret _ _ _ _ ⟨_, _, _, rfl, rfl, by assumption⟩ (by assumption) (by assumption)
theorem neg_none_ct (w : World) (news : List (Addr × Obj)) : Ct w 1 38 [.none] news (fun r news' => r = .none ∧ news = news') := by
  k_with_none
  w_top off
  k_with "binaryOp FloorDiv int int" => (((with_reducible refine floordiv_int ?_ ?_ (Or.inl (noPy ?_))); omega; rotate_left; omega))
  k_with "binaryOp Mod int int" => (((with_reducible refine mod_int' ?_ ?_ (Or.inl (noPy ?_))); omega; rotate_left; omega))
  k_with "call ref" => ((k_here; (with_reducible show wpAny _ _ (call (Value.ref 24) _) _ _ _); k_dflt (refine ct_use2 (by k_asm) (by k_asm) (by k_asm) (by k_asm) (by k_asm) (by first | exact rfl | assumption) (by ktr_room) (by ktr_units) (gcd_ct _ _ _ _ _ _ (by omega) (by omega) (by omega)) ?_; intro r9 news9 h9 tk9 ho9 F9 N9; (try dsimp only at ho9); obtain ⟨e8, g9, t9, e9, eg9, hg9, hl9⟩ := ho9; subst e8; subst e9; (all_goals (try dsimp only at N9)); (all_goals (try dsimp only)); (all_goals (try k_sweep)); (all_goals (try k_fold)))))
  k_with "call ref" => ((k_here; (with_reducible show wpAny _ _ (call (Value.ref 31) _) _ _ _); k_dflt (refine ct_use2 (by k_asm) (by k_asm) (by k_asm) (by k_asm) (by k_asm) (by first | exact rfl | assumption) (by ktr_room) (by ktr_units) (make_ct _ _ _ _ _ _ (by omega) (by first | omega | exact mulP_pos (by omega) (by omega)) (by first | omega | exact mulP_le (by omega) (by omega) (by omega) (by omega) (by omega))) ?_; intro r9 news9 h9 tk9 ho9 F9 N9; (try dsimp only at ho9); obtain ⟨a9, p9, q9, t9, u9, e8, e9, ep9, eq9, hl9⟩ := ho9; subst e8; subst e9; (all_goals (try dsimp only at N9)); (all_goals (try dsimp only)); (all_goals (try k_sweep)); (all_goals (try k_fold)))))
  unfold Ct
  intro mean mg mb dp un gd cn cs a ccd cl outer A₀ base h₀ L m s Q E B F X N T hk hd hu hret
  refine wpAny_call ?_
  k_dflt ktr_enter
  k_steps
  all_goals exact hret _ _ _ _ ⟨rfl, rfl⟩ (by assumption) (by assumption)
theorem nearest_ct (w : World) (x y : Int) (tx ty : Tok) (news : List (Addr × Obj)) (hx : 0 ≤ x) (hy : 0 < y) (hb : y ≤ 1000000000000000000) (hd9 : x % y = 0) :
    Ct w 1 45 [.int x tx, .int y ty] news (fun r news' => news = news' ∧ ∃ q t, r = .int q t ∧ q = x / y) := by
  k_with_none
  w_top off
  k_with "binaryOp FloorDiv int int" => (((with_reducible refine floordiv_int ?_ ?_ (Or.inl (noPy ?_))); omega; rotate_left; omega))
  k_with "binaryOp Mod int int" => (((with_reducible refine mod_int' ?_ ?_ (Or.inl (noPy ?_))); omega; rotate_left; omega))
  k_with "call ref" => ((k_here; (with_reducible show wpAny _ _ (call (Value.ref 24) _) _ _ _); k_dflt (refine ct_use2 (by k_asm) (by k_asm) (by k_asm) (by k_asm) (by k_asm) (by first | exact rfl | assumption) (by ktr_room) (by ktr_units) (gcd_ct _ _ _ _ _ _ (by omega) (by omega) (by omega)) ?_; intro r9 news9 h9 tk9 ho9 F9 N9; (try dsimp only at ho9); obtain ⟨e8, g9, t9, e9, eg9, hg9, hl9⟩ := ho9; subst e8; subst e9; (all_goals (try dsimp only at N9)); (all_goals (try dsimp only)); (all_goals (try k_sweep)); (all_goals (try k_fold)))))
  k_with "call ref" => ((k_here; (with_reducible show wpAny _ _ (call (Value.ref 31) _) _ _ _); k_dflt (refine ct_use2 (by k_asm) (by k_asm) (by k_asm) (by k_asm) (by k_asm) (by first | exact rfl | assumption) (by ktr_room) (by ktr_units) (make_ct _ _ _ _ _ _ (by omega) (by first | omega | exact mulP_pos (by omega) (by omega)) (by first | omega | exact mulP_le (by omega) (by omega) (by omega) (by omega) (by omega))) ?_; intro r9 news9 h9 tk9 ho9 F9 N9; (try dsimp only at ho9); obtain ⟨a9, p9, q9, t9, u9, e8, e9, ep9, eq9, hl9⟩ := ho9; subst e8; subst e9; (all_goals (try dsimp only at N9)); (all_goals (try dsimp only)); (all_goals (try k_sweep)); (all_goals (try k_fold)))))
  unfold Ct
  intro mean mg mb dp un gd cn cs a ccd cl outer A₀ base h₀ L m s Q E B F X N T hk hd hu hret
  refine wpAny_call ?_
  k_dflt ktr_enter
  have hq : x.fdiv y = x / y := Int.fdiv_eq_ediv_of_nonneg _ (by omega)
  have hz : x - x.fdiv y * y = 0 := by
    rw [hq]; have := Int.ediv_mul_add_emod x y; omega
  k_steps
  · exfalso; omega
  · exact hret _ _ _ _ ⟨rfl, _, _, rfl, hq⟩ (by assumption) (by assumption)

end Mine
namespace Mine
theorem mulOk {a b : Int} (ha : a.natAbs < 2 ^ 400) (hb : b.natAbs < 2 ^ 20000) : IntMulOk a b := by
  have h1 : Builtin.Int.intBits a ≤ 400 := by
    unfold Builtin.Int.intBits
    split
    · omega
    · rename_i h
      have h0 : a.natAbs ≠ 0 := by simpa using h
      have := (Nat.log2_lt h0).mpr ha
      omega
  have h2 : Builtin.Int.intBits b ≤ 20000 := by
    unfold Builtin.Int.intBits
    split
    · omega
    · rename_i h
      have h0 : b.natAbs ≠ 0 := by simpa using h
      have := (Nat.log2_lt h0).mpr hb
      omega
  have h3 : Builtin.Int.intTooBig ((Builtin.Int.intBits a : Int) + Builtin.Int.intBits b) = false := by
    unfold Builtin.Int.intTooBig bitsLine
    apply decide_eq_false
    omega
  unfold IntMulOk
  intro h
  simp only [Bool.and_eq_true] at h
  have h4 := h.2
  rw [h3] at h4
  cases h4
set_option exponentiation.threshold 30000 in
theorem pow_lt9 {b e : Int} (hb : 0 ≤ b ∧ b ≤ 16) (he : e ≤ 4096) : (b ^ e.toNat).natAbs < 2 ^ 20000 := by
  rw [Int.natAbs_pow]
  calc b.natAbs ^ e.toNat ≤ 16 ^ e.toNat := Nat.pow_le_pow_left (by omega) _
    _ ≤ 16 ^ 4096 := Nat.pow_le_pow_right (by decide) (by omega)
    _ = 2 ^ (4 * 4096) := by rw [Nat.pow_mul]
    _ < 2 ^ 20000 := Nat.pow_lt_pow_right (by decide) (by decide)
theorem pow_pos9 {b : Int} {k : Nat} (hb : 2 ≤ b ∧ b ≤ 10) (hk : k ≤ 35) : 0 < b ^ k ∧ b ^ k ≤ 100000000000000000000000000000000000 := by
  refine ⟨Int.pow_pos (by omega), ?_⟩
  have h : b.toNat ^ k ≤ 10 ^ 35 := Nat.le_trans (Nat.pow_le_pow_left (by omega) k) (Nat.pow_le_pow_right (by decide) hk)
  have h2 : b ^ k = ((b.toNat ^ k : Nat) : Int) := by rw [Int.natCast_pow]; congr 1; omega
  rw [h2]
  have : (10 : Nat) ^ 35 ≤ 100000000000000000000000000000000000 := by decide
  omega
noncomputable def pX (n b e : Int) : Int := if 0 ≤ e then n * b ^ e.toNat else n
noncomputable def pY (b e : Int) : Int := if 0 ≤ e then 1 else b ^ (0 - e).toNat
theorem red_pos {X Y : Int} (hx : 0 < X) (hy : 0 < Y) : 0 < X / (Int.gcd X Y : Nat) ∧ 0 < Y / (Int.gcd X Y : Nat) ∧ Y / (Int.gcd X Y : Nat) ≤ Y := by
  have hg : 0 < ((Int.gcd X Y : Nat) : Int) := by
    have := Int.gcd_pos_of_ne_zero_right X (show Y ≠ 0 by omega)
    omega
  have d1 : ((Int.gcd X Y : Nat) : Int) ∣ X := Int.gcd_dvd_left X Y
  have d2 : ((Int.gcd X Y : Nat) : Int) ∣ Y := Int.gcd_dvd_right X Y
  refine ⟨Int.ediv_pos_of_pos_of_dvd hx (by omega) d1, Int.ediv_pos_of_pos_of_dvd hy (by omega) d2, Int.ediv_le_self _ (by omega)⟩
theorem powered_ct (w : World) (n b e : Int) (tn tb te : Tok) (news : List (Addr × Obj)) (hn : 0 ≤ n) (hn2 : n.natAbs < 2 ^ 400) (hb : 2 ≤ b ∧ b ≤ 10) (he : -35 ≤ e ∨ e < -4096) :
    Ct w 3 108 [.int n tn, .int b tb, .int e te] news (fun r news' =>
      (n = 0 ∧ r = .ref 17 ∧ news = news') ∨ (n ≠ 0 ∧ 4096 < e ∧ r = .ref 16 ∧ news = news') ∨ (n ≠ 0 ∧ e < -4096 ∧ r = .ref 17 ∧ news = news') ∨
      (n ≠ 0 ∧ -35 ≤ e ∧ e ≤ 4096 ∧ ∃ a p q t1 t2, r = .ref a ∧ (a, tup2 (.int p t1) (.int q t2)) :: news = news' ∧
        p = pX n b e / (Int.gcd (pX n b e) (pY b e) : Nat) ∧ q = pY b e / (Int.gcd (pX n b e) (pY b e) : Nat) ∧ 0 < p ∧ 0 < q ∧ q ≤ 100000000000000000000000000000000000 ∧ ∀ p ∈ news, p.1 < a)) := by
  k_with_none
  w_top off
  k_with "binaryOp FloorDiv int int" => (((with_reducible refine floordiv_int ?_ ?_ (Or.inl (noPy ?_))); omega; rotate_left; omega))
  k_with "binaryOp Mod int int" => (((with_reducible refine mod_int' ?_ ?_ (Or.inl (noPy ?_))); omega; rotate_left; omega))
  k_with "call ref" => ((k_here; (with_reducible show wpAny _ _ (call (Value.ref 31) _) _ _ _); k_dflt (refine ct_use2 (by k_asm) (by k_asm) (by k_asm) (by k_asm) (by k_asm) (by first | exact rfl | assumption) (by ktr_room) (by ktr_units) (make_ct _ _ _ _ _ _ (by omega) (by first | omega | exact mulP_pos (by omega) (by omega)) (by first | omega | exact mulP_le (by omega) (by omega) (by omega) (by omega) (by omega))) ?_; intro r9 news9 h9 tk9 ho9 F9 N9; (try dsimp only at ho9); obtain ⟨a9, p9, q9, t9, u9, e8, e9, ep9, eq9, hl9⟩ := ho9; subst e8; subst e9; (all_goals (try dsimp only at N9)); (all_goals (try dsimp only)); (all_goals (try k_sweep)); (all_goals (try k_fold)))))
  unfold Ct
  intro mean mg mb dp un gd cn cs a ccd cl outer A₀ base h₀ L m s Q E B F X N T hk hd hu hret
  refine wpAny_call ?_
  k_dflt ktr_enter
  by_cases h1 : 4096 < e
  · k_steps
    · exact hret _ _ _ _ (Or.inl ⟨by assumption, rfl, rfl⟩) (by assumption) (by assumption)
    · exact hret _ _ _ _ (Or.inr (Or.inl ⟨by assumption, h1, rfl, rfl⟩)) (by assumption) (by assumption)
  by_cases h2 : 0 ≤ e
  · have hm : IntMulOk n (b ^ e.toNat) := mulOk hn2 (pow_lt9 (by omega) (by omega))
    have hpw : 0 < b ^ e.toNat := Int.pow_pos (by omega)
    have hp : 0 ≤ n * b ^ e.toNat := Int.mul_nonneg (by omega) (Int.le_of_lt hpw)
    k_steps
    · exact hret _ _ _ _ (Or.inl ⟨by assumption, rfl, rfl⟩) (by assumption) (by assumption)
    · have eX : pX n b e = n * b ^ e.toNat := if_pos h2
      have eY : pY b e = 1 := if_pos h2
      have hX : 0 < n * b ^ e.toNat := Int.mul_pos (by omega) hpw
      obtain ⟨r1, r2, r3⟩ := red_pos hX (show (0 : Int) < 1 by decide)
      refine hret _ _ _ _ (Or.inr (Or.inr (Or.inr ⟨by assumption, by omega, by omega, _, _, _, _, _, rfl, rfl, ?_, ?_, ?_, ?_, ?_, by assumption⟩))) (by assumption) (by assumption)
      · rw [eX, eY]; assumption
      · rw [eX, eY]; assumption
      · subst_vars; assumption
      · subst_vars; assumption
      · subst_vars; omega
  by_cases h3 : e < -4096
  · k_steps
    · exact hret _ _ _ _ (Or.inl ⟨by assumption, rfl, rfl⟩) (by assumption) (by assumption)
    · exact hret _ _ _ _ (Or.inr (Or.inr (Or.inl ⟨by assumption, h3, rfl, rfl⟩))) (by assumption) (by assumption)
  obtain ⟨hq1, hq2⟩ := pow_pos9 (k := (0 - e).toNat) hb (by omega)
  k_steps
  · exact hret _ _ _ _ (Or.inl ⟨by assumption, rfl, rfl⟩) (by assumption) (by assumption)
  · have eX : pX n b e = n := if_neg h2
    have eY : pY b e = b ^ (0 - e).toNat := if_neg h2
    obtain ⟨r1, r2, r3⟩ := red_pos (show 0 < n by omega) hq1
    refine hret _ _ _ _ (Or.inr (Or.inr (Or.inr ⟨by assumption, by omega, by omega, _, _, _, _, _, rfl, rfl, ?_, ?_, ?_, ?_, ?_, by assumption⟩))) (by assumption) (by assumption)
    · rw [eX, eY]; assumption
    · rw [eX, eY]; assumption
    · subst_vars; assumption
    · subst_vars; assumption
    · subst_vars; omega

end Mine
namespace Mine
theorem clip_eq (i : Int) (n : Nat) (h : 0 ≤ i) : (max (0:Int) (min (if i < 0 then i + n else i) n)) = max (0:Int) (min (if min i (n:Int) < 0 then min i (n:Int) + n else min i (n:Int)) n) := by
  split <;> split <;> omega
theorem idx_clip (i j : Int) (n : Nat) (hi : 0 ≤ i) (hj : 0 ≤ j) : Builtin.Str.strSliceIndices (some i) (some j) 1 n = Builtin.Str.strSliceIndices (some (min i n)) (some (min j n)) 1 n := by
  unfold Builtin.Str.strSliceIndices
  simp only [show ((1:Int) > 0) = True by simp, if_true]
  rw [clip_eq i n hi, clip_eq j n hj]
theorem sl_ij (x : Str) (i j : Int) (hi : 0 ≤ i) (hij : i ≤ j) : Txt.slice x (some i) (some j) = ST ((x.cps.toList.drop i.toNat).take (j - i).toNat) := by
  have e : Txt.slice x (some i) (some j) = StrLaws.sliceText x (some (min i x.length)) (some (min j x.length)) := by
    show StrLaws.sliceText x (some i) (some j) = _
    unfold StrLaws.sliceText
    rw [idx_clip i j x.length hi (by omega)]
  have hl : x.cps.toList.length = x.length := by simp [Str.length]
  rw [e, StrLaws.sliceText_plain ⟨by omega, by omega, by omega⟩]
  unfold ST
  congr 2
  by_cases h : i ≤ x.length
  · have e1 : min i (x.length : Int) = i := by omega
    rw [e1]
    by_cases h2 : j ≤ x.length
    · have e2 : min j (x.length : Int) = j := by omega
      rw [e2]
    · have e2 : min j (x.length : Int) = x.length := by omega
      rw [e2, List.take_of_length_le (by rw [List.length_drop]; omega), List.take_of_length_le (by rw [List.length_drop]; omega)]
  · rw [List.drop_eq_nil_of_le (by omega), List.drop_eq_nil_of_le (by omega)]
    simp
theorem sl_to (x : Str) (j : Int) (hj : 0 ≤ j) : Txt.slice x none (some j) = ST (x.cps.toList.take j.toNat) := by
  have e : Txt.slice x none (some j) = Txt.slice x (some 0) (some j) := by
    show StrLaws.sliceText x none (some j) = StrLaws.sliceText x (some 0) (some j)
    unfold StrLaws.sliceText
    rw [StrLaws.sliceIdx_none_lo]
  rw [e, sl_ij x 0 j (by decide) hj]
  simp
theorem sl_from (x : Str) (i : Int) (hi : 0 ≤ i) : Txt.slice x (some i) none = ST (x.cps.toList.drop i.toNat) := by
  have hl : x.cps.toList.length = x.length := by simp [Str.length]
  have e : Txt.slice x (some i) none = Txt.slice x (some i) (some (x.length : Int)) := by
    show StrLaws.sliceText x (some i) none = StrLaws.sliceText x (some i) (some (x.length : Int))
    unfold StrLaws.sliceText
    rw [StrLaws.sliceIdx_none_hi]
  rw [e]
  by_cases h : i ≤ x.length
  · rw [sl_ij x i _ hi h, List.take_of_length_le (by rw [List.length_drop]; omega)]
  · have e1 : Txt.slice x (some i) (some (x.length : Int)) = Txt.slice x (some (x.length : Int)) (some (x.length : Int)) := by
      show StrLaws.sliceText x _ _ = StrLaws.sliceText x _ _
      unfold StrLaws.sliceText
      rw [idx_clip i _ x.length hi (by omega)]
      have : min i (x.length : Int) = x.length := by omega
      rw [this]
      simp
    rw [e1, sl_ij x _ _ (by omega) (by omega), List.drop_eq_nil_of_le (by omega), List.drop_eq_nil_of_le (by omega)]
    simp
theorem item_ST (l : List Nat) (i : Int) (c : Nat) (h0 : 0 ≤ i) (h : l[i.toNat]? = some c) : Txt.item (ST l) i = ST [c] := by
  have := item_meets (x := ST l) h0 (n := c) (by simpa [ST] using h)
  exact this
theorem runEnd_ST (dg : Str) (l : List Nat) (i : Int) : runEnd dg (ST l) i = i + ((l.drop i.toNat).takeWhile (pd dg)).length := by
  unfold runEnd; rw [ST_list]
theorem hv_bound : ∀ c < 128, -1 ≤ hv c ∧ hv c ≤ 15 := by decide +kernel
theorem pd_hv10 : ∀ c < 128, pd (Str.ofString "0123456789") c = true → 0 ≤ hv c := by decide +kernel
theorem pd_hv16 : ∀ c < 128, pd (Str.ofString "0123456789abcdef") c = true → 0 ≤ hv c := by decide +kernel
theorem pd10_iff : ∀ c < 128, pd (Str.ofString "0123456789") c = decide (48 ≤ c ∧ c ≤ 57) := by decide +kernel
theorem pd16_iff : ∀ c < 128, pd (Str.ofString "0123456789abcdef") c = decide ((48 ≤ c ∧ c ≤ 57) ∨ (65 ≤ c ∧ c ≤ 70) ∨ (97 ≤ c ∧ c ≤ 102)) := by decide +kernel
theorem hv_digit : ∀ c < 128, 48 ≤ c ∧ c ≤ 57 → hv c = (c : Int) - 48 := by decide +kernel

end Mine
namespace Mine
noncomputable def uHex (x : Str) : Bool := (Txt.slice x none (some 2) == Str.ofString "0x") || (Txt.slice x none (some 2) == Str.ofString "0X")
noncomputable def uPre (x : Str) : Int × Str × Str × Int × Str :=
  if uHex x = true then (16, Str.ofString "0123456789abcdef", Str.ofString "p", 2, Txt.slice x (some 2) none) else (10, Str.ofString "0123456789", Str.ofString "e", 10, x)
noncomputable def uE1 (dg t : Str) : Int := runEnd dg t 0
noncomputable def uB (dg t : Str) : Str := Txt.slice t none (some (uE1 dg t))
noncomputable def uDot (dg t : Str) : Bool := (Txt.slice t (some (uE1 dg t)) (some (uE1 dg t + 1)) == Str.ofString ".")
noncomputable def uE (dg t : Str) : Int := if uDot dg t = true then runEnd dg t (uE1 dg t + 1) else uE1 dg t
noncomputable def uH (dg t : Str) : Str := if uDot dg t = true then Txt.slice t (some (uE1 dg t + 1)) (some (runEnd dg t (uE1 dg t + 1))) else Str.ofString ""
noncomputable def uExp (mk dg t : Str) : Option Int :=
  if uE dg t < t.length then
    (if (Txt.lower (Txt.item t (uE dg t)) != mk) = true then none
     else if (expSpec (Txt.slice t (some (uE dg t + 1)) none)).1 = true then some (expSpec (Txt.slice t (some (uE dg t + 1)) none)).2 else none)
  else some 0
noncomputable def uVal (b sc e n : Int) (k : Nat) : Int × Int :=
  if n = 0 then (0, 1) else if 4096 < e then (1, 0) else if e < -4096 then (0, 1)
  else
    let p := pX n sc e / (Int.gcd (pX n sc e) (pY sc e) : Nat)
    let q := pY sc e / (Int.gcd (pX n sc e) (pY sc e) : Nat) * b ^ k
    (p / (Int.gcd p q : Nat), q / (Int.gcd p q : Nat))
noncomputable def uRes5 (b : Int) (dg mk : Str) (sc : Int) (t : Str) : Option (Int × Int) :=
  if (uB dg t == Str.ofString "") = true ∧ (uH dg t == Str.ofString "") = true then none
  else match uExp mk dg t with
    | none => none
    | some e => some (uVal b sc e (dvI b (KStt.codes (uB dg t ++ uH dg t))) (uH dg t).length)
noncomputable def uRes (x : Str) : Option (Int × Int) := uRes5 (uPre x).1 (uPre x).2.1 (uPre x).2.2.1 (uPre x).2.2.2.1 (uPre x).2.2.2.2
noncomputable def isDg (dg : Str) : Prop := dg = Str.ofString "0123456789" ∨ dg = Str.ofString "0123456789abcdef"
noncomputable def Asc (x : Str) : Prop := ∀ c ∈ x.cps.toList, c < 128
theorem Asc.slice_from {x : Str} (h : Asc x) {i : Int} (hi : 0 ≤ i) : Asc (Txt.slice x (some i) none) := by
  rw [sl_from x i hi]; intro c hc; rw [ST_list] at hc; exact h c (List.mem_of_mem_drop hc)
theorem sl_dot {t : Str} {i : Int} (h : (Txt.slice t (some i) (some (i + 1)) == Str.ofString ".") = true) (h0 : 0 ≤ i) : i + 1 ≤ t.length := by
  have e := beq_iff_eq.mp h
  rw [sl_ij t i _ h0 (by omega)] at e
  have e2 : ((ST (List.take (i + 1 - i).toNat (List.drop i.toNat t.cps.toList))).length : Int) = 1 := by rw [e]; decide
  rw [ST_len, List.length_take, List.length_drop] at e2
  have hl : t.cps.toList.length = t.length := by simp [Str.length]
  omega
theorem take_tw {α : Type} (p : α → Bool) : ∀ l : List α, l.take (l.takeWhile p).length = l.takeWhile p
  | [] => rfl
  | a :: l => by
    rw [List.takeWhile_cons]
    split
    · rw [List.length_cons, List.take_succ_cons, take_tw p l]
    · rfl
theorem mem_tw {α : Type} {p : α → Bool} {a : α} : ∀ {l : List α}, a ∈ l.takeWhile p → p a = true ∧ a ∈ l
  | [], h => by simp at h
  | b :: l, h => by
    rw [List.takeWhile_cons] at h
    split at h
    · rename_i hb
      rcases List.mem_cons.mp h with rfl | h
      · exact ⟨hb, .head _⟩
      · exact ⟨(mem_tw h).1, .tail _ (mem_tw h).2⟩
    · simp at h
theorem uE1_eq (dg t : Str) : uE1 dg t = ((t.cps.toList.takeWhile (pd dg)).length : Int) := by
  unfold uE1 runEnd; simp
theorem uB_eq (dg t : Str) : uB dg t = ST (t.cps.toList.takeWhile (pd dg)) := by
  unfold uB
  rw [uE1_eq, sl_to _ _ (by omega), Int.toNat_natCast, take_tw]
theorem uH_eq (dg t : Str) : uH dg t = if uDot dg t = true then ST ((t.cps.toList.drop ((t.cps.toList.takeWhile (pd dg)).length + 1)).takeWhile (pd dg)) else ST [] := by
  unfold uH
  split
  · rw [uE1_eq]
    have e : (((t.cps.toList.takeWhile (pd dg)).length : Int) + 1).toNat = (t.cps.toList.takeWhile (pd dg)).length + 1 := by omega
    rw [sl_ij _ _ _ (by omega) (by unfold runEnd; omega)]
    congr 1
    unfold runEnd
    rw [e]
    have e2 : ∀ a b : Nat, ((a : Int) + 1 + (b : Int) - ((a : Int) + 1)).toNat = b := by omega
    rw [e2, take_tw]
  · decide
theorem digs_hv {dg x : Str} (hd : isDg dg) (hx : Asc x) {l : List Nat} (hl : ∀ c ∈ l, c ∈ x.cps.toList) : ∀ c ∈ l.takeWhile (pd dg), 0 ≤ hv c := by
  intro c hc
  have h := mem_tw hc
  have h1 := hx c (hl c h.2)
  rcases hd with rfl | rfl
  · exact pd_hv10 c h1 h.1
  · exact pd_hv16 c h1 h.1
theorem codes_ST (l : List Nat) : KStt.codes (ST l) = l.map fun (c : Nat) => (c : Int) := by unfold KStt.codes; rw [ST_list]
theorem dvI_nonneg {b : Int} (hb : 0 ≤ b) : ∀ (l : List Int) (v : Int), 0 ≤ v → (∀ c ∈ l, 0 ≤ hv c.toNat) → 0 ≤ l.foldl (fun v c => v * b + hv c.toNat) v
  | [], _, hv, _ => hv
  | c :: l, v, h0, h => by
    rw [List.foldl_cons]
    exact dvI_nonneg hb l _ (Int.add_nonneg (Int.mul_nonneg h0 hb) (h c (.head _))) fun d hd => h d (.tail _ hd)
theorem dvI_bound {b : Int} (hb : 0 ≤ b ∧ b ≤ 16) : ∀ (l : List Int) (v : Int) (k : Nat), v.natAbs < 2 ^ k → (∀ c ∈ l, 0 ≤ c ∧ c < 128) → (l.foldl (fun v c => v * b + hv c.toNat) v).natAbs < 2 ^ (k + 5 * l.length)
  | [], v, k, h, _ => by simpa using h
  | c :: l, v, k, h0, h => by
    rw [List.foldl_cons]
    have hc := h c (.head _)
    have hh := hv_bound c.toNat (by omega)
    have h1 : (v * b + hv c.toNat).natAbs < 2 ^ (k + 5) := by
      have h2 : (v * b).natAbs ≤ v.natAbs * 16 := by rw [Int.natAbs_mul]; exact Nat.mul_le_mul_left _ (by omega)
      have h3 : (2 : Nat) ^ (k + 5) = 2 ^ k * 32 := by rw [Nat.pow_add]
      rw [h3]
      have h4 : (v * b + hv c.toNat).natAbs ≤ (v * b).natAbs + (hv c.toNat).natAbs := Int.natAbs_add_le _ _
      omega
    have := dvI_bound hb l _ (k + 5) h1 fun d hd => h d (.tail _ hd)
    rw [List.length_cons]
    have e : k + 5 * (l.length + 1) = k + 5 + 5 * l.length := by omega
    rw [e]; exact this
set_option exponentiation.threshold 1000 in
theorem uBH {dg x t : Str} (hd : isDg dg) (hx : Asc x) (ht : ∀ c ∈ t.cps.toList, c ∈ x.cps.toList) {b : Int} (hb : 0 ≤ b ∧ b ≤ 16) (hl : t.length ≤ 50) :
    0 ≤ dvI b (KStt.codes (uB dg t ++ uH dg t)) ∧ (dvI b (KStt.codes (uB dg t ++ uH dg t))).natAbs < 2 ^ 400 ∧ (uB dg t).length ≤ 50 ∧ (uH dg t).length ≤ 50 := by
  have hlen : t.cps.toList.length ≤ 50 := by simpa [Str.length] using hl
  have key : ∃ l : List Nat, uB dg t ++ uH dg t = ST l ∧ (∀ c ∈ l, 0 ≤ hv c ∧ c < 128) ∧ l.length ≤ 60 ∧ (uB dg t).length ≤ 50 ∧ (uH dg t).length ≤ 50 := by
    rw [uB_eq, uH_eq]
    have hB : (t.cps.toList.takeWhile (pd dg)).length ≤ 50 := by
      have := List.takeWhile_sublist (pd dg) (l := t.cps.toList) |>.length_le
      omega
    split
    · rw [ST_append]
      refine ⟨_, rfl, ?_, ?_, ?_, ?_⟩
      · intro c hc
        rcases List.mem_append.mp hc with h | h
        · exact ⟨digs_hv hd hx ht c h, hx c (ht c (mem_tw h).2)⟩
        · exact ⟨digs_hv hd hx (fun d hd => ht d (List.mem_of_mem_drop hd)) c h, hx c (ht c (List.mem_of_mem_drop (mem_tw h).2))⟩
      · rw [List.length_append]
        have := List.takeWhile_sublist (pd dg) (l := t.cps.toList.drop ((t.cps.toList.takeWhile (pd dg)).length + 1)) |>.length_le
        rw [List.length_drop] at this
        omega
      · rw [ST_len]; exact hB
      · rw [ST_len]
        have := List.takeWhile_sublist (pd dg) (l := t.cps.toList.drop ((t.cps.toList.takeWhile (pd dg)).length + 1)) |>.length_le
        rw [List.length_drop] at this
        omega
    · rw [ST_append]
      refine ⟨_, rfl, ?_, ?_, ?_, ?_⟩
      · intro c hc
        rw [List.append_nil] at hc
        exact ⟨digs_hv hd hx ht c hc, hx c (ht c (mem_tw hc).2)⟩
      · rw [List.append_nil]; omega
      · rw [ST_len]; exact hB
      · rw [ST_len]; simp
  obtain ⟨l, e, h1, h2, h3, h4⟩ := key
  refine ⟨?_, ?_, h3, h4⟩
  · rw [e, codes_ST]
    refine dvI_nonneg hb.1 _ 0 (by decide) ?_
    intro c hc
    obtain ⟨d, hd, rfl⟩ := List.mem_map.mp hc
    exact (h1 d hd).1
  · rw [e, codes_ST]
    have := dvI_bound hb (l.map fun (c : Nat) => (c : Int)) 0 0 (by decide) (by
      intro c hc
      obtain ⟨d, hd, rfl⟩ := List.mem_map.mp hc
      have := (h1 d hd).2
      omega)
    refine Nat.lt_of_lt_of_le this (Nat.pow_le_pow_right (by decide) ?_)
    rw [List.length_map]; omega
theorem mulP {q b : Int} {k : Nat} (hq : 0 < q) (hq2 : q ≤ 100000000000000000000000000000000000) (hb : 2 ≤ b) (hb2 : b ≤ 16) (hk : k ≤ 50) : IntMulOk q (b ^ k) := by
  refine mulOk (Nat.lt_trans (show q.natAbs < 2 ^ 120 by omega) (Nat.pow_lt_pow_right (by decide) (by decide))) ?_
  rw [Int.natAbs_pow]
  calc b.natAbs ^ k ≤ 16 ^ k := Nat.pow_le_pow_left (by omega) _
    _ ≤ 16 ^ 50 := Nat.pow_le_pow_right (by decide) hk
    _ = 2 ^ (4 * 50) := by rw [Nat.pow_mul]
    _ < 2 ^ 20000 := Nat.pow_lt_pow_right (by decide) (by decide)
theorem mulP_pos {q b : Int} {k : Nat} (hq : 0 < q) (hb : 2 ≤ b) : 0 < q * b ^ k := Int.mul_pos hq (Int.pow_pos (by omega))
theorem mulP_le {q b : Int} {k : Nat} (hq : 0 < q) (hq2 : q ≤ 100000000000000000000000000000000000) (hb : 2 ≤ b) (hb2 : b ≤ 16) (hk : k ≤ 50) : q * b ^ k ≤ 10000000000000000000000000000000000000000000000000000000000000000000000000000000000000000000000000000 := by
  have h1 : b ^ k ≤ 16 ^ 50 := by
    have h2 : b ^ k = ((b.toNat ^ k : Nat) : Int) := by rw [Int.natCast_pow]; congr 1; omega
    rw [h2]
    have h3 : b.toNat ^ k ≤ 16 ^ 50 := Nat.le_trans (Nat.pow_le_pow_left (by omega) k) (Nat.pow_le_pow_right (by decide) hk)
    exact_mod_cast h3
  have h0 : 0 < b ^ k := Int.pow_pos (by omega)
  calc q * b ^ k ≤ 100000000000000000000000000000000000 * 16 ^ 50 := Int.mul_le_mul hq2 h1 (Int.le_of_lt h0) (by decide)
    _ ≤ _ := by decide +kernel

noncomputable def uP2 (dg t : Str) (en : Int) (bf bh : Str) : Prop := en = uE dg t ∧ bf = uB dg t ∧ bh = uH dg t ∧ 0 ≤ en ∧ en ≤ t.length
theorem mid2a {dg t : Str} {i j : Int} (e : i = runEnd dg t 0) (h : (Txt.slice t (some i) (some (i + 1)) == Str.ofString ".") = true) (e2 : j = runEnd dg t (i + 1)) (h0 : 0 ≤ i) (h2 : i + 1 ≤ j) (h3 : j ≤ t.length) :
    uP2 dg t j (Txt.slice t none (some i)) (Txt.slice t (some (i + 1)) (some j)) := by
  subst e
  have hd : uDot dg t = true := h
  refine ⟨?_, rfl, ?_, by omega, h3⟩
  · rw [uE, if_pos hd, e2]; rfl
  · rw [uH, if_pos hd, e2]; rfl
theorem mid2b {dg t : Str} {i : Int} (e : i = runEnd dg t 0) (h : (Txt.slice t (some i) (some (i + 1)) == Str.ofString ".") = false) (h0 : 0 ≤ i) (h3 : i ≤ t.length) :
    uP2 dg t i (Txt.slice t none (some i)) (Str.ofString "") := by
  subst e
  have hd : ¬ uDot dg t = true := by unfold uDot; show ¬ ((Txt.slice t (some (runEnd dg t 0)) (some (runEnd dg t 0 + 1)) == Str.ofString ".") = true); rw [h]; simp
  refine ⟨?_, rfl, ?_, h0, h3⟩
  · rw [uE, if_neg hd]; rfl
  · rw [uH, if_neg hd]
theorem exp3a {mk dg t : Str} {en : Int} (e : en = uE dg t) (h : ¬ en < t.length) : uExp mk dg t = some 0 := by
  subst e; rw [uExp, if_neg h]
theorem exp3b {mk dg t : Str} {en v : Int} {b : Bool} (e : en = uE dg t) (h : en < t.length) (hm : (Txt.lower (Txt.item t en) != mk) = false) (hx : (b, v) = expSpec (Txt.slice t (some (en + 1)) none)) (hb : b = true) : uExp mk dg t = some v := by
  subst e
  rw [uExp, if_pos h, if_neg (by rw [hm]; simp), if_pos (by rw [← hx]; exact hb), ← hx]
theorem exp3c {mk dg t : Str} {en : Int} (e : en = uE dg t) (h : en < t.length) (hm : (Txt.lower (Txt.item t en) != mk) = true) : uExp mk dg t = none := by
  subst e
  rw [uExp, if_pos h, if_pos hm]
theorem exp3d {mk dg t : Str} {en v : Int} {b : Bool} (e : en = uE dg t) (h : en < t.length) (hm : (Txt.lower (Txt.item t en) != mk) = false) (hx : (b, v) = expSpec (Txt.slice t (some (en + 1)) none)) (hb : b = false) : uExp mk dg t = none := by
  subst e
  rw [uExp, if_pos h, if_neg (by rw [hm]; simp), if_neg (by rw [← hx, hb]; simp)]
section
variable {x t dg mk : Str} {b sc e : Int}
theorem res_pre (eP : uPre x = (b, dg, mk, sc, t)) : uRes x = uRes5 b dg mk sc t := by unfold uRes; rw [eP]
theorem res_no1 (eP : uPre x = (b, dg, mk, sc, t)) {bf bh : Str} (e1 : bf = uB dg t) (e2 : bh = uH dg t) (h1 : (bf == Str.ofString "") = true) (h2 : (bh == Str.ofString "") = true) : uRes x = none := by
  subst e1; subst e2; rw [res_pre eP, uRes5, if_pos ⟨h1, h2⟩]
theorem res_no2 (eP : uPre x = (b, dg, mk, sc, t)) (h : uExp mk dg t = none) : uRes x = none := by
  rw [res_pre eP, uRes5, h]; split <;> rfl
theorem res_some (eP : uPre x = (b, dg, mk, sc, t)) {bf bh : Str} (e1 : bf = uB dg t) (e2 : bh = uH dg t) (h0 : ¬ ((bf == Str.ofString "") = true ∧ (bh == Str.ofString "") = true)) (h : uExp mk dg t = some e) :
    uRes x = some (uVal b sc e (dvI b (KStt.codes (bf ++ bh))) bh.length) := by
  subst e1; subst e2; rw [res_pre eP, uRes5, if_neg h0, h]
end
section
variable {b sc e n : Int} {k : Nat}
theorem val_zero (h : n = 0) : uVal b sc e n k = (0, 1) := by rw [uVal, if_pos h]
theorem val_inf (h0 : n ≠ 0) (h : 4096 < e) : uVal b sc e n k = (1, 0) := by rw [uVal, if_neg h0, if_pos h]
theorem val_small (h0 : n ≠ 0) (h : e < -4096) : uVal b sc e n k = (0, 1) := by rw [uVal, if_neg h0, if_neg (by omega), if_pos h]
theorem val_pair {p q p' q' : Int} (h0 : n ≠ 0) (h1 : -35 ≤ e) (h2 : e ≤ 4096) (hp : p = pX n sc e / (Int.gcd (pX n sc e) (pY sc e) : Nat)) (hq : q = pY sc e / (Int.gcd (pX n sc e) (pY sc e) : Nat))
    (hp' : p' = p / (Int.gcd p (q * b ^ Int.toNat (k : Int)) : Nat)) (hq' : q' = q * b ^ Int.toNat (k : Int) / (Int.gcd p (q * b ^ Int.toNat (k : Int)) : Nat)) : uVal b sc e n k = (p', q') := by
  rw [uVal, if_neg h0, if_neg (by omega), if_neg (by omega)]
  simp only [← hp, ← hq]
  rw [hp', hq']; rfl
end
theorem exp4 {mk dg t : Str} {v : Int} (hE : ∀ e, uExp mk dg t = some e → -35 ≤ e ∨ e < -4096) (h : uExp mk dg t = some v) : uExp mk dg t = some v ∧ (-35 ≤ v ∨ v < -4096) := ⟨h, hE v h⟩
theorem news_drop3 {h₀ h : Heap} {L : Addr} {a b c : Addr × Obj} {l : List (Addr × Obj)} (N : News h₀ L h (a :: b :: c :: l)) : News h₀ L h (a :: b :: l) := fun p hp => N p (by
  simp only [List.mem_cons] at hp ⊢; rcases hp with h | h | h <;> simp only [h, true_or, or_true])
theorem news_drop2 {h₀ h : Heap} {L : Addr} {a c : Addr × Obj} {l : List (Addr × Obj)} (N : News h₀ L h (a :: c :: l)) : News h₀ L h (a :: l) := fun p hp => N p (by
  simp only [List.mem_cons] at hp ⊢; rcases hp with h | h <;> simp only [h, true_or, or_true])

end Mine
namespace Mine
noncomputable abbrev WS : Str := Str.ofString " \t\n\r\x0c\x0b"
noncomputable def pB (x : Str) : Str := Txt.stripChars x WS
noncomputable def pNeg (b : Str) : Bool := Txt.item b 0 == Str.ofString "-"
noncomputable def pRest (b : Str) : Str := if pNeg b = true ∨ (Txt.item b 0 == Str.ofString "+") = true then Txt.slice b (some 1) none else b
noncomputable def pFound (c : Str) : Option (Int × Int) :=
  if (c == Str.ofString "NaN") = true then some (0, 0)
  else if (Txt.lower c == Str.ofString "inf") = true ∨ (Txt.lower c == Str.ofString "infinity") = true then some (1, 0)
  else uRes c
noncomputable def pSigned (ng : Bool) (f : Option (Int × Int)) : Option (Option (Int × Int)) :=
  match f with
  | none => none
  | some (p, q) => some (some (if ng = true then (0 - p, q) else (p, q)))
noncomputable def pRes (x : Str) : Option (Option (Int × Int)) :=
  if (pB x == Str.ofString "") = true ∨ (pB x == Str.ofString "NA") = true then some none
  else pSigned (pNeg (pB x)) (pFound (pRest (pB x)))
theorem strip_sub (x y : Str) : (∀ c ∈ (Txt.stripChars x y).cps.toList, c ∈ x.cps.toList) ∧ (Txt.stripChars x y).length ≤ x.length := by
  unfold Txt.stripChars Txt.stripBy
  split
  · exact ⟨fun _ h => h, Nat.le_refl _⟩
  · unfold PySem.stripped Builtin.Str.strSub
    refine ⟨fun c hc => ?_, ?_⟩
    · simp only [Array.toList_extract] at hc
      exact List.mem_of_mem_drop (List.mem_of_mem_take (by simpa [List.extract_eq_take_drop] using hc))
    · simp only [Str.length, Array.size_extract]; omega
theorem Asc.strip {x : Str} (h : Asc x) (y : Str) : Asc (Txt.stripChars x y) := fun c hc => h c ((strip_sub x y).1 c hc)
theorem one_le {b : Str} (h : (b == Str.ofString "") = false) : 1 ≤ b.length := by
  by_cases h0 : b.length = 0
  · have e : b = Str.ofString "" := by
      refine Str.ext' ?_
      have h1 : b.cps.size = 0 := h0
      rw [Array.size_eq_zero_iff.mp h1]; decide
    rw [e] at h; simp at h
  · omega
theorem rest_facts {b : Str} (hb : Asc b) (hl : b.length ≤ 50) : Asc (pRest b) ∧ (pRest b).length ≤ 50 := by
  unfold pRest
  split
  · refine ⟨hb.slice_from (by decide), ?_⟩
    rw [sl_from b 1 (by decide), ST_len, List.length_drop]
    have : b.cps.toList.length = b.length := by simp [Str.length]
    omega
  · exact ⟨hb, hl⟩
theorem rest1 {b : Str} (h : (Txt.item b 0 == Str.ofString "-") = true) : Txt.slice b (some 1) none = pRest b ∧ (Txt.item b 0 == Str.ofString "-") = pNeg b := by
  rw [pRest, if_pos (Or.inl (show pNeg b = true from h))]; exact ⟨rfl, rfl⟩
theorem rest2 {b : Str} (h : (Txt.item b 0 == Str.ofString "-") = false) (h2 : (Txt.item b 0 == Str.ofString "+") = true) : Txt.slice b (some 1) none = pRest b ∧ (Txt.item b 0 == Str.ofString "-") = pNeg b := by
  rw [pRest, if_pos (Or.inr h2)]; exact ⟨rfl, rfl⟩
theorem rest3 {b : Str} (h : (Txt.item b 0 == Str.ofString "-") = false) (h2 : (Txt.item b 0 == Str.ofString "+") = false) : b = pRest b ∧ (Txt.item b 0 == Str.ofString "-") = pNeg b := by
  rw [pRest, if_neg (by unfold pNeg; rw [h, h2]; simp)]; exact ⟨rfl, rfl⟩
section
variable {x c : Str} {ng : Bool} {p q : Int}
theorem par_na1 (h : (Txt.stripChars x WS == Str.ofString "") = true) : pRes x = some none := by
  rw [pRes, if_pos (Or.inl (show (pB x == Str.ofString "") = true from h))]
theorem par_na2 (h : (Txt.stripChars x WS == Str.ofString "NA") = true) : pRes x = some none := by
  rw [pRes, if_pos (Or.inr (show (pB x == Str.ofString "NA") = true from h))]
theorem par_go (h1 : (pB x == Str.ofString "") = false) (h2 : (pB x == Str.ofString "NA") = false) (hc : c = pRest (pB x)) (hn : ng = pNeg (pB x)) : pRes x = pSigned ng (pFound c) := by
  rw [pRes, if_neg (by rw [h1, h2]; simp), hc, hn]
theorem found_nan (h : (c == Str.ofString "NaN") = true) : pFound c = some (0, 0) := by rw [pFound, if_pos h]
theorem found_inf1 (h : (c == Str.ofString "NaN") = false) (h2 : (Txt.lower c == Str.ofString "inf") = true) : pFound c = some (1, 0) := by
  rw [pFound, if_neg (by rw [h]; simp), if_pos (Or.inl h2)]
theorem found_inf2 (h : (c == Str.ofString "NaN") = false) (h2 : (Txt.lower c == Str.ofString "infinity") = true) : pFound c = some (1, 0) := by
  rw [pFound, if_neg (by rw [h]; simp), if_pos (Or.inr h2)]
theorem found_uns {f : Option (Int × Int)} (h : (c == Str.ofString "NaN") = false) (h2 : (Txt.lower c == Str.ofString "inf") = false) (h3 : (Txt.lower c == Str.ofString "infinity") = false) (e : uRes c = f) : pFound c = f := by
  rw [pFound, if_neg (by rw [h]; simp), if_neg (by rw [h2, h3]; simp), e]
theorem sg_no (e : pFound c = none) : pSigned ng (pFound c) = none := by rw [e]; rfl
theorem sg_neg (h : ng = true) (e : pFound c = some (p, q)) : pSigned ng (pFound c) = some (some (0 - p, q)) := by rw [e, h]; rfl
theorem sg_pos (h : ng = false) (e : pFound c = some (p, q)) : pSigned ng (pFound c) = some (some (p, q)) := by rw [e, h]; rfl
end
theorem news_drop4 {h₀ h : Heap} {L : Addr} {a b c d : Addr × Obj} {l : List (Addr × Obj)} (N : News h₀ L h (a :: b :: c :: d :: l)) : News h₀ L h (a :: b :: l) := fun p hp => N p (by
  simp only [List.mem_cons] at hp ⊢; rcases hp with h | h | h <;> simp only [h, true_or, or_true])
theorem news_mid {h₀ h : Heap} {L : Addr} {a b c : Addr × Obj} {l : List (Addr × Obj)} (N : News h₀ L h (a :: b :: c :: l)) : News h₀ L h (a :: c :: l) := fun p hp => N p (by
  simp only [List.mem_cons] at hp ⊢; rcases hp with h | h | h <;> simp only [h, true_or, or_true])
end Mine
namespace Mine
local macro_rules | `(tactic| k_all) => `(tactic| assumption)
noncomputable def dch (d : Nat) : Nat := (Str.ofString "0123456789aBcDeF").cps.getD d 0
noncomputable def dvN (b : Int) (ds : List Nat) : Int := ds.foldl (fun (v : Int) (d : Nat) => v * b + (d : Int)) 0
noncomputable def DigP (b : Int) (k : Nat) (row : Str) (total : Int) : Prop := ∃ ds : List Nat, ds.length = k ∧ (∀ d ∈ ds, (d : Int) < b) ∧ row = ST (ds.map dch) ∧ total = dvN b ds
theorem digP0 (b : Int) : DigP b ([] : List Int).length (Str.ofString "") 0 := ⟨[], rfl, fun _ h => (nomatch h), by decide, rfl⟩
theorem own_rest {rest own : List (Addr × Obj)} {pa : Addr} {o : Obj} {l : List (Addr × Obj)} (h : ∀ p ∈ rest, p.1 ≠ pa) (ho : OwnOff own (((pa, o) :: l).map (·.1))) : ∀ p ∈ rest ++ own, p.1 ≠ pa := fun p hp =>
  (List.mem_append.mp hp).elim (h p) fun h2 => ho p h2 pa (.head _)
theorem dig_state {b x : Int} {pre : List Int} {j i' tot : Int} {row : Str} (h0 : 0 ≤ x) (h1 : x < b) (hi : 0 ≤ i') (hb : 2 ≤ b ∧ b ≤ 16) (hd : DigP b pre.length row tot) :
    0 ≤ i' ∧ DigP b (pre ++ [j]).length (row ++ Txt.item (Str.ofString "0123456789aBcDeF") x) (tot * b + x) := by
  obtain ⟨ds, e1, e2, e3, e4⟩ := hd
  refine ⟨hi, ds ++ [x.toNat], by simp [e1], ?_, ?_, ?_⟩
  · intro d hd
    rcases List.mem_append.mp hd with h | h
    · exact e2 d h
    · rw [List.mem_singleton.mp h]; omega
  · have hx : x.toNat < 16 := by omega
    have key : ∀ k < 16, Txt.item (Str.ofString "0123456789aBcDeF") ((k : Nat) : Int) = ST [dch k] := by decide +kernel
    have hxx : ((x.toNat : Nat) : Int) = x := by omega
    rw [← hxx, key _ hx, e3, ST_append, List.map_append]
    have : ((x.toNat : Nat) : Int).toNat = x.toNat := by omega
    rw [this]; rfl
  · unfold dvN
    rw [List.foldl_append, e4]
    show _ = dvN b ds * b + ((x.toNat : Nat) : Int)
    have hxx : ((x.toNat : Nat) : Int) = x := by omega
    rw [hxx]
theorem dig_len {b : Int} {k : Nat} {row : Str} {tot : Int} (h : DigP b k row tot) : row.length = k := by
  obtain ⟨ds, e1, _, e3, _⟩ := h
  rw [e3, ST_len, List.length_map, e1]
theorem dig_end {b k : Int} {row : Str} {tot : Int} (h : DigP b (rangeKs 0 (k - 0).toNat).length row tot) : DigP b k.toNat row tot := by
  rw [rangeKs_length] at h
  have e : (k - 0).toNat = k.toNat := by omega
  rw [e] at h; exact h
theorem led_in2 {α : Type} {a b : α} {r o : List α} : ∀ p ∈ a :: b :: r, p ∈ a :: b :: (r ++ o) := fun p hp => by
  simp only [List.mem_cons, List.mem_append] at hp ⊢; rcases hp with h | h | h <;> simp only [h, true_or, or_true]
theorem own_in2 {α : Type} {a b : α} {r o : List α} : ∀ p ∈ o, p ∈ a :: b :: (r ++ o) := fun p hp => by
  simp only [List.mem_cons, List.mem_append]; simp only [hp, or_true]
theorem digits_ct (w : World) (pa fa : Addr) (i mx b k : Int) (ti tm tb tk : Tok) (n nf : Nat) (vs : List Value) (ns : List Int) (rest : List (Addr × Obj)) (hI : IntsAre vs ns) (hlen : ns.length < 2 ^ 62) (hi : 0 ≤ i) (hb : 2 ≤ b ∧ b ≤ 16) (hkk : 0 ≤ k ∧ k ≤ 30) (hne : pa ≠ fa) (hne2 : fa ≠ pa) (hra : ∀ p ∈ rest, p.1 ≠ pa) :
    Ct w 2 150 [.ref pa, .int b tb, .int k tk] ((pa, poolO fa i ti mx tm n) :: (fa, W.listOf vs.toArray nf) :: rest)
     (fun r news' => ∃ a row total t t2 i' ti' mx' tm' n', r = .ref a ∧ DigP b k.toNat row total ∧ 0 ≤ i' ∧ (a, tup2 (.str row t) (.int total t2)) :: (pa, poolO fa i' ti' mx' tm' n') :: (fa, W.listOf vs.toArray nf) :: rest = news' ∧ pa < a ∧ fa < a ∧ ∀ p ∈ rest, p.1 < a) := by
  k_with_none
  w_top off
  k_with "execs nil" => ((with_reducible refine wpAny_execs_nil ?_))
  k_with "execs cons" => ((with_reducible refine wpAny_execs_cons ?_))
  k_with "exec If" => ((with_reducible refine wpAny_If ?_))
  k_with "call ref" => ((k_here; (with_reducible show wpAny _ _ (call (Value.ref 136) _) _ _ _); k_dflt (refine pick_use (by k_asm) (by k_asm) (by k_asm) (by first | k_asm | exact news_f1 (by k_asm) | exact news_f2 (by k_asm) | exact news_f3 (by k_asm)) (by k_asm) (by first | exact rfl | assumption) (by ktr_room) (by ktr_units) (by assumption) (by assumption) (by assumption) (by first | decide | omega) (by assumption) (by assumption) (by k_all) ?_; intro x9 t9 i9 ti9 mx9 tm9 n9 h9 tk9 hx9 hy9 hi9 F9 N9; (try dsimp only); (try k_sweep); (try k_fold))))
  unfold Ct
  intro mean mg mb dp un gd cn cs a ccd cl outer A₀ base h₀ L m s Q E B F X N T hk hd hu hret
  refine wpAny_call ?_
  k_dflt ktr_enter
  k_with "pyIter ref" => k_dflt (
    with_reducible show wpAny _ _ (pyIter (Value.ref _)) (fun it s₂ => LoopAtV _ _ _ _ _ _ _ _ _ it s₂) _ _
    rename Fr _ _ _ _ => lF
    rename News _ _ _ _ => lN
    rename IsRange _ _ _ _ _ _ _ _ => rgX
    with_unfolding_all refine' kst_range (σ := Int × Tok × Int × Tok × Nat × Str × Tok × Int × Tok) (fun c => (pa, poolO fa c.1 c.2.1 c.2.2.1 c.2.2.2.1 c.2.2.2.2.1) :: (fa, W.listOf vs.toArray nf) :: rest) (fun c => [(Str.ofString "row", .str c.2.2.2.2.2.1 c.2.2.2.2.2.2.1), (Str.ofString "total", .int c.2.2.2.2.2.2.2.1 c.2.2.2.2.2.2.2.2)]) (fun _ => True) [Str.ofString "figure"] (fun pre c => 0 ≤ c.1 ∧ DigP b pre.length c.2.2.2.2.2.1 c.2.2.2.2.2.2.2.1) ⟨i, ti, mx, tm, n, _, _, _, _⟩ (by rfl) (by exact rgX) (small_one (by omega) (by omega) (by omega) (by omega)) (rangeSize_nat _ _) lF ?kn trivial ?kk ?kp ?_ ?_
    (case kn => exact lN)
    (case kk => ((try dsimp only); repeat (first | exact List.forall_mem_nil _ | refine List.forall_mem_cons.mpr ⟨by rfl, ?_⟩)))
    (case kp => exact ⟨hi, digP0 b⟩)
    all_goals clear lF lN rgX
    rintro ⟨i1, ti1, mx1, tm1, n1, row, trow, tot, ttot⟩ pre j tj u h tk9 own ej hj hoff hTr9 ⟨hi1, hdig⟩ Fk Nk
    have hra9 := own_rest hra hoff
    have hrl9 := dig_len hdig
    have kMk : KstMark := kstMark
    simp only [List.cons_append] at Nk
    (try dsimp only at Fk Nk hdig hi1)
    (try k_fold)
    rotate_left
    rintro ⟨i1, ti1, mx1, tm1, n1, row, trow, tot, ttot⟩ u h tk9 hTr9 ⟨hi1, hdig⟩ Fk Nk
    (try dsimp only at Fk Nk hdig hi1)
    (try k_fold)
    rotate_left)
  k_with "state" => exact dig_state (by with_reducible assumption) (by with_reducible assumption) (by with_reducible assumption) (by with_reducible assumption) (by with_reducible assumption)
  k_steps
  · rename Fr _ _ _ _ => F8
    rename News _ _ _ _ => N8
    refine' kst_end ⟨_, _, _, _, _, _, _, _, _⟩ F8 N8 led_in2 own_in2 rfl trivial ?hk9 ?hr9 ?hp9
    case hk9 => ((try dsimp only); repeat (first | exact List.forall_mem_nil _ | refine List.forall_mem_cons.mpr ⟨by rfl, ?_⟩))
    case hr9 =>
      intro z h1 h2 h3
      have h4 : z ≠ Str.ofString "row" := h2 _ (.head _)
      have h5 : z ≠ Str.ofString "total" := h2 _ (.tail _ (.head _))
      have h6 : z ≠ Str.ofString "figure" := by
        intro e; rw [e] at h3; revert h3; decide
      simp [kstB, h1, h4, h5, h6]
    case hp9 => exact dig_state (by with_reducible assumption) (by with_reducible assumption) (by with_reducible assumption) hb hdig
  · rename Fr h₀ _ _ _ => F8
    rename News h₀ _ _ _ => N8
    rename _ ∧ _ ∧ AllLt _ rest => l8
    exact hret _ _ _ _ ⟨_, _, _, _, _, _, _, _, _, _, rfl, dig_end hdig, hi1, rfl, l8.1, l8.2.1, kst_ltOf l8.2.2⟩ F8 N8

theorem digits_use {w : World} {pa fa : Addr} {i mx b k : Int} {ti tm tb tk : Tok} {n nf : Nat} {vs : List Value} {ns : List Int} {rest : List (Addr × Obj)}
  {mean : ExcName → Option Value} {mg mb : Str → Option Value} {dp un : Nat} {gd : Option (List Code)} {cn : Str} {cs : Scope} {a : Addr} {ccd : Value} {cl : List (Str × Addr)} {outer : List Env} {A₀ : Around} {base h₀ : Heap} {L : Addr} {m : Str → Option Value} {s : Shared}
    {Q E : Value → Shared → Prop} (B : Below A₀ base outer h₀) (F : Fr h₀ L s.heap m) (X : (Mine.hd.heap_39 w.params).In h₀) (N : News h₀ L s.heap ((pa, poolO fa i ti mx tm n) :: (fa, W.listOf vs.toArray nf) :: rest)) (T : Top Mine.hd.view_39 (looseW Mine.hd.view_39 []) mean mg mb h₀) (hk : cs.kind = .function) (hd : dp + 2 < recursionLimit) (hu : un + 8 * 2 < cLine)
    (hI : IntsAre vs ns) (hlen : ns.length < 2 ^ 62) (hi : 0 ≤ i) (hb : 2 ≤ b ∧ b ≤ 16) (hkk : 0 ≤ k ∧ k ≤ 30) (hne : pa ≠ fa) (hne2 : fa ≠ pa) (hra : ∀ p ∈ rest, p.1 ≠ pa)
    (ret : ∀ a row total t t2 i' ti' mx' tm' n' h' tk', DigP b k.toNat row total → 0 ≤ i' → pa < a → fa < a → (∀ p ∈ rest, p.1 < a) → Fr h₀ L h' m → News h₀ L h' ((a, tup2 (.str row t) (.int total t2)) :: (pa, poolO fa i' ti' mx' tm' n') :: (fa, W.listOf vs.toArray nf) :: rest) → Q (.ref a) { s with heap := h', toks := tk' }) :
    wpAny (model PySem.Challenge.rw_no0501_01.row.prog w) (ktrTop dp un gd cn cs L a ccd cl outer) (call (.ref 150) [.ref pa, .int b tb, .int k tk]) Q E s :=
  ct_use (digits_ct w pa fa i mx b k ti tm tb tk n nf vs ns rest hI hlen hi hb hkk hne hne2 hra) B F X N T hk hd hu fun r news' h' tk' ⟨a, row, total, t, t2, i', ti', mx', tm', n', e, h1, h2, e2, h3, h4, h5⟩ F' N' => by
    subst e; subst e2; exact ret a row total t t2 i' ti' mx' tm' n' h' tk' h1 h2 h3 h4 h5 F' N'

end Mine
namespace Mine
theorem red_gcd (n d : Int) : Int.gcd (if n < 0 then -n else n) d = Int.gcd n d := by
  unfold Int.gcd; congr 1; split <;> omega
theorem red_ct (w : World) (n d : Int) (tn td : Tok) (news : List (Addr × Obj)) (hd9 : 0 < d) (hb : d ≤ 10000000000000000000000000000000000000000000000000000000000000000000000000000000000000000000000000000) :
    Ct w 1 143 [.int n tn, .int d td] news (fun r news' => ∃ a p q t1 t2, r = .ref a ∧ (a, tup2 (.int p t1) (.int q t2)) :: news = news' ∧ p = n / (Int.gcd n d : Nat) ∧ q = d / (Int.gcd n d : Nat) ∧ ∀ p ∈ news, p.1 < a) := by
  k_with_none
  w_top off
  k_with "binaryOp FloorDiv int int" => (((with_reducible refine floordiv_int ?_ ?_ (Or.inl (noPy ?_))); omega; rotate_left; omega))
  k_with "binaryOp Mod int int" => (((with_reducible refine mod_int' ?_ ?_ (Or.inl (noPy ?_))); omega; rotate_left; omega))
  k_with "execs nil" => ((with_reducible refine wpAny_execs_nil ?_))
  k_with "execs cons" => ((with_reducible refine wpAny_execs_cons ?_))
  k_with "exec If" => ((with_reducible refine wpAny_If ?_))
  unfold Ct
  intro mean mg mb dp un gd cn cs a ccd cl outer A₀ base h₀ L m s Q E B F X N T hk hd hu hret
  refine wpAny_call ?_
  k_dflt ktr_enter
  k_with "exec While Compare cons nil" => k_dflt (k_while (fun _ a b => 0 ≤ a ∧ 0 ≤ b ∧ b ≤ 10000000000000000000000000000000000000000000000000000000000000000000000000000000000000000000000000000 ∧ Nat.gcd a.toNat b.toNat = Int.gcd (if n < 0 then -n else n) d) (fun _ a b => b.toNat) "one" "two")
  k_with "state" => first | exact gcd_step (by assumption) (by assumption) (by assumption) (by assumption) (by assumption) | exact gcd_start (by split <;> omega) (by omega) (by omega)
  k_with "measure" => exact gcd_meas (by assumption) (by assumption)
  k_steps
  rename Nat.gcd _ _ = Int.gcd _ _ => h3
  obtain ⟨g1, g2, g3⟩ := gcd_end (by assumption) (by assumption) h3 (by assumption) hd9
  rw [red_gcd] at g1
  k_steps
  rename Fr h₀ _ _ _ => F8
  rename News h₀ _ _ _ => N8
  rename _ ∧ AllLt _ news => l8
  refine hret _ _ _ _ ⟨_, _, _, _, _, rfl, rfl, ?_, ?_, kst_ltOf l8.2⟩ F8 (news_drop2 N8)
  · rw [← g1]; exact Int.fdiv_eq_ediv_of_nonneg _ (by omega)
  · rw [← g1]; exact Int.fdiv_eq_ediv_of_nonneg _ (by omega)

end Mine
namespace Mine
theorem nd_len {m k : Nat} (h : m < 10 ^ k) (hk : 0 < k) : (nd m).length ≤ k := by
  unfold nd
  rw [List.length_map]
  exact (Nat.length_toDigits_le_iff (by decide) hk).mpr h
theorem join1 (a : Str) : Txt.join (Str.ofString "") [a] = a := by
  refine Str.ext' ?_
  simp [Txt.join, Builtin.Str.glued]
theorem join2 (a b : Str) : Txt.join (Str.ofString "") [a, b] = a ++ b := by
  refine Str.ext' ?_
  have h : (Str.ofString "").cps = #[] := by decide
  simp [Txt.join, Builtin.Str.glued, h, Str.cps_append]
theorem whole_end1 {n : Int} (h : n < 0) : Txt.join (Str.ofString "") [Str.ofString "-", Str.ofString (toString (if n < 0 then -n else n))] = ST (itext n) := by
  rw [join2, ST_int, if_pos h, ST_ofString "-", ST_append]
  congr 1
  have h2 : ¬ (-n < 0) := by omega
  rw [itext, itext, if_neg h2, if_pos h]
  simp [Int.natAbs_neg]
theorem whole_end2 {n : Int} (h : ¬ n < 0) : Txt.join (Str.ofString "") [Str.ofString (toString (if n < 0 then -n else n))] = ST (itext n) := by
  rw [join1, ST_int, if_neg h]
theorem whole_ct (w : World) (n : Int) (tn : Tok) (news : List (Addr × Obj)) (hn : n.natAbs < 1000000000000000000) :
    Ct w 2 52 [.int n tn] news (fun r news' => news = news' ∧ ∃ t, r = .str (ST (itext n)) t) := by
  k_with_none
  w_top off
  k_with "binaryOp FloorDiv int int" => (((with_reducible refine floordiv_int ?_ ?_ (Or.inl (noPy ?_))); omega; rotate_left; omega))
  k_with "binaryOp Mod int int" => (((with_reducible refine mod_int' ?_ ?_ (Or.inl (noPy ?_))); omega; rotate_left; omega))
  k_with "call ref" => ((k_here; (with_reducible show wpAny _ _ (call (Value.ref 45) _) _ _ _); k_dflt (refine ct_use2 (by k_asm) (by k_asm) (by k_asm) (by k_asm) (by k_asm) (by first | exact rfl | assumption) (by ktr_room) (by ktr_units) (nearest_ct _ _ _ _ _ _ (by omega) (by omega) (by omega) (by first | with_reducible assumption | omega)) ?_; intro r9 news9 h9 tk9 ho9 F9 N9; (try dsimp only at ho9); obtain ⟨e8, q9, t9, e9, eq9⟩ := ho9; subst e8; subst e9; (all_goals (try dsimp only at N9)); (all_goals (try dsimp only)); (all_goals (try k_sweep)); (all_goals (try k_fold)))))
  k_with "WhlIf" => ((refine WhlIf.no (by assumption) ?_))
  k_with "call builtin:str.join" => ((k_here; (rename News _ _ _ _ => nJ); first | (refine join_list (News.isList nJ (.head _)) (StrsAre.cons _ _ .nil) ?_ ?_; assumption; intro _ _) | (refine join_list (News.isList nJ (.head _)) (StrsAre.cons _ _ (StrsAre.cons _ _ .nil)) ?_ ?_; assumption; intro _ _)))
  unfold Ct
  intro mean mg mb dp un gd cn cs a ccd cl outer A₀ base h₀ L m s Q E B F X N T hk hd hu hret
  refine wpAny_call ?_
  k_dflt ktr_enter
  have hw9 : decide ((10:Int) ^ Int.toNat 18 ≤ if n < 0 then -n else n) = false := by
    have e9 : (10:Int) ^ Int.toNat 18 = 1000000000000000000 := by decide +kernel
    rw [e9]; split <;> (apply decide_eq_false; omega)
  have hl9 : (Str.ofString (toString (if n < 0 then -n else n))).length ≤ 18 := by
    rw [ST_int, ST_len, itext, if_neg (by split <;> omega)]
    exact nd_len (by have : (if n < 0 then -n else n).natAbs = n.natAbs := by split <;> omega
                     rw [this]; exact hn) (by decide)
  have hj1 : (List.map (·.length) [Str.ofString (toString (if n < 0 then -n else n))]).sum + [Str.ofString (toString (if n < 0 then -n else n))].length * (Str.ofString "").length ≤ 16777216 := by
    have h0 : (Str.ofString "").length = 0 := by decide
    simp only [List.map_cons, List.map_nil, List.sum_cons, List.sum_nil, List.length_cons, List.length_nil, h0]; omega
  have hj2 : (List.map (·.length) [Str.ofString "-", Str.ofString (toString (if n < 0 then -n else n))]).sum + [Str.ofString "-", Str.ofString (toString (if n < 0 then -n else n))].length * (Str.ofString "").length ≤ 16777216 := by
    have h0 : (Str.ofString "").length = 0 := by decide
    have h1 : (Str.ofString "-").length = 1 := by decide
    simp only [List.map_cons, List.map_nil, List.sum_cons, List.sum_nil, List.length_cons, List.length_nil, h0, h1]; omega
  k_steps
  · exact hret _ _ _ _ ⟨rfl, _, congrArg (Value.str · _) (whole_end1 (by assumption))⟩ (by assumption) (fun p hp => by
      rename News _ _ _ _ => nE
      exact nE p (.tail _ hp))
  · exact hret _ _ _ _ ⟨rfl, _, congrArg (Value.str · _) (whole_end2 (by assumption))⟩ (by assumption) (fun p hp => by
      rename News _ _ _ _ => nE
      exact nE p (.tail _ hp))

end Mine
namespace Mine
theorem rmul_bool_str (b : Bool) (x : Str) (u : Tok) :
    Gives (Builtin.«int.__rmul__» ⟨[.bool b, .str x u], []⟩) (.val (Value.notImplemented)) :=
  .of_wp fun M A E s Q h => by obtain ⟨hp, g, d, tk, os⟩ := s; wp_walk; exact ⟨_, rfl, h⟩
theorem str_mul_bool (b : Bool) (x : Str) (u : Tok) :
    Gives (Builtin.«str.__mul__» ⟨[.str x u, .bool b], []⟩) (if b = true then .val (.str x u) else .str Str.empty) := by
  cases b
  · exact .rule (.of_eq rfl)
  · exact .rule (.of_eq rfl)
theorem mul_sb {prog : Program} {w : World} {A : Around} {E : Value → Shared → Prop} {s : Shared} {x : Str} {b : Bool} {t : Tok} {Q : Value → Shared → Prop}
    (h : ∀ y t' k, y = (if b = true then x else Str.ofString "") → y.length ≤ x.length → Q (.str y t') { s with toks := k }) : wpAny (model prog w) A (binaryOp .Mult (.str x t) (.bool b)) Q E s := by
  refine wpAny_binaryOp_repeat (T := "str") (U := "bool") (by decide) (fun s' => typeIs_str s' x t) (fun s' => rfl) noFill_str_mul F.fills_bool_mul F.slot_bool_rmul repeat_str F.slot_bool_index.lookup
    (call_gives F.slot_bool_rmul rfl F.entry_int_rmul (F.args_int_rmul_2 _ _) (rmul_bool_str b x t)
      ⟨rfl, call_gives F.slot_str_mul (typeIs_str s x t) F.entry_str_mul (F.args_str_mul_2 _ _) (str_mul_bool b x t) ?_⟩)
  cases b
  · exact ⟨by decide, h _ s.toks _ rfl (by show (Str.ofString "").length ≤ _; rw [show (Str.ofString "").length = 0 by decide]; omega)⟩
  · exact h _ t s.toks rfl (Nat.le_refl _)

end Mine
namespace Mine
theorem base_pick {x i : Int} (h0 : 0 ≤ x) (h1 : x < 2) (hi : 0 ≤ i) : 0 ≤ i ∧ ([10, 16].getD x.toNat 0 = (10 : Int) ∨ [10, 16].getD x.toNat 0 = (16 : Int)) := by
  have hx : x.toNat < 2 := by omega
  have key : ∀ k < 2, ([10, 16].getD k 0 = (10 : Int) ∨ [10, 16].getD k 0 = (16 : Int)) := by decide
  exact ⟨hi, key _ hx⟩
theorem num_bef {b x i hg : Int} {bf : Str} (hd : DigP b x.toNat bf hg) (hy : x < 20) (hi : 0 ≤ i) : 0 ≤ i ∧ ∃ k : Nat, k ≤ 19 ∧ DigP b k bf hg := ⟨hi, _, by omega, hd⟩
theorem num_pt1 {i x : Int} {bf : Str} (h : x = 1) (hi : 0 ≤ i) : 0 ≤ i ∧ ((x == 1) = true ∨ (bf == Str.ofString "") = false) := ⟨hi, Or.inl (by simp [h])⟩
theorem num_pt2 {i : Int} {bf : Str} (hi : 0 ≤ i) : 0 ≤ i ∧ ((bf == Str.ofString "") = true ∨ (bf == Str.ofString "") = false) := ⟨hi, by cases (bf == Str.ofString "") <;> simp⟩
theorem num_b1 {i b x lw : Int} {bf bh : Str} {pt : Bool} (hd : DigP b x.toNat bh lw) (h1 : pt = true) (h2 : (bf != Str.ofString "") = true) (hy : x < 6) (hi : 0 ≤ i) : 0 ≤ i ∧ ∃ k : Nat, k ≤ 5 ∧ DigP b k bh lw ∧ (pt = false → k = 0) ∧ ((bf == Str.ofString "") = true → 1 ≤ k) := by
  refine ⟨hi, x.toNat, by omega, hd, ?_, ?_⟩
  · intro h; rw [h1] at h; cases h
  · intro h; simp [h, bne] at h2
theorem num_b2 {i b x lw : Int} {bf bh : Str} {pt : Bool} (hd : DigP b (1 + x).toNat bh lw) (h1 : pt = true) (hx : 0 ≤ x) (hy : x < 5) (hi : 0 ≤ i) : 0 ≤ i ∧ ∃ k : Nat, k ≤ 5 ∧ DigP b k bh lw ∧ (pt = false → k = 0) ∧ ((bf == Str.ofString "") = true → 1 ≤ k) := by
  refine ⟨hi, (1 + x).toNat, by omega, hd, ?_, ?_⟩
  · intro h; rw [h1] at h; cases h
  · intro h; omega
theorem num_b3 {i b : Int} {bf : Str} {pt : Bool} (h1 : pt = false) (hpt : pt = true ∨ (bf == Str.ofString "") = false) (hi : 0 ≤ i) : 0 ≤ i ∧ ∃ k : Nat, k ≤ 5 ∧ DigP b k (Str.ofString "") 0 ∧ (pt = false → k = 0) ∧ ((bf == Str.ofString "") = true → 1 ≤ k) :=
  ⟨hi, 0, by omega, digP0 b, fun _ => rfl, fun h => by rcases hpt with h2 | h2 <;> simp_all⟩
noncomputable def PreP (b : Int) (r : Str) : Prop := (b = 10 ∧ r = Str.ofString "") ∨ (b = 16 ∧ (r = Str.ofString "0x" ∨ r = Str.ofString "0X"))
theorem num_pre {i b : Int} {r : Str} (h : b = 16) (hr : r ∈ [Str.ofString "0x", Str.ofString "0X"]) (hi : 0 ≤ i) : 0 ≤ i ∧ PreP b r := by
  refine ⟨hi, Or.inr ⟨h, ?_⟩⟩
  simpa using hr
theorem num_pre0 {i b : Int} (hb : b = 10 ∨ b = 16) (h : b ≠ 16) (hi : 0 ≤ i) : 0 ≤ i ∧ PreP b (Str.ofString "") := ⟨hi, Or.inl ⟨by omega, rfl⟩⟩
theorem pre_len {b : Int} {r : Str} (h : PreP b r) : r.length ≤ 2 := by
  rcases h with ⟨_, h⟩ | ⟨_, h | h⟩ <;> rw [h] <;> decide
noncomputable def dotS (pt : Bool) : Str := if pt then Str.ofString "." else Str.ofString ""
theorem num_rw1 {i : Int} {rw bf bh : Str} {pt : Bool} (h : pt = true) (hi : 0 ≤ i) : 0 ≤ i ∧ rw ++ (bf ++ Str.ofString "." ++ bh) = rw ++ (bf ++ dotS pt ++ bh) := ⟨hi, by rw [h]; rfl⟩
theorem num_rw2 {i : Int} {rw bf bh : Str} {pt : Bool} (h : pt = false) (hi : 0 ≤ i) : 0 ≤ i ∧ rw ++ (bf ++ Str.ofString "" ++ bh) = rw ++ (bf ++ dotS pt ++ bh) := ⟨hi, by rw [h]; rfl⟩
theorem rw2_len {rw bf bh rw2 : Str} {pt : Bool} (e : rw2 = rw ++ (bf ++ dotS pt ++ bh)) (h1 : rw.length ≤ 2) (h2 : bf.length ≤ 19) (h3 : bh.length ≤ 5) : rw2.length ≤ 27 := by
  have h4 : (dotS pt).length ≤ 1 := by cases pt <;> decide
  rw [e, Str.length_append, Str.length_append, Str.length_append]; omega
noncomputable def marks (b : Int) : Str := if b = 16 then Str.ofString "pP" else Str.ofString "eE"
noncomputable abbrev farL : List Int := [0, 3, -2, 20, -30, 4096, 5000, -5000, 123456789]
noncomputable def ExP (b : Int) (rw2 rw3 : Str) (fr : Int) : Prop := (rw3 = rw2 ∧ fr = 0) ∨ ∃ (x y : Int) (sg : Str), 0 ≤ x ∧ x < 2 ∧ sg ∈ [Str.ofString "", Str.ofString "+", Str.ofString "0"] ∧ 0 ≤ y ∧ y < 9 ∧ fr = farL.getD y.toNat 0 ∧ rw3 = rw2 ++ (Txt.item (marks b) x ++ (if 0 ≤ fr then sg else Str.ofString "") ++ ST (itext fr))
theorem exo_n {i b : Int} {r : Str} (hi : 0 ≤ i) : 0 ≤ i ∧ ExP b r r 0 := ⟨hi, Or.inl ⟨rfl, rfl⟩⟩
theorem exo_a {i b x y : Int} {r sg z f : Str} (hb : b = 16) (hx : 0 ≤ x) (hx2 : x < 2) (hs : sg ∈ [Str.ofString "", Str.ofString "+", Str.ofString "0"]) (hy : 0 ≤ y) (hy2 : y < 9) (hf : f = ST (itext (farL.getD y.toNat 0))) (hz : z = if decide (0 ≤ farL.getD y.toNat 0) = true then sg else Str.ofString "") (hi : 0 ≤ i) :
    0 ≤ i ∧ ExP b r (r ++ (Txt.item (Str.ofString "pP") x ++ z ++ f)) (farL.getD y.toNat 0) := by
  refine ⟨hi, Or.inr ⟨x, y, sg, hx, hx2, hs, hy, hy2, rfl, ?_⟩⟩
  rw [hf, hz, marks, if_pos hb]; simp only [decide_eq_true_eq]
theorem exo_b {i b x y : Int} {r sg z f : Str} (hb : b ≠ 16) (hx : 0 ≤ x) (hx2 : x < 2) (hs : sg ∈ [Str.ofString "", Str.ofString "+", Str.ofString "0"]) (hy : 0 ≤ y) (hy2 : y < 9) (hf : f = ST (itext (farL.getD y.toNat 0))) (hz : z = if decide (0 ≤ farL.getD y.toNat 0) = true then sg else Str.ofString "") (hi : 0 ≤ i) :
    0 ≤ i ∧ ExP b r (r ++ (Txt.item (Str.ofString "eE") x ++ z ++ f)) (farL.getD y.toNat 0) := by
  refine ⟨hi, Or.inr ⟨x, y, sg, hx, hx2, hs, hy, hy2, rfl, ?_⟩⟩
  rw [hf, hz, marks, if_neg hb]; simp only [decide_eq_true_eq]
theorem far_in {y : Int} (h0 : 0 ≤ y) (h1 : y < 9) : (-35 ≤ farL.getD y.toNat 0 ∨ farL.getD y.toNat 0 < -4096) ∧ -5000 ≤ farL.getD y.toNat 0 ∧ farL.getD y.toNat 0 ≤ 123456789 := by
  have key : ∀ k < 9, (-35 ≤ farL.getD k 0 ∨ farL.getD k 0 < -4096) ∧ -5000 ≤ farL.getD k 0 ∧ farL.getD k 0 ≤ 123456789 := by decide
  exact key _ (by omega)
theorem ex_far {b fr : Int} {r r' : Str} (h : ExP b r r' fr) : (-35 ≤ fr ∨ fr < -4096) ∧ -5000 ≤ fr ∧ fr ≤ 123456789 := by
  rcases h with ⟨_, h⟩ | ⟨x, y, sg, _, _, _, h1, h2, h, _⟩
  · rw [h]; decide
  · rw [h]; exact far_in h1 h2
section
variable {prog : Program} {w : World} {A : Around} {E : Value → Shared → Prop} {s : Shared}
theorem str_far {y : Int} {t : Tok} {Q : Value → Shared → Prop} (h0 : 0 ≤ y) (h1 : y < 9) (h : ∀ f t' k, f = ST (itext (farL.getD y.toNat 0)) → f.length ≤ 10 → Q (.str f t') { s with toks := k }) :
    wpAny (model prog w) A (call (.type "str") [.int (farL.getD y.toNat 0) t]) Q E s := by
  have hb := (far_in h0 h1).2
  have hl : (farL.getD y.toNat 0).natAbs < 10 ^ 9 := by
    have : (10 : Nat) ^ 9 = 1000000000 := by decide
    omega
  refine P.str_of_int ?_ ?_
  · by_cases h9 : (farL.getD y.toNat 0).natAbs = 0
    · rw [h9]; decide +kernel
    · have := (Nat.log2_lt h9 (k := 30)).mpr (Nat.lt_trans hl (by decide))
      omega
  · have e : ((toString (farL.getD y.toNat 0) : String) : Str) = ST (itext (farL.getD y.toNat 0)) := ST_int _
    have := h _ s.toks (s.toks + 1) e (by
      rw [e, ST_len, itext]
      have hn : (nd (farL.getD y.toNat 0).natAbs).length ≤ 9 := nd_len hl (by decide)
      split
      · rw [List.length_cons]; omega
      · omega)
    exact this
theorem max0 {b : Int} {t u : Tok} {Q : Value → Shared → Prop} {h₀ : Heap} {L : Addr} {m : Str → Option Value} {news : List (Addr × Obj)} (hh : A.handled = none) (F : Fr h₀ L s.heap m) (N : News h₀ L s.heap news)
    (h : ∀ y t' h' tk, ((0 < b ∧ y = b) ∨ (b ≤ 0 ∧ y = 0)) → Fr h₀ L h' m → News h₀ L h' news → Q (.int y t') { s with heap := h', toks := tk }) :
    wpAny (model prog w) A (call (.builtin "max") [.int 0 t, .int b u]) Q E s :=
  max_two_N hh F N fun h' tk F' N' => h _ _ h' tk (by split <;> omega) F' N'
end
set_option exponentiation.threshold 1000 in
theorem dvN_lt {b : Int} (hb : 2 ≤ b ∧ b ≤ 16) : ∀ (ds : List Nat) (v : Int) (k : Nat), 0 ≤ v → v < b ^ k → (∀ d ∈ ds, (d : Int) < b) → 0 ≤ ds.foldl (fun (v : Int) (d : Nat) => v * b + (d : Int)) v ∧ ds.foldl (fun (v : Int) (d : Nat) => v * b + (d : Int)) v < b ^ (k + ds.length)
  | [], v, k, h0, h1, _ => ⟨h0, by simpa using h1⟩
  | d :: ds, v, k, h0, h1, h => by
    rw [List.foldl_cons, List.length_cons]
    have hd := h d (.head _)
    have h2 : v * b + (d : Int) < b ^ (k + 1) := by
      rw [Int.pow_succ]
      have h3 : v * b + b ≤ b ^ k * b := by
        have := Int.mul_le_mul_of_nonneg_right (show v + 1 ≤ b ^ k by omega) (show 0 ≤ b by omega)
        rw [Int.add_mul] at this; omega
      omega
    have h4 : 0 ≤ v * b := Int.mul_nonneg h0 (by omega)
    have := dvN_lt hb ds (v * b + (d : Int)) (k + 1) (by omega) h2 (fun x hx => h x (.tail _ hx))
    have e : k + 1 + ds.length = k + (ds.length + 1) := by omega
    rw [e] at this
    exact this
theorem digP_lt {b tot : Int} {k : Nat} {row : Str} (hb : 2 ≤ b ∧ b ≤ 16) (h : DigP b k row tot) : 0 ≤ tot ∧ tot < b ^ k := by
  obtain ⟨ds, e1, e2, _, e4⟩ := h
  have := dvN_lt hb ds 0 0 (by decide) (by simp) e2
  rw [e4, ← e1]
  simpa [dvN] using this
theorem pw_le {b : Int} {k m : Nat} (hb : 2 ≤ b ∧ b ≤ 16) (hk : k ≤ m) : 0 < b ^ k ∧ b ^ k ≤ 16 ^ m := by
  refine ⟨Int.pow_pos (by omega), ?_⟩
  have h2 : b ^ k = ((b.toNat ^ k : Nat) : Int) := by rw [Int.natCast_pow]; congr 1; omega
  rw [h2]
  have h3 : b.toNat ^ k ≤ 16 ^ m := Nat.le_trans (Nat.pow_le_pow_left (by omega) k) (Nat.pow_le_pow_right (by decide) hk)
  exact_mod_cast h3
theorem abs_lt {x : Int} (h0 : 0 ≤ x) (h1 : x ≤ 16 ^ 90) : x.natAbs < 2 ^ 400 := by
  have h2 : ((x.natAbs : Nat) : Int) ≤ 16 ^ 90 := by omega
  have h3 : x.natAbs ≤ 16 ^ 90 := by exact_mod_cast h2
  exact Nat.lt_of_le_of_lt h3 (by decide +kernel)
theorem num_hg {b hg : Int} {k : Nat} {bf : Str} (hb : b = 10 ∨ b = 16) (h : DigP b k bf hg) (hk : k ≤ 19) : 0 ≤ hg ∧ hg.natAbs < 2 ^ 400 ∧ hg < 16 ^ 19 := by
  obtain ⟨h1, h2⟩ := digP_lt (by omega) h
  have h3 := (pw_le (b := b) (by omega) hk).2
  refine ⟨h1, abs_lt h1 (Int.le_trans (Int.le_of_lt h2) (Int.le_trans h3 (by decide +kernel))), by omega⟩
noncomputable def numN (b hg lw : Int) (kl : Nat) : Int := hg * b ^ kl + lw
theorem num_n {b hg lw : Int} {kb kl : Nat} {bf bh : Str} (hb : b = 10 ∨ b = 16) (h : DigP b kb bf hg) (hk : kb ≤ 19) (h2 : DigP b kl bh lw) (hk2 : kl ≤ 5) : 0 ≤ numN b hg lw kl ∧ (numN b hg lw kl).natAbs < 2 ^ 400 := by
  obtain ⟨g1, g2, g3⟩ := num_hg hb h hk
  obtain ⟨l1, l2⟩ := digP_lt (by omega) h2
  obtain ⟨p1, p2⟩ := pw_le (b := b) (by omega) hk2
  have q1 : 0 ≤ hg * b ^ kl := Int.mul_nonneg g1 (by omega)
  have q2 : hg * b ^ kl ≤ 16 ^ 19 * 16 ^ 5 := Int.mul_le_mul (by omega) p2 (by omega) (by decide)
  unfold numN
  refine ⟨by omega, abs_lt (by omega) ?_⟩
  have q3 : (16 : Int) ^ 19 * 16 ^ 5 + 16 ^ 5 ≤ 16 ^ 90 := by decide +kernel
  omega
theorem num_nc {b hg lw i : Int} {kb kl : Nat} {bf bh : Str} (hb : b = 10 ∨ b = 16) (h : DigP b kb bf hg) (hk : kb ≤ 19) (h2 : DigP b kl bh lw) (hk2 : kl ≤ 5) (hl : bh.length = kl) (hi : 0 ≤ i) : 0 ≤ i ∧ hg * b ^ ((bh.length : Nat) : Int).toNat + lw = numN b hg lw kl ∧ 0 ≤ hg * b ^ ((bh.length : Nat) : Int).toNat + lw ∧ (hg * b ^ ((bh.length : Nat) : Int).toNat + lw).natAbs < 2 ^ 400 := by
  have e : ((bh.length : Nat) : Int).toNat = kl := by omega
  rw [e]
  exact ⟨hi, rfl, num_n hb h hk h2 hk2⟩
theorem num_ok1 {a b e : Int} (ha : a.natAbs < 2 ^ 400) (hb : b = 10 ∨ b = 16) (he : e ≤ 4096) : IntMulOk a (b ^ e.toNat) := mulOk ha (pow_lt9 (by omega) he)
theorem news_pf {h₀ h : Heap} {L : Addr} {a y P G : Addr × Obj} {l : List (Addr × Obj)} (N : News h₀ L h (a :: y :: P :: G :: l)) : News h₀ L h (P :: G :: a :: y :: l) := fun p hp => N p (by
  simp only [List.mem_cons] at hp ⊢; rcases hp with h | h | h | h | h <;> simp only [h, true_or, or_true])
noncomputable def ScP (b sc : Int) : Prop := (b = 10 ∧ sc = 10) ∨ (b = 16 ∧ sc = 2)
theorem num_ok2 {a b sc e : Int} (ha : a.natAbs < 2 ^ 400) (hs : ScP b sc) (he : e ≤ 4096) : IntMulOk a (sc ^ e.toNat) := mulOk ha (pow_lt9 (by unfold ScP at hs; omega) he)
theorem num_ok3 {b sc e : Int} {bh : Str} (hs : ScP b sc) (hl : bh.length ≤ 5) (he : e ≤ 4096) : IntMulOk (b ^ ((bh.length : Nat) : Int).toNat) (sc ^ e.toNat) := by
  have h1 := pw_le (b := b) (k := ((bh.length : Nat) : Int).toNat) (m := 5) (by unfold ScP at hs; omega) (by omega)
  exact num_ok2 (abs_lt (by omega) (Int.le_trans h1.2 (by decide +kernel))) hs he
theorem num_d {b sc e : Int} {k : Nat} (hs : ScP b sc) (hk : k ≤ 5) (he : e ≤ 35) : 0 < b ^ k * sc ^ e.toNat ∧ b ^ k * sc ^ e.toNat ≤ 10000000000000000000000000000000000000000000000000000000000000000000000000000000000000000000000000000 := by
  have h1 := pw_le (b := b) (k := k) (m := 5) (by unfold ScP at hs; omega) hk
  have h2 := pw_le (b := sc) (k := e.toNat) (m := 35) (by unfold ScP at hs; omega) (by omega)
  refine ⟨Int.mul_pos h1.1 h2.1, Int.le_trans (Int.mul_le_mul h1.2 h2.2 (Int.le_of_lt h2.1) (by decide)) (by decide +kernel)⟩
theorem sc_a {i b : Int} (hb : b = 10) (hi : 0 ≤ i) : 0 ≤ i ∧ ScP b 10 := ⟨hi, Or.inl ⟨hb, rfl⟩⟩
theorem sc_b {i b : Int} (hb : b = 10 ∨ b = 16) (h : b ≠ 10) (hi : 0 ≤ i) : 0 ≤ i ∧ ScP b 2 := ⟨hi, Or.inr ⟨by omega, rfl⟩⟩
theorem sc_small {b sc : Int} (h : ScP b sc) : sc.natAbs < 2 ^ 64 := by
  have e : (2 : Nat) ^ 64 = 18446744073709551616 := by decide
  rw [e]; unfold ScP at h; omega
theorem b_small {b : Int} (h : b = 10 ∨ b = 16) : b.natAbs < 2 ^ 64 := by
  have e : (2 : Nat) ^ 64 = 18446744073709551616 := by decide
  rw [e]; omega
theorem sc_bd {b sc : Int} (h : ScP b sc) : 2 ≤ sc ∧ sc ≤ 10 := by unfold ScP at h; omega
/-- what a numeral's value is -/
noncomputable def NumV (b n fr : Int) (kl : Nat) (p q : Int) : Prop :=
  ((n = 0 ∨ fr < -4096) ∧ p = 0 ∧ q = 1) ∨ (n ≠ 0 ∧ 4096 < fr ∧ p = 1 ∧ q = 0) ∨
  (n ≠ 0 ∧ -35 ≤ fr ∧ fr ≤ 4096 ∧ ∃ sc x y, ScP b sc ∧ ((0 < fr ∧ x = fr) ∨ (fr ≤ 0 ∧ x = 0)) ∧ ((0 < -fr ∧ y = -fr) ∨ (-fr ≤ 0 ∧ y = 0)) ∧
    p = n * sc ^ x.toNat / (Int.gcd (n * sc ^ x.toNat) (b ^ kl * sc ^ y.toNat) : Nat) ∧ q = b ^ kl * sc ^ y.toNat / (Int.gcd (n * sc ^ x.toNat) (b ^ kl * sc ^ y.toNat) : Nat))
noncomputable def NumP (row : Str) (p q : Int) : Prop := ∃ (b hg lw fr : Int) (kb kl : Nat) (rw bf bh : Str) (pt : Bool), PreP b rw ∧ kb ≤ 19 ∧ DigP b kb bf hg ∧ (pt = true ∨ (bf == Str.ofString "") = false) ∧ kl ≤ 5 ∧ DigP b kl bh lw ∧ (pt = false → kl = 0) ∧ ((bf == Str.ofString "") = true → 1 ≤ kl) ∧
  ExP b (rw ++ (bf ++ dotS pt ++ bh)) row fr ∧ NumV b (numN b hg lw kl) fr kl p q
theorem nv1 {b n fr : Int} {kl : Nat} (h : n = 0) : NumV b n fr kl 0 1 := Or.inl ⟨Or.inl h, rfl, rfl⟩
theorem nv2 {b n fr : Int} {kl : Nat} (h : fr < -4096) : NumV b n fr kl 0 1 := Or.inl ⟨Or.inr h, rfl, rfl⟩
theorem nv3 {b n fr : Int} {kl : Nat} (h0 : n ≠ 0) (h : 4096 < fr) : NumV b n fr kl 1 0 := Or.inr (Or.inl ⟨h0, h, rfl, rfl⟩)
theorem nv4 {b n fr sc x y p q : Int} {kl : Nat} {bh : Str} (h0 : n ≠ 0) (h : ¬ fr < -4096) (h2 : ¬ 4096 < fr) (hf : -35 ≤ fr ∨ fr < -4096) (hs : ScP b sc) (hx : (0 < fr ∧ x = fr) ∨ (fr ≤ 0 ∧ x = 0)) (hy : (0 < -fr ∧ y = -fr) ∨ (-fr ≤ 0 ∧ y = 0)) (hl : bh.length = kl)
    (hp : p = n * sc ^ x.toNat / (Int.gcd (n * sc ^ x.toNat) (b ^ ((bh.length : Nat) : Int).toNat * sc ^ y.toNat) : Nat)) (hq : q = b ^ ((bh.length : Nat) : Int).toNat * sc ^ y.toNat / (Int.gcd (n * sc ^ x.toNat) (b ^ ((bh.length : Nat) : Int).toNat * sc ^ y.toNat) : Nat)) : NumV b n fr kl p q := by
  have e : ((bh.length : Nat) : Int).toNat = kl := by omega
  rw [e] at hp hq
  exact Or.inr (Or.inr ⟨h0, by omega, by omega, sc, x, y, hs, hx, hy, hp, hq⟩)
theorem numP_of {b hg lw fr p q nn : Int} {kb kl : Nat} {rw bf bh rw2 rw3 : Str} {pt : Bool} (hpre : PreP b rw) (hkb : kb ≤ 19) (hdb : DigP b kb bf hg) (hpt : pt = true ∨ (bf == Str.ofString "") = false) (hkl : kl ≤ 5) (hdl : DigP b kl bh lw) (hp1 : pt = false → kl = 0) (hp2 : (bf == Str.ofString "") = true → 1 ≤ kl)
    (hrw2 : rw2 = rw ++ (bf ++ dotS pt ++ bh)) (hex : ExP b rw2 rw3 fr) (hn : nn = numN b hg lw kl) (hV : NumV b nn fr kl p q) : NumP rw3 p q :=
  ⟨b, hg, lw, fr, kb, kl, rw, bf, bh, pt, hpre, hkb, hdb, hpt, hkl, hdl, hp1, hp2, hrw2 ▸ hex, hn ▸ hV⟩
noncomputable def NumOut (pa fa : Addr) (vs : List Value) (nf : Nat) (rest : List (Addr × Obj)) (r : Value) (news' : List (Addr × Obj)) : Prop :=
  ∃ a y row p q t t1 t2 i' ti' mx' tm' n', r = .ref a ∧ NumP row p q ∧ 0 ≤ i' ∧ pa < y ∧ fa < y ∧ y < a ∧ (∀ x ∈ rest, x.1 < y) ∧ (pa, poolO fa i' ti' mx' tm' n') :: (fa, W.listOf vs.toArray nf) :: (a, tup2 (.str row t) (.ref y)) :: (y, tup2 (.int p t1) (.int q t2)) :: rest = news'
theorem numOut_of {pa fa a y : Addr} {vs : List Value} {nf n' : Nat} {rest : List (Addr × Obj)} {row : Str} {p q i' mx' : Int} {t t1 t2 ti' tm' : Tok} (hP : NumP row p q) (hi : 0 ≤ i') (h1 : pa < y ∧ fa < y ∧ AllLt y rest) (h2 : y < a ∧ pa < a ∧ fa < a ∧ AllLt a rest) :
    NumOut pa fa vs nf rest (.ref a) ((pa, poolO fa i' ti' mx' tm' n') :: (fa, W.listOf vs.toArray nf) :: (a, tup2 (.str row t) (.ref y)) :: (y, tup2 (.int p t1) (.int q t2)) :: rest) :=
  ⟨a, y, row, p, q, t, t1, t2, i', ti', mx', tm', n', rfl, hP, hi, h1.1, h1.2.1, h2.1, kst_ltOf h1.2.2, rfl⟩
theorem numOut_of2 {pa fa a y : Addr} {P G : Obj} {vs : List Value} {nf n' : Nat} {rest : List (Addr × Obj)} {row : Str} {p q i' mx' : Int} {t t1 t2 ti' tm' : Tok} (hP : NumP row p q) (hi : 0 ≤ i') (h1 : ∀ x ∈ (pa, P) :: (fa, G) :: rest, x.1 < y) (h2 : y < a ∧ pa < a ∧ fa < a ∧ AllLt a rest) :
    NumOut pa fa vs nf rest (.ref a) ((pa, poolO fa i' ti' mx' tm' n') :: (fa, W.listOf vs.toArray nf) :: (a, tup2 (.str row t) (.ref y)) :: (y, tup2 (.int p t1) (.int q t2)) :: rest) :=
  ⟨a, y, row, p, q, t, t1, t2, i', ti', mx', tm', n', rfl, hP, hi, h1 _ (.head _), h1 _ (.tail _ (.head _)), h2.1, fun x hx => h1 x (.tail _ (.tail _ hx)), rfl⟩

end Mine
namespace Mine
theorem tw_app {p : Nat → Bool} {l r : List Nat} (hl : ∀ c ∈ l, p c = true) (hr : ∀ c, r.head? = some c → p c = false) : (l ++ r).takeWhile p = l := by
  rw [List.takeWhile_append_of_pos hl]
  cases r with
  | nil => simp
  | cons a r => rw [List.takeWhile_cons, hr a rfl]; simp
theorem strip_core {x : Str} {p : Nat → Bool} {l m r : List Nat} (hx : x.cps.toList = l ++ m ++ r) (hl : ∀ c ∈ l, p c = true) (hr : ∀ c ∈ r, p c = true) (h1 : ∃ a t, m = a :: t ∧ p a = false) (h2 : ∃ a t, m = t ++ [a] ∧ p a = false) :
    Txt.stripBy p true true x = ST m := by
  obtain ⟨a, t, e1, pa⟩ := h1
  obtain ⟨z, u, e2, pz⟩ := h2
  have hlo : PySem.stripLo p true x = l.length := by
    unfold PySem.stripLo
    rw [if_pos rfl, hx, List.append_assoc, tw_app hl]
    intro c hc; rw [e1] at hc; simp at hc; rw [← hc]; exact pa
  have hlen : x.length = l.length + m.length + r.length := by
    have : x.cps.toList.length = x.length := by simp [Str.length]
    rw [← this, hx]; simp only [List.length_append]
  have hhi : PySem.stripHi p true x l.length = l.length + m.length := by
    unfold PySem.stripHi
    rw [if_pos rfl, hx, List.append_assoc, List.drop_left, List.reverse_append, tw_app (by intro c hc; exact hr c (List.mem_reverse.mp hc)), List.length_reverse, hlen]
    · omega
    · intro c hc; rw [e2] at hc; simp at hc; rw [← hc]; exact pz
  have hst : PySem.stripped p true true x = ST m := by
    unfold PySem.stripped
    rw [hlo, hhi]
    refine Str.ext' (Array.toList_inj.mp ?_)
    rw [StrLaws.strSub_toList, hx, List.append_assoc, List.drop_left]
    have e : l.length + m.length - l.length = m.length := by omega
    rw [e, List.take_left]; simp [ST]
  unfold Txt.stripBy
  split
  · rename_i hs
    unfold PySem.stripSame at hs
    rw [hlo, hhi] at hs
    simp only [Bool.and_eq_true, beq_iff_eq] at hs
    have el : l = [] := List.length_eq_zero_iff.mp hs.1
    have er : r = [] := List.length_eq_zero_iff.mp (by omega)
    rw [ST_of x, hx, el, er]; simp
  · exact hst
noncomputable def wsc (c : Nat) : Bool := WS.cps.contains c
theorem strip_ST {l m r : List Nat} (hl : ∀ c ∈ l, wsc c = true) (hr : ∀ c ∈ r, wsc c = true) (h1 : ∃ a t, m = a :: t ∧ wsc a = false) (h2 : ∃ a t, m = t ++ [a] ∧ wsc a = false) : pB (ST (l ++ m ++ r)) = ST m := by
  unfold pB Txt.stripChars
  exact strip_core (ST_list _) hl hr h1 h2
theorem wsc_iff : ∀ c < 128, wsc c = decide (c = 32 ∨ (9 ≤ c ∧ c ≤ 13)) := by decide +kernel
noncomputable def lo1 (c : Nat) : Nat := if 65 ≤ c ∧ c ≤ 90 then c + 32 else c
theorem lowerOf_asc : ∀ c < 128, Unicode.lowerOf c = [lo1 c] := by decide +kernel
theorem mapIdx_go {f : Nat → Nat → List Nat} {g : Nat → Nat} : ∀ (l : List Nat) (k : Nat), (∀ i c, l[i]? = some c → f (k + i) c = [g c]) → (l.mapIdx fun i c => f (k + i) c).flatten = l.map g
  | [], _, _ => rfl
  | a :: l, k, h => by
    rw [List.mapIdx_cons, List.flatten_cons, List.map_cons, h 0 a rfl]
    have e : (fun i c => f (k + (i + 1)) c) = (fun i c => f (k + 1 + i) c) := by
      funext i c; congr 1; omega
    rw [e, mapIdx_go l (k + 1)]
    · rfl
    · intro i c hc
      have := h (i + 1) c (by simpa using hc)
      rw [← this]; congr 1; omega
theorem lower_ST {l : List Nat} (h : ∀ c ∈ l, c < 128) : Txt.lower (ST l) = ST (l.map lo1) := by
  refine Str.ext' (Array.toList_inj.mp ?_)
  show (PySem.placed (ST l) fun i _ => Unicode.lowerAt (ST l).cps i).toList = _
  unfold PySem.placed
  have e := mapIdx_go (f := fun i _ => Unicode.lowerAt (ST l).cps i) (g := lo1) l 0 (by
    intro i c hc
    have hc' : (ST l).cps[i]? = some c := by simpa [ST] using hc
    have hlt := h c (List.mem_of_getElem? hc)
    simp only [Nat.zero_add]
    unfold Unicode.lowerAt
    rw [hc']
    have h2 : (c == 0x3A3) = false := by rw [beq_eq_false_iff_ne]; omega
    simp only [h2, Bool.false_and, Bool.false_eq_true, if_false]
    exact lowerOf_asc c hlt)
  simp only [Nat.zero_add] at e
  simp [ST] at e ⊢
  rw [← e]
  congr 1
  apply List.ext_getElem?
  intro i
  simp only [List.getElem?_map, List.getElem?_mapIdx, Option.map_map]
  congr 1
theorem ST_inj {a b : List Nat} (h : ST a = ST b) : a = b := by
  have := congrArg (fun x : Str => x.cps.toList) h
  simpa [ST] using this
theorem ST_beq (a b : List Nat) : (ST a == ST b) = (a == b) := by
  by_cases h : a = b
  · subst h; simp
  · rw [beq_eq_false_iff_ne.mpr h, beq_eq_false_iff_ne.mpr (fun e => h (ST_inj e))]

end Mine
namespace Mine
theorem dch_lt : ∀ d < 16, dch d < 128 ∧ hv (dch d) = (d : Int) ∧ dch d ≠ 46 ∧ dch d ≠ 120 ∧ dch d ≠ 88 ∧ wsc (dch d) = false ∧ dch d ≠ 45 ∧ dch d ≠ 43 ∧ dch d ≠ 47 ∧ dch d ≠ 112 ∧ dch d ≠ 80 ∧ pd (Str.ofString "0123456789abcdef") (dch d) = true := by decide +kernel
theorem dch10 : ∀ d < 10, pd (Str.ofString "0123456789") (dch d) = true ∧ dch d = 48 + d ∧ dch d ≠ 101 ∧ dch d ≠ 69 := by decide +kernel
theorem dvI_dch {b : Int} : ∀ (ds : List Nat) (v : Int), (∀ d ∈ ds, d < 16) → ((ds.map dch).map fun (c : Nat) => (c : Int)).foldl (fun v c => v * b + hv c.toNat) v = ds.foldl (fun (v : Int) (d : Nat) => v * b + (d : Int)) v
  | [], _, _ => rfl
  | d :: ds, v, h => by
    rw [List.map_cons, List.map_cons, List.foldl_cons, List.foldl_cons]
    rw [show ((dch d : Nat) : Int).toNat = dch d by omega, (dch_lt d (h d (.head _))).2.1]
    exact dvI_dch ds _ fun x hx => h x (.tail _ hx)
theorem dvI_ST {b : Int} {ds : List Nat} (h : ∀ d ∈ ds, d < 16) : dvI b (KStt.codes (ST (ds.map dch))) = dvN b ds := by
  rw [codes_ST]; exact dvI_dch ds 0 h
inductive BaseP : Int → Str → Str → Int → List Nat → Prop
  | ten : BaseP 10 (Str.ofString "0123456789") (Str.ofString "e") 10 []
  | hexa : BaseP 16 (Str.ofString "0123456789abcdef") (Str.ofString "p") 2 [48, 120]
  | hexb : BaseP 16 (Str.ofString "0123456789abcdef") (Str.ofString "p") 2 [48, 88]
noncomputable def dotL (pt : Bool) : List Nat := if pt then [46] else []
noncomputable def ExL (dg mk : Str) (ex : List Nat) (e : Int) : Prop := (ex = [] ∧ e = 0) ∨ ∃ c w, ex = c :: w ∧ Txt.lower (ST [c]) = mk ∧ pd dg c = false ∧ c ≠ 46 ∧ expSpec (ST w) = (true, e)
theorem ofS_e : Str.ofString "" = ST [] := by decide
theorem ofS_dot : Str.ofString "." = ST [46] := by decide
theorem pd_dot {b sc : Int} {dg mk : Str} {pre : List Nat} (hB : BaseP b dg mk sc pre) : pd dg 46 = false := by
  cases hB <;> decide +kernel
theorem BaseP.digs {b sc : Int} {dg mk : Str} {pre : List Nat} (hB : BaseP b dg mk sc pre) {ds : List Nat} (h : ∀ d ∈ ds, (d : Int) < b) : (∀ c ∈ ds.map dch, pd dg c = true) ∧ ∀ d ∈ ds, d < 16 := by
  have h16 : ∀ d ∈ ds, d < 16 := fun d hd => by have := h d hd; cases hB <;> omega
  refine ⟨fun c hc => ?_, h16⟩
  obtain ⟨d, hd, rfl⟩ := List.mem_map.mp hc
  have h1 := h d hd
  have h2 := h16 d hd
  cases hB with
  | ten => exact (dch10 d (by omega)).1
  | hexa => exact (dch_lt d h2).2.2.2.2.2.2.2.2.2.2.2
  | hexb => exact (dch_lt d h2).2.2.2.2.2.2.2.2.2.2.2
theorem uPre_gen {b sc : Int} {dg mk : Str} {pre t : List Nat} (hB : BaseP b dg mk sc pre) (hx : b = 10 → ∀ c ∈ t, c ≠ 120 ∧ c ≠ 88) : uPre (ST (pre ++ t)) = (b, dg, mk, sc, ST t) := by
  have e1 : Str.ofString "0x" = ST [48, 120] := by decide
  have e2 : Str.ofString "0X" = ST [48, 88] := by decide
  unfold uPre uHex
  rw [sl_to _ _ (by decide), e1, e2, ST_beq, ST_beq, ST_list]
  cases hB with
  | ten =>
    have hn := hx rfl
    have h1 : ∀ z, (z = 120 ∨ z = 88) → (List.take (2 : Int).toNat ([] ++ t) == [48, z]) = false := by
      intro z hz
      rw [beq_eq_false_iff_ne]
      intro e
      have hm : z ∈ List.take (2 : Int).toNat ([] ++ t) := by rw [e]; simp
      have := hn z (by simpa using List.mem_of_mem_take hm)
      omega
    rw [h1 120 (Or.inl rfl), h1 88 (Or.inr rfl)]
    simp
  | hexa =>
    rw [sl_from _ _ (by decide), ST_list]
    simp
  | hexb =>
    rw [sl_from _ _ (by decide), ST_list]
    simp
theorem ST_get (l : List Nat) (i : Nat) (c : Nat) (h : l[i]? = some c) : Txt.item (ST l) (i : Int) = ST [c] := item_ST l i c (by omega) (by simpa using h)
section
variable {b sc e : Int} {dg mk : Str} {pre ds1 ds2 ex : List Nat} {pt : Bool}
noncomputable def tL (ds1 : List Nat) (pt : Bool) (ds2 ex : List Nat) : List Nat := ds1.map dch ++ (dotL pt ++ ds2.map dch ++ ex)
theorem ex_head (hE : ExL dg mk ex e) : ∀ c, ex.head? = some c → pd dg c = false ∧ c ≠ 46 := by
  intro c hc
  rcases hE with ⟨h, _⟩ | ⟨c', w, h, _, h2, h3, _⟩
  · rw [h] at hc; cases hc
  · rw [h] at hc; simp at hc; rw [← hc]; exact ⟨h2, h3⟩
theorem tw1 (hB : BaseP b dg mk sc pre) (hE : ExL dg mk ex e) (h1 : ∀ d ∈ ds1, (d : Int) < b) (hp : pt = false → ds2 = []) : (tL ds1 pt ds2 ex).takeWhile (pd dg) = ds1.map dch := by
  unfold tL
  refine tw_app (hB.digs h1).1 ?_
  intro c hc
  cases pt with
  | true => simp [dotL] at hc; rw [← hc]; exact pd_dot hB
  | false => rw [hp rfl] at hc; simp [dotL] at hc; exact (ex_head hE c hc).1
theorem tE1 (hB : BaseP b dg mk sc pre) (hE : ExL dg mk ex e) (h1 : ∀ d ∈ ds1, (d : Int) < b) (hp : pt = false → ds2 = []) : uE1 dg (ST (tL ds1 pt ds2 ex)) = (ds1.length : Int) := by
  rw [uE1_eq, ST_list, tw1 hB hE h1 hp, List.length_map]
theorem tDrop : (tL ds1 pt ds2 ex).drop ds1.length = dotL pt ++ ds2.map dch ++ ex := by
  unfold tL
  have : ds1.length = (ds1.map dch).length := by simp
  rw [this, List.drop_left]
theorem tDot (hB : BaseP b dg mk sc pre) (hE : ExL dg mk ex e) (h1 : ∀ d ∈ ds1, (d : Int) < b) (hp : pt = false → ds2 = []) : uDot dg (ST (tL ds1 pt ds2 ex)) = pt := by
  unfold uDot
  rw [tE1 hB hE h1 hp, sl_ij _ _ _ (by omega) (by omega), ST_list, ofS_dot, ST_beq]
  have e1 : ((ds1.length : Int) + 1 - (ds1.length : Int)).toNat = 1 := by omega
  rw [e1, Int.toNat_natCast, tDrop]
  cases pt with
  | true => simp [dotL]
  | false =>
    rw [hp rfl]
    simp only [dotL, Bool.false_eq_true, if_false, List.map_nil, List.nil_append]
    rw [beq_eq_false_iff_ne]
    intro h
    cases ex with
    | nil => simp at h
    | cons c w =>
      simp at h
      exact (ex_head hE c rfl).2 h
theorem tR2 (hB : BaseP b dg mk sc pre) (hE : ExL dg mk ex e) (h2 : ∀ d ∈ ds2, (d : Int) < b) : runEnd dg (ST (tL ds1 true ds2 ex)) ((ds1.length : Int) + 1) = (ds1.length : Int) + 1 + (ds2.length : Int) := by
  rw [runEnd_ST]
  have e1 : ((ds1.length : Int) + 1).toNat = ds1.length + 1 := by omega
  have e2 : (tL ds1 true ds2 ex).drop (ds1.length + 1) = ds2.map dch ++ ex := by
    rw [← List.drop_drop, tDrop]; simp [dotL]
  rw [e1, e2, tw_app (hB.digs h2).1 (fun c hc => (ex_head hE c hc).1), List.length_map]
theorem tB (hB : BaseP b dg mk sc pre) (hE : ExL dg mk ex e) (h1 : ∀ d ∈ ds1, (d : Int) < b) (hp : pt = false → ds2 = []) : uB dg (ST (tL ds1 pt ds2 ex)) = ST (ds1.map dch) := by
  rw [uB_eq, ST_list, tw1 hB hE h1 hp]
theorem tH (hB : BaseP b dg mk sc pre) (hE : ExL dg mk ex e) (h1 : ∀ d ∈ ds1, (d : Int) < b) (h2 : ∀ d ∈ ds2, (d : Int) < b) (hp : pt = false → ds2 = []) : uH dg (ST (tL ds1 pt ds2 ex)) = ST (ds2.map dch) := by
  rw [uH_eq, tDot hB hE h1 hp, ST_list, tw1 hB hE h1 hp, List.length_map]
  cases pt with
  | true =>
    have e2 : (tL ds1 true ds2 ex).drop (ds1.length + 1) = ds2.map dch ++ ex := by
      rw [← List.drop_drop, tDrop]; simp [dotL]
    rw [e2, if_pos rfl, tw_app (hB.digs h2).1 (fun c hc => (ex_head hE c hc).1)]
  | false => rw [hp rfl]; simp
theorem tE (hB : BaseP b dg mk sc pre) (hE : ExL dg mk ex e) (h1 : ∀ d ∈ ds1, (d : Int) < b) (h2 : ∀ d ∈ ds2, (d : Int) < b) (hp : pt = false → ds2 = []) :
    uE dg (ST (tL ds1 pt ds2 ex)) = ((ds1.map dch ++ (dotL pt ++ ds2.map dch)).length : Int) := by
  unfold uE
  rw [tDot hB hE h1 hp, tE1 hB hE h1 hp]
  cases pt with
  | true => rw [if_pos rfl, tR2 hB hE h2]; simp [dotL]; omega
  | false => rw [hp rfl]; simp [dotL]
theorem tExp (hB : BaseP b dg mk sc pre) (hE : ExL dg mk ex e) (h1 : ∀ d ∈ ds1, (d : Int) < b) (h2 : ∀ d ∈ ds2, (d : Int) < b) (hp : pt = false → ds2 = []) :
    uExp mk dg (ST (tL ds1 pt ds2 ex)) = some e := by
  unfold uExp
  rw [tE hB hE h1 h2 hp, ST_len]
  have e0 : tL ds1 pt ds2 ex = (ds1.map dch ++ (dotL pt ++ ds2.map dch)) ++ ex := by unfold tL; simp
  generalize ds1.map dch ++ (dotL pt ++ ds2.map dch) = f at e0
  rw [e0]
  rcases hE with ⟨h, h0⟩ | ⟨c, w, h, hc, _, _, hs⟩
  · rw [h, h0, if_neg (by simp)]
  · rw [h, if_pos (by simp; omega)]
    have e1 : Txt.item (ST (f ++ c :: w)) (f.length : Int) = ST [c] := ST_get _ _ _ (by simp)
    have e2 : Txt.slice (ST (f ++ c :: w)) (some ((f.length : Int) + 1)) none = ST w := by
      rw [sl_from _ _ (by omega), ST_list]
      have : ((f.length : Int) + 1).toNat = f.length + 1 := by omega
      rw [this, ← List.drop_drop, List.drop_left]; rfl
    rw [e1, e2, hc, hs]
    simp
theorem uRes_gen (hB : BaseP b dg mk sc pre) (hE : ExL dg mk ex e) (h1 : ∀ d ∈ ds1, (d : Int) < b) (h2 : ∀ d ∈ ds2, (d : Int) < b) (hp : pt = false → ds2 = []) (hne : ds1 ≠ [] ∨ ds2 ≠ []) (hx : b = 10 → ∀ c ∈ ex, c ≠ 120 ∧ c ≠ 88) :
    uPre (ST (pre ++ tL ds1 pt ds2 ex)) = (b, dg, mk, sc, ST (tL ds1 pt ds2 ex)) ∧ uExp mk dg (ST (tL ds1 pt ds2 ex)) = some e ∧ uRes (ST (pre ++ tL ds1 pt ds2 ex)) = some (uVal b sc e (dvN b (ds1 ++ ds2)) ds2.length) := by
  have hP := uPre_gen (t := tL ds1 pt ds2 ex) hB (fun h c hc => by
    unfold tL at hc
    rcases List.mem_append.mp hc with hc | hc
    · obtain ⟨d, hd, rfl⟩ := List.mem_map.mp hc
      have := dch_lt d ((hB.digs h1).2 d hd); exact ⟨this.2.2.2.1, this.2.2.2.2.1⟩
    · rcases List.mem_append.mp hc with hc | hc
      · rcases List.mem_append.mp hc with hc | hc
        · cases pt <;> simp [dotL] at hc
          omega
        · obtain ⟨d, hd, rfl⟩ := List.mem_map.mp hc
          have := dch_lt d ((hB.digs h2).2 d hd); exact ⟨this.2.2.2.1, this.2.2.2.2.1⟩
      · exact hx h c hc)
  have hX := tExp hB hE h1 h2 hp
  refine ⟨hP, hX, ?_⟩
  unfold uRes
  rw [hP]
  unfold uRes5
  simp only
  rw [tB hB hE h1 hp, tH hB hE h1 h2 hp, hX, ofS_e, ST_beq, ST_beq, if_neg]
  · simp only
    rw [ST_append, ← List.map_append, dvI_ST, ST_len, List.length_map]
    intro d hd
    rcases List.mem_append.mp hd with hd | hd
    · exact (hB.digs h1).2 d hd
    · exact (hB.digs h2).2 d hd
  · rintro ⟨g1, g2⟩
    rcases hne with h | h
    · exact h (by simpa using g1)
    · exact h (by simpa using g2)
end

end Mine
namespace Mine
theorem dvN_go {b : Int} : ∀ (ds : List Nat) (v : Int), ds.foldl (fun (v : Int) (d : Nat) => v * b + (d : Int)) v = v * b ^ ds.length + ds.foldl (fun (v : Int) (d : Nat) => v * b + (d : Int)) 0
  | [], v => by simp
  | d :: ds, v => by
    rw [List.foldl_cons, List.foldl_cons, dvN_go ds (v * b + d), dvN_go ds (0 * b + d), List.length_cons, Int.pow_succ]
    rw [Int.add_mul, Int.add_mul]
    simp only [Int.zero_mul, Int.zero_add]
    rw [Int.mul_assoc, Int.mul_comm b (b ^ ds.length), ← Int.add_assoc]
theorem dvN_append {b : Int} (xs ys : List Nat) : dvN b (xs ++ ys) = dvN b xs * b ^ ys.length + dvN b ys := by
  unfold dvN
  rw [List.foldl_append, dvN_go]
noncomputable def exW (y k : Nat) : List Nat := (if 0 ≤ farL.getD y 0 then [[], [43], [48]].getD k [] else []) ++ itext (farL.getD y 0)
theorem exW_ok : ∀ y < 9, ∀ k < 3, expSpec (ST (exW y k)) = (true, min (farL.getD y 0) 1000000) ∧ (exW y k).length ≤ 10 ∧ (∀ c ∈ exW y k, c < 128 ∧ wsc c = false ∧ c ≠ 120 ∧ c ≠ 88) ∧ exW y k ≠ [] := by decide +kernel
theorem sg_ix {sg : Str} (h : sg ∈ [Str.ofString "", Str.ofString "+", Str.ofString "0"]) : ∃ k < 3, sg = ST ([[], [43], [48]].getD k []) := by
  simp only [List.mem_cons, List.not_mem_nil, or_false] at h
  rcases h with rfl | rfl | rfl
  · exact ⟨0, by decide, by decide⟩
  · exact ⟨1, by decide, by decide⟩
  · exact ⟨2, by decide, by decide⟩
noncomputable def mkC (b : Int) (x : Nat) : Nat := if b = 16 then (if x = 0 then 112 else 80) else (if x = 0 then 101 else 69)
theorem mk_item {b x : Int} (h0 : 0 ≤ x) (h1 : x < 2) : Txt.item (marks b) x = ST [mkC b x.toNat] := by
  unfold marks mkC
  have k1 : ∀ k < 2, Txt.item (Str.ofString "pP") ((k : Nat) : Int) = ST [if k = 0 then 112 else 80] := by decide +kernel
  have k2 : ∀ k < 2, Txt.item (Str.ofString "eE") ((k : Nat) : Int) = ST [if k = 0 then 101 else 69] := by decide +kernel
  have e : ((x.toNat : Nat) : Int) = x := by omega
  by_cases hb : b = 16
  · rw [if_pos hb, if_pos hb, ← k1 x.toNat (by omega), e]
  · rw [if_neg hb, if_neg hb, ← k2 x.toNat (by omega), e]
theorem mk_lower10 : ∀ k < 2, Txt.lower (ST [mkC 10 k]) = Str.ofString "e" ∧ pd (Str.ofString "0123456789") (mkC 10 k) = false ∧ mkC 10 k ≠ 46 ∧ mkC 10 k < 128 ∧ wsc (mkC 10 k) = false ∧ mkC 10 k ≠ 120 ∧ mkC 10 k ≠ 88 := by decide +kernel
theorem mk_lower16 : ∀ k < 2, Txt.lower (ST [mkC 16 k]) = Str.ofString "p" ∧ pd (Str.ofString "0123456789abcdef") (mkC 16 k) = false ∧ mkC 16 k ≠ 46 ∧ mkC 16 k < 128 ∧ wsc (mkC 16 k) = false := by decide +kernel
theorem mk_ok {b sc : Int} {dg mk : Str} {pre : List Nat} (hB : BaseP b dg mk sc pre) {k : Nat} (hk : k < 2) : Txt.lower (ST [mkC b k]) = mk ∧ pd dg (mkC b k) = false ∧ mkC b k ≠ 46 ∧ mkC b k < 128 ∧ wsc (mkC b k) = false ∧ (b = 10 → mkC b k ≠ 120 ∧ mkC b k ≠ 88) := by
  cases hB with
  | ten => have := mk_lower10 k hk; exact ⟨this.1, this.2.1, this.2.2.1, this.2.2.2.1, this.2.2.2.2.1, fun _ => this.2.2.2.2.2⟩
  | hexa => have := mk_lower16 k hk; exact ⟨this.1, this.2.1, this.2.2.1, this.2.2.2.1, this.2.2.2.2, fun h => absurd h (by decide)⟩
  | hexb => have := mk_lower16 k hk; exact ⟨this.1, this.2.1, this.2.2.1, this.2.2.2.1, this.2.2.2.2, fun h => absurd h (by decide)⟩
theorem pre_base {b : Int} {r : Str} (h : PreP b r) : ∃ dg mk sc pre, BaseP b dg mk sc pre ∧ r = ST pre ∧ (b = 10 ∨ b = 16) ∧ ScP b sc := by
  rcases h with ⟨rfl, rfl⟩ | ⟨rfl, rfl | rfl⟩
  · exact ⟨_, _, _, _, .ten, by decide, Or.inl rfl, Or.inl ⟨rfl, rfl⟩⟩
  · exact ⟨_, _, _, _, .hexa, by decide, Or.inr rfl, Or.inr ⟨rfl, rfl⟩⟩
  · exact ⟨_, _, _, _, .hexb, by decide, Or.inr rfl, Or.inr ⟨rfl, rfl⟩⟩
theorem ex_shape {b sc fr : Int} {dg mk r2 r3 : Str} {pre : List Nat} (hB : BaseP b dg mk sc pre) (h : ExP b r2 r3 fr) : ∃ ex, r3 = r2 ++ ST ex ∧ ExL dg mk ex (min fr 1000000) ∧ ex.length ≤ 11 ∧ (∀ c ∈ ex, c < 128 ∧ wsc c = false) ∧ (b = 10 → ∀ c ∈ ex, c ≠ 120 ∧ c ≠ 88) := by
  rcases h with ⟨h, h0⟩ | ⟨x, y, sg, hx0, hx1, hs, hy0, hy1, hf, h⟩
  · refine ⟨[], ?_, Or.inl ⟨rfl, by rw [h0]; decide⟩, by simp, by simp, by simp⟩
    rw [h, ST_of r2, ST_append]; simp
  · obtain ⟨k, hk, hsg⟩ := sg_ix hs
    have hy : y.toNat < 9 := by omega
    obtain ⟨w1, w2, w3, w4⟩ := exW_ok y.toNat hy k hk
    have hm := mk_ok hB (k := x.toNat) (by omega)
    refine ⟨mkC b x.toNat :: exW y.toNat k, ?_, Or.inr ⟨_, _, rfl, hm.1, hm.2.1, hm.2.2.1, by rw [w1, hf]⟩, by simp; omega, ?_, ?_⟩
    · rw [h, mk_item hx0 hx1, hsg, hf]
      congr 1
      have e : (if 0 ≤ farL.getD y.toNat 0 then ST ([[], [43], [48]].getD k []) else Str.ofString "") = ST (if 0 ≤ farL.getD y.toNat 0 then [[], [43], [48]].getD k [] else []) := by
        split
        · rfl
        · decide
      rw [e, ST_append, ST_append]
      rfl
    · intro c hc
      rcases List.mem_cons.mp hc with rfl | hc
      · exact ⟨hm.2.2.2.1, hm.2.2.2.2.1⟩
      · exact ⟨(w3 c hc).1, (w3 c hc).2.1⟩
    · intro hb c hc
      rcases List.mem_cons.mp hc with rfl | hc
      · exact hm.2.2.2.2.2 hb
      · exact (w3 c hc).2.2
theorem dotS_eq (pt : Bool) : dotS pt = ST (dotL pt) := by cases pt <;> decide
theorem numV_shape {b sc n fr p q : Int} {kl : Nat} (hb : b = 10 ∨ b = 16) (hs : ScP b sc) (hn : 0 ≤ n) (h : NumV b n fr kl p q) : uVal b sc (min fr 1000000) n kl = (p, q) := by
  have hsc : 2 ≤ sc ∧ sc ≤ 10 := sc_bd hs
  rcases h with ⟨h, rfl, rfl⟩ | ⟨h0, h, rfl, rfl⟩ | ⟨h0, h1, h2, sc', x, y, hs', hx, hy, hp, hq⟩
  · by_cases h0 : n = 0
    · exact val_zero h0
    · exact val_small h0 (by omega)
  · exact val_inf h0 (by omega)
  · have e : sc' = sc := by unfold ScP at hs hs'; omega
    subst e
    have em : min fr 1000000 = fr := by omega
    rw [em, uVal, if_neg h0, if_neg (by omega), if_neg (by omega)]
    have eX : n * sc' ^ x.toNat = pX n sc' fr := by
      unfold pX
      split
      · congr 2; omega
      · have : x.toNat = 0 := by omega
        rw [this]; simp
    have eY : sc' ^ y.toNat = pY sc' fr := by
      unfold pY
      split
      · have : y.toNat = 0 := by omega
        rw [this]; simp
      · congr 1; omega
    rw [eX, eY] at hp hq
    have hX : 0 < pX n sc' fr := by
      unfold pX; split
      · exact Int.mul_pos (by omega) (Int.pow_pos (by omega))
      · omega
    have hY : 0 < pY sc' fr := by
      unfold pY; split
      · omega
      · exact Int.pow_pos (by omega)
    have hm : 0 < b ^ kl := Int.pow_pos (by omega)
    generalize pX n sc' fr = X at hX hp hq ⊢
    generalize pY sc' fr = Y at hY hp hq ⊢
    generalize b ^ kl = m at hm hp hq ⊢
    have hg : 0 < ((Int.gcd X Y : Nat) : Int) := by
      have := Int.gcd_pos_of_ne_zero_left Y (show X ≠ 0 by omega)
      omega
    obtain ⟨x1, ex1⟩ : ((Int.gcd X Y : Nat) : Int) ∣ X := Int.gcd_dvd_left X Y
    obtain ⟨y1, ey1⟩ : ((Int.gcd X Y : Nat) : Int) ∣ Y := Int.gcd_dvd_right X Y
    generalize hgg : ((Int.gcd X Y : Nat) : Int) = g at hg ex1 ey1 ⊢
    have ex2 : X / g = x1 := by rw [ex1]; exact Int.mul_ediv_cancel_left _ (by omega)
    have ey2 : Y / g = y1 := by rw [ey1]; exact Int.mul_ediv_cancel_left _ (by omega)
    simp only [ex2, ey2]
    have eg : ((Int.gcd X (m * Y) : Nat) : Int) = g * ((Int.gcd x1 (y1 * m) : Nat) : Int) := by
      have e3 : m * Y = g * (y1 * m) := by rw [ey1, Int.mul_comm m, Int.mul_assoc]
      rw [e3]
      conv => lhs; rw [ex1]
      rw [Int.gcd_mul_left]
      have : ((g.natAbs : Nat) : Int) = g := by omega
      rw [Int.natCast_mul, this]
    rw [eg] at hp hq
    have e3 : m * Y = g * (y1 * m) := by rw [ey1, Int.mul_comm m, Int.mul_assoc]
    rw [e3] at hq
    have p1 : p = x1 / ((Int.gcd x1 (y1 * m) : Nat) : Int) := by
      rw [hp]; conv => lhs; rw [ex1]
      rw [Int.mul_ediv_mul_of_pos _ _ hg]
    have q1 : q = y1 * m / ((Int.gcd x1 (y1 * m) : Nat) : Int) := by
      rw [hq, Int.mul_ediv_mul_of_pos _ _ hg]
    rw [p1, q1]

end Mine
namespace Mine
/-- what parse_number is to give of x -/
noncomputable def ParOK (x : Str) (r : Option (Option (Int × Int))) : Prop :=
  x.length ≤ 50 ∧ Asc x ∧ (∀ e, uExp (uPre (pRest (pB x))).2.2.1 (uPre (pRest (pB x))).2.1 (uPre (pRest (pB x))).2.2.2.2 = some e → -35 ≤ e ∨ e < -4096) ∧ pRes x = r
noncomputable def HeadOK (a : Nat) : Prop := a = 46 ∨ (48 ≤ a ∧ a ≤ 57)
theorem item0 (a : Nat) (t : List Nat) : Txt.item (ST (a :: t)) 0 = ST [a] := ST_get (a :: t) 0 a rfl
theorem head_ne {a : Nat} {t : List Nat} {b : Nat} {u : List Nat} (h : a ≠ b) : (ST (a :: t) == ST (b :: u)) = false := by
  rw [ST_beq, beq_eq_false_iff_ne]; intro e; exact h (List.cons.inj e).1
theorem found_gen {a : Nat} {t : List Nat} {p q : Int} (ha : HeadOK a) (hA : ∀ c ∈ a :: t, c < 128) (hr : uRes (ST (a :: t)) = some (p, q)) : pFound (ST (a :: t)) = some (p, q) := by
  have hl : lo1 a = a := by unfold lo1 HeadOK at *; rw [if_neg]; omega
  have e1 : (ST (a :: t) == Str.ofString "NaN") = false := by rw [show Str.ofString "NaN" = ST [78, 97, 78] by decide]; exact head_ne (by unfold HeadOK at ha; omega)
  have e2 : (Txt.lower (ST (a :: t)) == Str.ofString "inf") = false := by
    rw [lower_ST hA, List.map_cons, hl, show Str.ofString "inf" = ST [105, 110, 102] by decide]; exact head_ne (by unfold HeadOK at ha; omega)
  have e3 : (Txt.lower (ST (a :: t)) == Str.ofString "infinity") = false := by
    rw [lower_ST hA, List.map_cons, hl, show Str.ofString "infinity" = ST [105, 110, 102, 105, 110, 105, 116, 121] by decide]; exact head_ne (by unfold HeadOK at ha; omega)
  exact found_uns e1 e2 e3 hr
theorem wsc_no {c : Nat} (h : c < 128) (h2 : 33 ≤ c) : wsc c = false := by rw [wsc_iff c h]; apply decide_eq_false; omega
theorem par_gen {R bl sd : List Nat} {p q e : Int} {a z : Nat} {t u : List Nat} (hbl : ∀ c ∈ bl, wsc c = true ∧ c < 128) (hsd : sd = [] ∨ sd = [45] ∨ sd = [43]) (hR : R = a :: t) (ha : HeadOK a) (hz : R = u ++ [z]) (hzw : wsc z = false) (hA : ∀ c ∈ R, c < 128)
    (hlen : 2 * bl.length + 1 + R.length ≤ 50) (hx : uExp (uPre (ST R)).2.2.1 (uPre (ST R)).2.1 (uPre (ST R)).2.2.2.2 = some e) (he : -35 ≤ e ∨ e < -4096) (hr : uRes (ST R) = some (p, q)) :
    ParOK (ST (bl ++ (sd ++ R) ++ bl)) (some (some (if sd = [45] then (0 - p, q) else (p, q)))) := by
  have hwa : wsc a = false := wsc_no (by unfold HeadOK at ha; omega) (by unfold HeadOK at ha; omega)
  have hB : pB (ST (bl ++ (sd ++ R) ++ bl)) = ST (sd ++ R) := by
    refine strip_ST (fun c hc => (hbl c hc).1) (fun c hc => (hbl c hc).1) ?_ ⟨z, sd ++ u, by rw [hz, List.append_assoc], hzw⟩
    rcases hsd with rfl | rfl | rfl
    · exact ⟨a, t, hR, hwa⟩
    · exact ⟨45, R, rfl, wsc_no (by decide) (by decide)⟩
    · exact ⟨43, R, rfl, wsc_no (by decide) (by decide)⟩
  have hm : Str.ofString "-" = ST [45] := by decide
  have hpl : Str.ofString "+" = ST [43] := by decide
  have hN : pNeg (ST (sd ++ R)) = decide (sd = [45]) := by
    unfold pNeg
    rw [hm]
    rcases hsd with rfl | rfl | rfl
    · rw [List.nil_append, hR, item0, head_ne (by unfold HeadOK at ha; omega)]; decide
    · rw [List.singleton_append, item0]; simp
    · rw [List.singleton_append, item0, head_ne (by decide)]; decide
  have hP : pRest (ST (sd ++ R)) = ST R := by
    unfold pRest
    rw [hN, hpl]
    rcases hsd with rfl | rfl | rfl
    · rw [if_neg]
      · simp
      · rw [List.nil_append, hR, item0, head_ne (by unfold HeadOK at ha; omega)]; decide
    · rw [if_pos (Or.inl (by decide)), sl_from _ _ (by decide), ST_list]; rfl
    · rw [if_pos (Or.inr (by rw [List.singleton_append, item0]; simp)), sl_from _ _ (by decide), ST_list]; rfl
  have hne : ¬ ((pB (ST (bl ++ (sd ++ R) ++ bl)) == Str.ofString "") = true ∨ (pB (ST (bl ++ (sd ++ R) ++ bl)) == Str.ofString "NA") = true) := by
    rw [hB, ofS_e, show Str.ofString "NA" = ST [78, 65] by decide, ST_beq]
    have h1 : (sd ++ R == ([] : List Nat)) = false := by rw [beq_eq_false_iff_ne]; rw [hR]; simp
    have h2 : (ST (sd ++ R) == ST [78, 65]) = false := by
      rcases hsd with rfl | rfl | rfl
      · rw [List.nil_append, hR]; exact head_ne (by unfold HeadOK at ha; omega)
      · exact head_ne (by decide)
      · exact head_ne (by decide)
    rw [h1, h2]; simp
  refine ⟨?_, ?_, ?_, ?_⟩
  · rw [ST_len, List.length_append, List.length_append, List.length_append]
    have : sd.length ≤ 1 := by rcases hsd with rfl | rfl | rfl <;> decide
    omega
  · intro c hc
    rw [ST_list] at hc
    rcases List.mem_append.mp hc with hc | hc
    · rcases List.mem_append.mp hc with hc | hc
      · exact (hbl c hc).2
      · rcases List.mem_append.mp hc with hc | hc
        · rcases hsd with rfl | rfl | rfl <;> simp at hc <;> omega
        · exact hA c hc
    · exact (hbl c hc).2
  · rw [hB, hP]
    intro e' h'
    rw [hx] at h'
    cases h'; exact he
  · unfold pRes
    rw [if_neg hne, hB, hP, hN]
    have hF : pFound (ST R) = some (p, q) := by rw [hR] at hA hr ⊢; exact found_gen ha hA hr
    rw [hF]
    unfold pSigned
    simp only [decide_eq_true_eq]
theorem dch_head {d : Nat} (h : d < 10) : HeadOK (dch d) := by
  have := (dch10 d h).2.1; unfold HeadOK; omega
theorem tL_mem {b sc : Int} {dg mk : Str} {pre ds1 ds2 ex : List Nat} {pt : Bool} (hB : BaseP b dg mk sc pre) (h1 : ∀ d ∈ ds1, (d : Int) < b) (h2 : ∀ d ∈ ds2, (d : Int) < b) (hx : ∀ c ∈ ex, c < 128 ∧ wsc c = false) : ∀ c ∈ tL ds1 pt ds2 ex, c < 128 ∧ wsc c = false := by
  intro c hc
  unfold tL at hc
  rcases List.mem_append.mp hc with hc | hc
  · obtain ⟨d, hd, rfl⟩ := List.mem_map.mp hc
    have := dch_lt d ((hB.digs h1).2 d hd); exact ⟨this.1, this.2.2.2.2.2.1⟩
  · rcases List.mem_append.mp hc with hc | hc
    · rcases List.mem_append.mp hc with hc | hc
      · cases pt <;> simp [dotL] at hc
        rw [hc]; exact ⟨by decide, wsc_no (by decide) (by decide)⟩
      · obtain ⟨d, hd, rfl⟩ := List.mem_map.mp hc
        have := dch_lt d ((hB.digs h2).2 d hd); exact ⟨this.1, this.2.2.2.2.2.1⟩
    · exact hx c hc
theorem pre_mem {b sc : Int} {dg mk : Str} {pre : List Nat} (hB : BaseP b dg mk sc pre) : (∀ c ∈ pre, c < 128 ∧ wsc c = false) ∧ pre.length ≤ 2 := by
  cases hB with
  | ten => exact ⟨by simp, by simp⟩
  | hexa => exact ⟨by decide +kernel, by decide⟩
  | hexb => exact ⟨by decide +kernel, by decide⟩
theorem tL_len {ds1 ds2 ex : List Nat} {pt : Bool} : (tL ds1 pt ds2 ex).length ≤ ds1.length + 1 + ds2.length + ex.length := by
  unfold tL
  simp only [List.length_append, List.length_map]
  cases pt <;> simp [dotL] <;> omega
theorem snoc_of {l : List Nat} (h : l ≠ []) : ∃ u z, l = u ++ [z] := ⟨l.dropLast, l.getLast h, (List.dropLast_concat_getLast h).symm⟩
/-- a built text of base b, between blanks and behind a sign -/
theorem par_built {b sc e p q : Int} {dg mk : Str} {pre ds1 ds2 ex bl sd : List Nat} {pt : Bool} (hB : BaseP b dg mk sc pre) (hE : ExL dg mk ex e) (h1 : ∀ d ∈ ds1, (d : Int) < b) (h2 : ∀ d ∈ ds2, (d : Int) < b) (hp : pt = false → ds2 = []) (hp2 : pt = true ∨ ds1 ≠ []) (hne : ds1 ≠ [] ∨ ds2 ≠ []) (hx10 : b = 10 → ∀ c ∈ ex, c ≠ 120 ∧ c ≠ 88)
    (hx : ∀ c ∈ ex, c < 128 ∧ wsc c = false) (hbl : ∀ c ∈ bl, wsc c = true ∧ c < 128) (hsd : sd = [] ∨ sd = [45] ∨ sd = [43]) (hlen : 2 * bl.length + ds1.length + ds2.length + ex.length ≤ 46) (he : -35 ≤ e ∨ e < -4096) (hv : uVal b sc e (dvN b (ds1 ++ ds2)) ds2.length = (p, q)) :
    ParOK (ST (bl ++ (sd ++ (pre ++ tL ds1 pt ds2 ex)) ++ bl)) (some (some (if sd = [45] then (0 - p, q) else (p, q)))) := by
  obtain ⟨g1, g2, g3⟩ := uRes_gen (pt := pt) hB hE h1 h2 hp hne hx10
  rw [hv] at g3
  have hmem : ∀ c ∈ pre ++ tL ds1 pt ds2 ex, c < 128 ∧ wsc c = false := by
    intro c hc
    rcases List.mem_append.mp hc with hc | hc
    · exact (pre_mem hB).1 c hc
    · exact tL_mem hB h1 h2 hx c hc
  have hhead : ∃ a t, pre ++ tL ds1 pt ds2 ex = a :: t ∧ HeadOK a := by
    cases hB with
    | ten =>
      cases ds1 with
      | nil =>
        have : pt = true := by rcases hp2 with h | h; exact h; exact absurd rfl h
        subst this
        exact ⟨46, ds2.map dch ++ ex, by simp [tL, dotL], Or.inl rfl⟩
      | cons d ds => exact ⟨dch d, ds.map dch ++ (dotL pt ++ ds2.map dch ++ ex), by simp [tL], dch_head (by have := h1 d (.head _); omega)⟩
    | hexa => exact ⟨48, _, rfl, Or.inr (by decide)⟩
    | hexb => exact ⟨48, _, rfl, Or.inr (by decide)⟩
  obtain ⟨a, t, hat, ha⟩ := hhead
  obtain ⟨u, z, hz⟩ := snoc_of (l := pre ++ tL ds1 pt ds2 ex) (by rw [hat]; simp)
  refine par_gen hbl hsd hat ha hz (hmem z (by rw [hz]; simp)).2 (fun c hc => (hmem c hc).1) ?_ (by rw [g1]; exact g2) he g3
  rw [List.length_append]
  have := (pre_mem hB).2
  have := tL_len (ds1 := ds1) (ds2 := ds2) (ex := ex) (pt := pt)
  omega
theorem digP_ne {b tot : Int} {k : Nat} {row : Str} {ds : List Nat} (e : row = ST (ds.map dch)) : (row == Str.ofString "") = false ↔ ds ≠ [] := by
  rw [e, ofS_e, ST_beq, beq_eq_false_iff_ne]
  simp
theorem bl_ix {bl : Str} (h : bl ∈ [Str.ofString "", Str.ofString " ", Str.ofString "\t\n "]) : ∃ l, bl = ST l ∧ (∀ c ∈ l, wsc c = true ∧ c < 128) ∧ l.length ≤ 3 := by
  simp only [List.mem_cons, List.not_mem_nil, or_false] at h
  rcases h with rfl | rfl | rfl
  · exact ⟨[], by decide, by simp, by decide⟩
  · exact ⟨[32], by decide, by decide +kernel, by decide⟩
  · exact ⟨[9, 10, 32], by decide, by decide +kernel, by decide⟩
theorem sd_ix {sd : Str} (h : sd ∈ [Str.ofString "", Str.ofString "-", Str.ofString "+"]) : ∃ l, sd = ST l ∧ (l = [] ∨ l = [45] ∨ l = [43]) ∧ ((sd == Str.ofString "-") = decide (l = [45])) := by
  simp only [List.mem_cons, List.not_mem_nil, or_false] at h
  rcases h with rfl | rfl | rfl
  · exact ⟨[], by decide, Or.inl rfl, by decide⟩
  · exact ⟨[45], by decide, Or.inr (Or.inl rfl), by decide⟩
  · exact ⟨[43], by decide, Or.inr (Or.inr rfl), by decide⟩
theorem num_law {row sd bl : Str} {p q : Int} (h : NumP row p q) (hs : sd ∈ [Str.ofString "", Str.ofString "-", Str.ofString "+"]) (hb : bl ∈ [Str.ofString "", Str.ofString " ", Str.ofString "\t\n "]) :
    ParOK (bl ++ sd ++ row ++ bl) (some (some (if (sd == Str.ofString "-") = true then (0 - p, q) else (p, q)))) := by
  obtain ⟨b, hg, lw, fr, kb, kl, rw', bf, bh, pt, hpre, hkb, hdb, hpt, hkl, hdl, hp1, hp2, hex, hV⟩ := h
  obtain ⟨dg, mk, sc, pre, hB, epre, hb10, hsc⟩ := pre_base hpre
  obtain ⟨ex, er, hE, hexl, hexm, hex10⟩ := ex_shape hB hex
  obtain ⟨ds1, d11, d12, d13, d14⟩ := hdb
  obtain ⟨ds2, d21, d22, d23, d24⟩ := hdl
  obtain ⟨bL, rfl, hbl, hbl2⟩ := bl_ix hb
  obtain ⟨sL, rfl, hsd, hsb⟩ := sd_ix hs
  obtain ⟨hf1, hf2, hf3⟩ := ex_far hex
  have hrow : row = ST (pre ++ tL ds1 pt ds2 ex) := by
    rw [er, epre, d13, d23, dotS_eq, ST_append, ST_append, ST_append, ST_append]
    congr 1; unfold tL; simp
  have hn : numN b hg lw kl = dvN b (ds1 ++ ds2) := by rw [dvN_append, d21, d14, d24]; rfl
  rw [hn, ← d21] at hV
  have hds : ∀ d ∈ ds1 ++ ds2, (d : Int) < b := fun d hd => (List.mem_append.mp hd).elim (d12 d) (d22 d)
  have hn0 : 0 ≤ dvN b (ds1 ++ ds2) := (digP_lt (b := b) (by omega) ⟨ds1 ++ ds2, rfl, hds, rfl, rfl⟩).1
  have hv := numV_shape hb10 hsc hn0 hV
  have hsf : pt = false → ds2 = [] := fun hpf => List.length_eq_zero_iff.mp (by have := hp1 hpf; omega)
  have hd1 : pt = true ∨ ds1 ≠ [] := hpt.imp_right (digP_ne (b := b) (tot := hg) (k := kb) d13).mp
  have hne : ds1 ≠ [] ∨ ds2 ≠ [] := by
    by_cases h0 : ds1 = []
    · right
      have h1 : (bf == Str.ofString "") = true := by
        have := mt (digP_ne (b := b) (tot := hg) (k := kb) d13).mp (by simpa using h0)
        simpa using this
      have := hp2 h1
      intro h; rw [h] at d21; simp at d21; omega
    · exact Or.inl h0
  have := par_built (bl := bL) (sd := sL) (pt := pt) hB hE d12 d22 hsf hd1 hne hex10 hexm hbl hsd (by omega) (by omega) hv
  rw [hrow, ST_append, ST_append, ST_append, hsb]
  have e : bL ++ sL ++ (pre ++ tL ds1 pt ds2 ex) ++ bL = bL ++ (sL ++ (pre ++ tL ds1 pt ds2 ex)) ++ bL := by simp
  rw [e]
  simpa using this

end Mine
namespace Mine
noncomputable def okE (o : Option Int) : Bool := match o with | none => true | some e => decide (-35 ≤ e ∨ e < -4096)
noncomputable def parB (l : List Nat) (r : Option (Option (Int × Int))) : Bool :=
  decide (l.length ≤ 40) && l.all (fun c => decide (c < 128)) && (match l with | [] => false | a :: _ => !wsc a) && (match l.reverse with | [] => false | a :: _ => !wsc a) &&
  okE (uExp (uPre (pRest (ST l))).2.2.1 (uPre (pRest (ST l))).2.1 (uPre (pRest (ST l))).2.2.2.2) &&
  decide ((if (ST l == Str.ofString "") = true ∨ (ST l == Str.ofString "NA") = true then some none else pSigned (pNeg (ST l)) (pFound (pRest (ST l)))) = r)
theorem parB_ok {l bl : List Nat} {r : Option (Option (Int × Int))} (h : parB l r = true) (hbl : ∀ c ∈ bl, wsc c = true ∧ c < 128) (hl : bl.length ≤ 3) : ParOK (ST (bl ++ l ++ bl)) r := by
  unfold parB at h
  simp only [Bool.and_eq_true, decide_eq_true_eq, List.all_eq_true] at h
  obtain ⟨⟨⟨⟨⟨h1, h2⟩, h3⟩, h4⟩, h5⟩, h6⟩ := h
  have hB : pB (ST (bl ++ l ++ bl)) = ST l := by
    refine strip_ST (fun c hc => (hbl c hc).1) (fun c hc => (hbl c hc).1) ?_ ?_
    · cases l with
      | nil => cases h3
      | cons a t => exact ⟨a, t, rfl, by simpa using h3⟩
    · cases hr : l.reverse with
      | nil => rw [hr] at h4; cases h4
      | cons a t =>
        rw [hr] at h4
        refine ⟨a, t.reverse, ?_, by simpa using h4⟩
        rw [← List.reverse_reverse l, hr]; simp
  refine ⟨?_, ?_, ?_, ?_⟩
  · rw [ST_len, List.length_append, List.length_append]; omega
  · intro c hc
    rw [ST_list] at hc
    rcases List.mem_append.mp hc with hc | hc
    · rcases List.mem_append.mp hc with hc | hc
      · exact (hbl c hc).2
      · exact h2 c hc
    · exact (hbl c hc).2
  · rw [hB]; intro e he; rw [he] at h5
    exact of_decide_eq_true h5
  · unfold pRes
    rw [hB]; exact h6
noncomputable abbrev spRows : List Str := [Str.ofString "NaN", Str.ofString "Inf", Str.ofString "inf", Str.ofString "Infinity", Str.ofString "INFINITY"]
noncomputable abbrev badRows : List Str := [Str.ofString ".", Str.ofString "1e", Str.ofString "1e+", Str.ofString "0x", Str.ofString "1.2.3", Str.ofString "1 2", Str.ofString "abc", Str.ofString "-1", Str.ofString "1L", Str.ofString "0x1g", Str.ofString "e5", Str.ofString "1f", Str.ofString "0x.p1", Str.ofString "nan", Str.ofString "+", Str.ofString "1e5.5", Str.ofString "1,5", Str.ofString "na"]
noncomputable abbrev sides : List (List Nat) := [[], [45], [43]]
theorem sp_b : ∀ r ∈ spRows, ∀ s ∈ sides, parB (s ++ r.cps.toList) (some (some (if s = [45] then (if (r == Str.ofString "NaN") = true then (0, 0) else (-1, 0)) else (if (r == Str.ofString "NaN") = true then (0, 0) else (1, 0))))) = true := by decide +kernel
theorem bad_b : ∀ r ∈ badRows, ∀ s ∈ sides, ((r == Str.ofString "-1") = true ∧ s = []) ∨ parB (s ++ r.cps.toList) none = true := by decide +kernel
theorem sd_side {l : List Nat} (h : l = [] ∨ l = [45] ∨ l = [43]) : l ∈ sides := by rcases h with rfl | rfl | rfl <;> decide
theorem sp_law {row sd bl : Str} (h : row ∈ spRows) (hs : sd ∈ [Str.ofString "", Str.ofString "-", Str.ofString "+"]) (hb : bl ∈ [Str.ofString "", Str.ofString " ", Str.ofString "\t\n "]) :
    ParOK (bl ++ sd ++ row ++ bl) (some (some (if (sd == Str.ofString "-") = true then (if (row == Str.ofString "NaN") = true then (0, 0) else (-1, 0)) else (if (row == Str.ofString "NaN") = true then (0, 0) else (1, 0))))) := by
  obtain ⟨bL, rfl, hbl, hbl2⟩ := bl_ix hb
  obtain ⟨sL, rfl, hsd, hsb⟩ := sd_ix hs
  have := parB_ok (sp_b row h sL (sd_side hsd)) hbl hbl2
  rw [hsb]
  have e : ST bL ++ ST sL ++ row ++ ST bL = ST (bL ++ (sL ++ row.cps.toList) ++ bL) := by
    conv => lhs; rw [ST_of row]
    rw [ST_append, ST_append, ST_append]; simp
  rw [e]
  simpa using this
theorem bad_law {row sd bl : Str} (h : row ∈ badRows) (hs : sd ∈ [Str.ofString "", Str.ofString "-", Str.ofString "+"]) (hb : bl ∈ [Str.ofString "", Str.ofString " ", Str.ofString "\t\n "]) (hn : ¬ ((row == Str.ofString "-1") = true ∧ (sd == Str.ofString "") = true)) :
    ParOK (bl ++ sd ++ row ++ bl) none := by
  obtain ⟨bL, rfl, hbl, hbl2⟩ := bl_ix hb
  obtain ⟨sL, rfl, hsd, hsb⟩ := sd_ix hs
  have e : ST bL ++ ST sL ++ row ++ ST bL = ST (bL ++ (sL ++ row.cps.toList) ++ bL) := by
    conv => lhs; rw [ST_of row]
    rw [ST_append, ST_append, ST_append]; simp
  rcases bad_b row h sL (sd_side hsd) with ⟨h1, h2⟩ | h1
  · exact absurd ⟨h1, by rw [h2]; decide⟩ hn
  · rw [e]; exact parB_ok h1 hbl hbl2
noncomputable def naB (l : List Nat) : Bool := decide (l.length ≤ 40) && l.all (fun c => decide (c < 128)) && okE (uExp (uPre (pRest (pB (ST l)))).2.2.1 (uPre (pRest (pB (ST l)))).2.1 (uPre (pRest (pB (ST l)))).2.2.2.2) && decide (pRes (ST l) = some none)
theorem na_b : ∀ b ∈ [[], [32], [9, 10, 32]], ∀ s ∈ [[78, 65], [], [78, 65, 32]], naB (b ++ s) = true := by decide +kernel
theorem na_ok {l : List Nat} (h : naB l = true) : ParOK (ST l) (some none) := by
  unfold naB at h
  simp only [Bool.and_eq_true, decide_eq_true_eq, List.all_eq_true] at h
  obtain ⟨⟨⟨h1, h2⟩, h5⟩, h6⟩ := h
  refine ⟨by rw [ST_len]; omega, fun c hc => h2 c (by rwa [ST_list] at hc), fun e he => ?_, h6⟩
  rw [he] at h5; exact of_decide_eq_true h5
theorem na_law {bl sm : Str} (hb : bl ∈ [Str.ofString "", Str.ofString " ", Str.ofString "\t\n "]) (hs : sm ∈ [Str.ofString "NA", Str.ofString "", Str.ofString "NA "]) : ParOK (bl ++ sm) (some none) := by
  have e1 : ∃ l ∈ [[], [32], [9, 10, 32]], bl = ST l := by
    simp only [List.mem_cons, List.not_mem_nil, or_false] at hb
    rcases hb with rfl | rfl | rfl
    · exact ⟨[], by decide, by decide⟩
    · exact ⟨[32], by decide, by decide⟩
    · exact ⟨[9, 10, 32], by decide, by decide⟩
  have e2 : ∃ l ∈ [[78, 65], [], [78, 65, 32]], sm = ST l := by
    simp only [List.mem_cons, List.not_mem_nil, or_false] at hs
    rcases hs with rfl | rfl | rfl
    · exact ⟨[78, 65], by decide, by decide⟩
    · exact ⟨[], by decide, by decide⟩
    · exact ⟨[78, 65, 32], by decide, by decide⟩
  obtain ⟨l, hl, rfl⟩ := e1
  obtain ⟨s, hs', rfl⟩ := e2
  rw [ST_append]
  exact na_ok (na_b l hl s hs')

end Mine
namespace Mine
/-- a word that is a number -/
noncomputable def WordP (row : Str) (p q : Int) : Prop := NumP row p q ∨ (row ∈ spRows ∧ q = 0 ∧ p = if (row == Str.ofString "NaN") = true then 0 else 1)
theorem word_law {row sd bl : Str} {p q : Int} (h : WordP row p q) (hs : sd ∈ [Str.ofString "", Str.ofString "-", Str.ofString "+"]) (hb : bl ∈ [Str.ofString "", Str.ofString " ", Str.ofString "\t\n "]) :
    ParOK (bl ++ sd ++ row ++ bl) (some (some (if (sd == Str.ofString "-") = true then (0 - p, q) else (p, q)))) := by
  rcases h with h | ⟨h, h1, h2⟩
  · exact num_law h hs hb
  · have := sp_law h hs hb
    rw [h1, h2]
    by_cases hn : (row == Str.ofString "NaN") = true
    · simp only [hn, if_true] at this ⊢; exact this
    · simp only [hn, if_false] at this ⊢; exact this
theorem wordP_nan {row : Str} (h : row ∈ spRows) (hn : (row == Str.ofString "NaN") = true) : WordP row 0 0 := Or.inr ⟨h, rfl, by rw [if_pos hn]⟩
theorem wordP_inf {row : Str} (h : row ∈ spRows) (hn : (row == Str.ofString "NaN") = false) : WordP row 1 0 := Or.inr ⟨h, rfl, by rw [if_neg (by rw [hn]; simp)]⟩
noncomputable def WordOut (pa fa : Addr) (vs : List Value) (nf : Nat) (rest : List (Addr × Obj)) (r : Value) (news' : List (Addr × Obj)) : Prop :=
  (∃ a y row p q t t1 t2 i' ti' mx' tm' n', r = .ref a ∧ WordP row p q ∧ 0 ≤ i' ∧ pa < y ∧ fa < y ∧ y < a ∧ (∀ x ∈ rest, x.1 < y) ∧ (pa, poolO fa i' ti' mx' tm' n') :: (fa, W.listOf vs.toArray nf) :: (a, tup2 (.str row t) (.ref y)) :: (y, tup2 (.int p t1) (.int q t2)) :: rest = news') ∨
  (∃ a row t i' ti' mx' tm' n', r = .ref a ∧ row ∈ badRows ∧ 0 ≤ i' ∧ pa < a ∧ fa < a ∧ (∀ x ∈ rest, x.1 < a) ∧ (pa, poolO fa i' ti' mx' tm' n') :: (fa, W.listOf vs.toArray nf) :: (a, tup2 (.str row t) .none) :: rest = news')
theorem wordOut_num {pa fa : Addr} {vs : List Value} {nf : Nat} {rest : List (Addr × Obj)} {a y : Addr} {row : Str} {p q i' mx' : Int} {t t1 t2 ti' tm' : Tok} {n' : Nat} (h1 : WordP row p q) (h2 : 0 ≤ i') (h3 : pa < y) (h4 : fa < y) (h5 : y < a) (h6 : ∀ x ∈ rest, x.1 < y) :
    WordOut pa fa vs nf rest (.ref a) ((pa, poolO fa i' ti' mx' tm' n') :: (fa, W.listOf vs.toArray nf) :: (a, tup2 (.str row t) (.ref y)) :: (y, tup2 (.int p t1) (.int q t2)) :: rest) :=
  Or.inl ⟨a, y, row, p, q, t, t1, t2, i', ti', mx', tm', n', rfl, h1, h2, h3, h4, h5, h6, rfl⟩
theorem wordOut_bad {pa fa : Addr} {vs : List Value} {nf : Nat} {rest : List (Addr × Obj)} {a : Addr} {row : Str} {i' mx' : Int} {t ti' tm' : Tok} {n' : Nat} (h1 : row ∈ badRows) (h2 : 0 ≤ i') (h3 : pa < a) (h4 : fa < a) (h6 : ∀ x ∈ rest, x.1 < a) :
    WordOut pa fa vs nf rest (.ref a) ((pa, poolO fa i' ti' mx' tm' n') :: (fa, W.listOf vs.toArray nf) :: (a, tup2 (.str row t) .none) :: rest) :=
  Or.inr ⟨a, row, t, i', ti', mx', tm', n', rfl, h1, h2, h3, h4, h6, rfl⟩

end Mine
namespace Mine
local macro_rules | `(tactic| k_all) => `(tactic| assumption)
theorem num_ct (w : World) (pa fa : Addr) (i mx : Int) (ti tm : Tok) (n nf : Nat) (vs : List Value) (ns : List Int) (rest : List (Addr × Obj)) (hI : IntsAre vs ns) (hlen : ns.length < 2 ^ 62) (hi : 0 ≤ i) (hne : pa ≠ fa) (hne2 : fa ≠ pa) (hra : ∀ p ∈ rest, p.1 ≠ pa) :
    Ct w 3 157 [.ref pa] ((pa, poolO fa i ti mx tm n) :: (fa, W.listOf vs.toArray nf) :: rest)
     (NumOut pa fa vs nf rest) := by
  k_with_none
  w_top off
  k_with "binaryOp FloorDiv int int" => (((with_reducible refine floordiv_int ?_ ?_ (Or.inl (noPy ?_))); omega; rotate_left; omega))
  k_with "binaryOp Mod int int" => (((with_reducible refine mod_int' ?_ ?_ (Or.inl (noPy ?_))); omega; rotate_left; omega))
  k_with "execs nil" => ((with_reducible refine wpAny_execs_nil ?_))
  k_with "execs cons" => ((with_reducible refine wpAny_execs_cons ?_))
  k_with "exec If" => ((with_reducible refine wpAny_If ?_))
  k_with "call ref" => ((k_here; (with_reducible show wpAny _ _ (call (Value.ref 136) _) _ _ _); k_dflt (refine pick_use (by k_asm) (by k_asm) (by k_asm) (by first | k_asm | exact news_f1 (by k_asm) | exact news_f2 (by k_asm) | exact news_f3 (by k_asm)) (by k_asm) (by first | exact rfl | assumption) (by ktr_room) (by ktr_units) (by assumption) (by assumption) (by assumption) (by first | decide | omega) (by assumption) (by assumption) (by k_all) ?_; intro x9 t9 i9 ti9 mx9 tm9 n9 h9 tk9 hx9 hy9 hi9 F9 N9; (try dsimp only); (try k_sweep); (try k_fold))))
  k_with "call ref" => ((k_here; (with_reducible show wpAny _ _ (call (Value.ref 150) _) _ _ _); k_dflt (refine digits_use (by k_asm) (by k_asm) (by k_asm) (by first | k_asm | exact news_f1 (by k_asm) | exact news_f2 (by k_asm) | exact news_f3 (by k_asm)) (by k_asm) (by first | exact rfl | assumption) (by ktr_room) (by ktr_units) (by assumption) (by assumption) (by assumption) (by omega) (by omega) (by assumption) (by assumption) (by k_all) ?_; intro a9 r9 o9 t9 u9 i9 ti9 mx9 tm9 n9 h9 tk9 hd9 hi9 hl9 hm9 hf9 F9 N9; (replace hl9 := ltN hl9); (replace hm9 := ltN hm9); (try k_lt hf9); (try dsimp only); (try k_sweep); (try k_fold))))
  k_with "subscriptTail" => ((k_here; (with_reducible show wpAny _ _ (subscriptTail _ _ (Value.ref _) (Value.int _ _)) _ _ _); k_dflt (refine item_tab (by k_asm) (by k_mem) (by repeat constructor) (by with_reducible assumption) (by (simp only [List.length_cons, List.length_nil]; omega)) (by decide) (by decide) ?_ (by with_unfolding_all rfl); intro r9 t9 hr9 hrl9)))
  k_with "binaryOp Pow int int" => ((with_reducible refine pow_int_small ?_ ?_ ?_ ?_; omega; omega; (first | exact sc_small (by assumption) | exact b_small (by assumption))))
  k_with "binaryOp Mult str bool" => ((refine mul_sb ?_; intro y9m t9m k9m ey9m hy9m))
  k_with "call type:str" => ((refine str_far (by assumption) (by assumption) ?_; intro y9f t9f k9f ey9f hy9f))
  k_with "call builtin:max" => ((k_here; (with_reducible show wpAny _ _ (call (Value.builtin _) [Value.int 0 _, Value.int _ _]) _ _ _); refine max0 (by with_unfolding_all rfl) (by k_asm) (by k_asm) ?_; intro y9x t9x h9 tk9 hy9x F9 N9; (try dsimp only); (try k_sweep); (try k_fold)))
  k_with "binaryOp Mult int int" => ((refine mul_int ?_ (by first | exact num_ok1 (by assumption) (by assumption) (by omega) | exact num_ok2 (by assumption) (by assumption) (by omega) | exact num_ok3 (by assumption) (by omega) (by omega))))
  k_with "call ref" => ((k_here; (with_reducible show wpAny _ _ (call (Value.ref 143) _) _ _ _); k_dflt (refine ct_use2 (by k_asm) (by k_asm) (by k_asm) (by k_asm) (by k_asm) (by first | exact rfl | assumption) (by ktr_room) (by ktr_units) (red_ct _ _ _ _ _ _ (by first | omega | exact (num_d (by assumption) (by omega) (by omega)).1) (by first | omega | exact (num_d (by assumption) (by omega) (by omega)).2)) ?_; intro r9 news9 h9 tk9 ho9 F9 N9; (try dsimp only at ho9); obtain ⟨a9, p9, q9, t9, u9, e8, e9, ep9, eq9, hl9⟩ := ho9; subst e8; subst e9; (all_goals (try dsimp only at N9)); (all_goals (try dsimp only)); (all_goals (try k_sweep)); (all_goals (try k_fold)))))
  unfold Ct
  intro mean mg mb dp un gd cn cs a ccd cl outer A₀ base h₀ L m s Q E B F X N T hk hd hu hret
  refine wpAny_call ?_
  k_dflt ktr_enter
  k_with "execs cons" => k_dflt (
    with_reducible show wpAny _ _ (execs (Stmt.Assign [Expr.Name (Str.ofString "base") _] _ _ :: _) _) _ _ _
    rename Fr _ _ _ _ => F9c
    refine cut9 (σ := (Int × Tok) × Int × Tok × Int × Tok × Nat) (fun c => [(Str.ofString "pool", .ref pa), (Str.ofString "base", .int c.1.1 c.1.2)]) (fun c => (fun (b : Int) (i : Int) (ti : Tok) (mx : Int) (tm : Tok) (n : Nat) => (pa, poolO fa i ti mx tm n) :: (fa, W.listOf vs.toArray nf) :: rest) c.1.1 c.2.1 c.2.2.1 c.2.2.2.1 c.2.2.2.2.1 c.2.2.2.2.2) (fun c => (fun (b : Int) (i : Int) (ti : Tok) (mx : Int) (tm : Tok) (n : Nat) => 0 ≤ i ∧ (b = 10 ∨ b = 16)) c.1.1 c.2.1 c.2.2.1 c.2.2.2.1 c.2.2.2.2.1 c.2.2.2.2.2) F9c ?_ ?_
    rotate_left
    rintro ⟨⟨b, tb⟩, i, ti, mx, tm, n⟩ u9 h9 tk9 hP9 F9 N9
    (try dsimp only at hP9 F9 N9)
    obtain ⟨hi1, hb⟩ := hP9
    (try k_sweep)
    (try k_fold)
    rotate_left
    (try k_fold))
  k_with "execs cons" => k_dflt (
    with_reducible show wpAny _ _ (execs (Stmt.Assign [Expr.Tuple [Expr.Name (Str.ofString "before") _, _] _ _] _ _ :: _) _) _ _ _
    rename Fr _ _ _ _ => F9c
    refine cut9 (σ := (Str × Tok) × (Int × Tok) × Int × Tok × Int × Tok × Nat) (fun c => [(Str.ofString "pool", .ref pa), (Str.ofString "base", .int b tb), (Str.ofString "before", .str c.1.1 c.1.2), (Str.ofString "high", .int c.2.1.1 c.2.1.2)]) (fun c => (fun (bf : Str) (hg : Int) (i : Int) (ti : Tok) (mx : Int) (tm : Tok) (n : Nat) => (pa, poolO fa i ti mx tm n) :: (fa, W.listOf vs.toArray nf) :: rest) c.1.1 c.2.1.1 c.2.2.1 c.2.2.2.1 c.2.2.2.2.1 c.2.2.2.2.2.1 c.2.2.2.2.2.2) (fun c => (fun (bf : Str) (hg : Int) (i : Int) (ti : Tok) (mx : Int) (tm : Tok) (n : Nat) => 0 ≤ i ∧ ∃ k : Nat, k ≤ 19 ∧ DigP b k bf hg) c.1.1 c.2.1.1 c.2.2.1 c.2.2.2.1 c.2.2.2.2.1 c.2.2.2.2.2.1 c.2.2.2.2.2.2) F9c ?_ ?_
    rotate_left
    rintro ⟨⟨bf, tbf⟩, ⟨hg, thg⟩, i, ti, mx, tm, n⟩ u9 h9 tk9 hP9 F9 N9
    (try dsimp only at hP9 F9 N9)
    obtain ⟨hi2, kb, hkb, hdb⟩ := hP9; have hlb := dig_len hdb
    (try k_sweep)
    (try k_fold)
    rotate_left
    (try k_fold))
  k_with "execs cons" => k_dflt (
    with_reducible show wpAny _ _ (execs (Stmt.Assign [Expr.Name (Str.ofString "point") _] _ _ :: _) _) _ _ _
    rename Fr _ _ _ _ => F9c
    refine cut9 (σ := (Bool × Tok) × Int × Tok × Int × Tok × Nat) (fun c => [(Str.ofString "pool", .ref pa), (Str.ofString "base", .int b tb), (Str.ofString "before", .str bf tbf), (Str.ofString "high", .int hg thg), (Str.ofString "point", .bool c.1.1)]) (fun c => (fun (pt : Bool) (i : Int) (ti : Tok) (mx : Int) (tm : Tok) (n : Nat) => (pa, poolO fa i ti mx tm n) :: (fa, W.listOf vs.toArray nf) :: rest) c.1.1 c.2.1 c.2.2.1 c.2.2.2.1 c.2.2.2.2.1 c.2.2.2.2.2) (fun c => (fun (pt : Bool) (i : Int) (ti : Tok) (mx : Int) (tm : Tok) (n : Nat) => 0 ≤ i ∧ (pt = true ∨ (bf == Str.ofString "") = false)) c.1.1 c.2.1 c.2.2.1 c.2.2.2.1 c.2.2.2.2.1 c.2.2.2.2.2) F9c ?_ ?_
    rotate_left
    rintro ⟨⟨pt, tpt⟩, i, ti, mx, tm, n⟩ u9 h9 tk9 hP9 F9 N9
    (try dsimp only at hP9 F9 N9)
    obtain ⟨hi3, hpt⟩ := hP9
    (try k_sweep)
    (try k_fold)
    rotate_left
    (try k_fold))
  k_with "execs cons" => k_dflt (
    with_reducible show wpAny _ _ (execs (Stmt.Assign [Expr.Tuple [Expr.Name (Str.ofString "behind") _, _] _ _] _ _ :: _) _) _ _ _
    rename Fr _ _ _ _ => F9c
    refine cut9 (σ := (Str × Tok) × (Int × Tok) × Int × Tok × Int × Tok × Nat) (fun c => [(Str.ofString "pool", .ref pa), (Str.ofString "base", .int b tb), (Str.ofString "before", .str bf tbf), (Str.ofString "high", .int hg thg), (Str.ofString "point", .bool pt), (Str.ofString "behind", .str c.1.1 c.1.2), (Str.ofString "low", .int c.2.1.1 c.2.1.2)]) (fun c => (fun (bh : Str) (lw : Int) (i : Int) (ti : Tok) (mx : Int) (tm : Tok) (n : Nat) => (pa, poolO fa i ti mx tm n) :: (fa, W.listOf vs.toArray nf) :: rest) c.1.1 c.2.1.1 c.2.2.1 c.2.2.2.1 c.2.2.2.2.1 c.2.2.2.2.2.1 c.2.2.2.2.2.2) (fun c => (fun (bh : Str) (lw : Int) (i : Int) (ti : Tok) (mx : Int) (tm : Tok) (n : Nat) => 0 ≤ i ∧ ∃ k : Nat, k ≤ 5 ∧ DigP b k bh lw ∧ (pt = false → k = 0) ∧ ((bf == Str.ofString "") = true → 1 ≤ k)) c.1.1 c.2.1.1 c.2.2.1 c.2.2.2.1 c.2.2.2.2.1 c.2.2.2.2.2.1 c.2.2.2.2.2.2) F9c ?_ ?_
    rotate_left
    rintro ⟨⟨bh, tbh⟩, ⟨lw, tlw⟩, i, ti, mx, tm, n⟩ u9 h9 tk9 hP9 F9 N9
    (try dsimp only at hP9 F9 N9)
    obtain ⟨hi4, kl, hkl, hdl, hp1, hp2⟩ := hP9; have hll := dig_len hdl
    (try k_sweep)
    (try k_fold)
    rotate_left
    (try k_fold))
  k_with "execs cons" => k_dflt (
    with_reducible show wpAny _ _ (execs (Stmt.Assign [Expr.Name (Str.ofString "row") _] _ _ :: _) _) _ _ _
    rename Fr _ _ _ _ => F9c
    refine cut9 (σ := (Str × Tok) × Int × Tok × Int × Tok × Nat) (fun c => [(Str.ofString "pool", .ref pa), (Str.ofString "base", .int b tb), (Str.ofString "before", .str bf tbf), (Str.ofString "high", .int hg thg), (Str.ofString "point", .bool pt), (Str.ofString "behind", .str bh tbh), (Str.ofString "low", .int lw tlw), (Str.ofString "row", .str c.1.1 c.1.2)]) (fun c => (fun (rw : Str) (i : Int) (ti : Tok) (mx : Int) (tm : Tok) (n : Nat) => (pa, poolO fa i ti mx tm n) :: (fa, W.listOf vs.toArray nf) :: rest) c.1.1 c.2.1 c.2.2.1 c.2.2.2.1 c.2.2.2.2.1 c.2.2.2.2.2) (fun c => (fun (rw : Str) (i : Int) (ti : Tok) (mx : Int) (tm : Tok) (n : Nat) => 0 ≤ i ∧ PreP b rw) c.1.1 c.2.1 c.2.2.1 c.2.2.2.1 c.2.2.2.2.1 c.2.2.2.2.2) F9c ?_ ?_
    rotate_left
    rintro ⟨⟨rw, trw⟩, i, ti, mx, tm, n⟩ u9 h9 tk9 hP9 F9 N9
    (try dsimp only at hP9 F9 N9)
    obtain ⟨hi5, hpre⟩ := hP9; have hrl := pre_len hpre
    (try k_sweep)
    (try k_fold)
    rotate_left
    (try k_fold))
  k_with "execs cons" => k_dflt (
    with_reducible show wpAny _ _ (execs (Stmt.AugAssign (Expr.Name (Str.ofString "row") _) _ (Expr.BinOp _ _ (Expr.Name _ _) _) _ :: _) _) _ _ _
    rename Fr _ _ _ _ => F9c
    refine cut9 (σ := (Str × Tok) × Int × Tok × Int × Tok × Nat) (fun c => [(Str.ofString "pool", .ref pa), (Str.ofString "base", .int b tb), (Str.ofString "before", .str bf tbf), (Str.ofString "high", .int hg thg), (Str.ofString "point", .bool pt), (Str.ofString "behind", .str bh tbh), (Str.ofString "low", .int lw tlw), (Str.ofString "row", .str c.1.1 c.1.2)]) (fun c => (fun (rw2 : Str) (i : Int) (ti : Tok) (mx : Int) (tm : Tok) (n : Nat) => (pa, poolO fa i ti mx tm n) :: (fa, W.listOf vs.toArray nf) :: rest) c.1.1 c.2.1 c.2.2.1 c.2.2.2.1 c.2.2.2.2.1 c.2.2.2.2.2) (fun c => (fun (rw2 : Str) (i : Int) (ti : Tok) (mx : Int) (tm : Tok) (n : Nat) => 0 ≤ i ∧ rw2 = rw ++ (bf ++ dotS pt ++ bh)) c.1.1 c.2.1 c.2.2.1 c.2.2.2.1 c.2.2.2.2.1 c.2.2.2.2.2) F9c ?_ ?_
    rotate_left
    rintro ⟨⟨rw2, trw2⟩, i, ti, mx, tm, n⟩ u9 h9 tk9 hP9 F9 N9
    (try dsimp only at hP9 F9 N9)
    obtain ⟨hi6, hrw2⟩ := hP9; have hrl2 := rw2_len hrw2 hrl (by omega) (by omega)
    (try k_sweep)
    (try k_fold)
    rotate_left
    (try k_fold))
  k_with "execs cons" => k_dflt (
    with_reducible show wpAny _ _ (execs (Stmt.If (Expr.Compare (Expr.Call _ _ _ _) _ _ _) (Stmt.Assign [Expr.Name (Str.ofString "far") _] _ _ :: _) _ _ :: _) _) _ _ _
    rename Fr _ _ _ _ => F9c
    refine cut9 (σ := (Str × Tok) × (Int × Tok) × Int × Tok × Int × Tok × Nat) (fun c => [(Str.ofString "pool", .ref pa), (Str.ofString "base", .int b tb), (Str.ofString "before", .str bf tbf), (Str.ofString "high", .int hg thg), (Str.ofString "point", .bool pt), (Str.ofString "behind", .str bh tbh), (Str.ofString "low", .int lw tlw), (Str.ofString "row", .str c.1.1 c.1.2), (Str.ofString "far", .int c.2.1.1 c.2.1.2)]) (fun c => (fun (rw3 : Str) (fr : Int) (i : Int) (ti : Tok) (mx : Int) (tm : Tok) (n : Nat) => (pa, poolO fa i ti mx tm n) :: (fa, W.listOf vs.toArray nf) :: rest) c.1.1 c.2.1.1 c.2.2.1 c.2.2.2.1 c.2.2.2.2.1 c.2.2.2.2.2.1 c.2.2.2.2.2.2) (fun c => (fun (rw3 : Str) (fr : Int) (i : Int) (ti : Tok) (mx : Int) (tm : Tok) (n : Nat) => 0 ≤ i ∧ ExP b rw2 rw3 fr) c.1.1 c.2.1.1 c.2.2.1 c.2.2.2.1 c.2.2.2.2.1 c.2.2.2.2.2.1 c.2.2.2.2.2.2) F9c ?_ ?_
    rotate_left
    rintro ⟨⟨rw3, trw3⟩, ⟨fr, tfr⟩, i, ti, mx, tm, n⟩ u9 h9 tk9 hP9 F9 N9
    (try dsimp only at hP9 F9 N9)
    obtain ⟨hi7, hex⟩ := hP9; obtain ⟨hf1, hf2, hf3⟩ := ex_far hex; obtain ⟨hg1, hg2, hg3⟩ := num_hg hb hdb hkb
    (try k_sweep)
    (try k_fold)
    rotate_left
    (try k_fold))
  k_with "execs cons" => k_dflt (
    with_reducible show wpAny _ _ (execs (Stmt.Assign [Expr.Name (Str.ofString "n") _] _ _ :: _) _) _ _ _
    rename Fr _ _ _ _ => F9c
    refine cut9 (σ := (Int × Tok) × Int × Tok × Int × Tok × Nat) (fun c => [(Str.ofString "pool", .ref pa), (Str.ofString "base", .int b tb), (Str.ofString "before", .str bf tbf), (Str.ofString "high", .int hg thg), (Str.ofString "point", .bool pt), (Str.ofString "behind", .str bh tbh), (Str.ofString "low", .int lw tlw), (Str.ofString "row", .str rw3 trw3), (Str.ofString "far", .int fr tfr), (Str.ofString "n", .int c.1.1 c.1.2)]) (fun c => (fun (nn : Int) (i : Int) (ti : Tok) (mx : Int) (tm : Tok) (n : Nat) => (pa, poolO fa i ti mx tm n) :: (fa, W.listOf vs.toArray nf) :: rest) c.1.1 c.2.1 c.2.2.1 c.2.2.2.1 c.2.2.2.2.1 c.2.2.2.2.2) (fun c => (fun (nn : Int) (i : Int) (ti : Tok) (mx : Int) (tm : Tok) (n : Nat) => 0 ≤ i ∧ nn = numN b hg lw kl ∧ 0 ≤ nn ∧ nn.natAbs < 2 ^ 400) c.1.1 c.2.1 c.2.2.1 c.2.2.2.1 c.2.2.2.2.1 c.2.2.2.2.2) F9c ?_ ?_
    rotate_left
    rintro ⟨⟨nn, tnn⟩, i, ti, mx, tm, n⟩ u9 h9 tk9 hP9 F9 N9
    (try dsimp only at hP9 F9 N9)
    obtain ⟨hi8, hn1, hn2, hn3⟩ := hP9
    (try k_sweep)
    (try k_fold)
    rotate_left
    (try k_fold))
  k_with "execs cons" => k_dflt (
    with_reducible show wpAny _ _ (execs (Stmt.Assign [Expr.Name (Str.ofString "scale") _] _ _ :: _) _) _ _ _
    rename Fr _ _ _ _ => F9c
    refine cut9 (σ := (Int × Tok) × Int × Tok × Int × Tok × Nat) (fun c => [(Str.ofString "pool", .ref pa), (Str.ofString "base", .int b tb), (Str.ofString "behind", .str bh tbh), (Str.ofString "row", .str rw3 trw3), (Str.ofString "far", .int fr tfr), (Str.ofString "n", .int nn tnn), (Str.ofString "scale", .int c.1.1 c.1.2)]) (fun c => (fun (sc : Int) (i : Int) (ti : Tok) (mx : Int) (tm : Tok) (n : Nat) => (pa, poolO fa i ti mx tm n) :: (fa, W.listOf vs.toArray nf) :: rest) c.1.1 c.2.1 c.2.2.1 c.2.2.2.1 c.2.2.2.2.1 c.2.2.2.2.2) (fun c => (fun (sc : Int) (i : Int) (ti : Tok) (mx : Int) (tm : Tok) (n : Nat) => 0 ≤ i ∧ ScP b sc) c.1.1 c.2.1 c.2.2.1 c.2.2.2.1 c.2.2.2.2.1 c.2.2.2.2.2) F9c ?_ ?_
    rotate_left
    rintro ⟨⟨sc, tsc⟩, i, ti, mx, tm, n⟩ u9 h9 tk9 hP9 F9 N9
    (try dsimp only at hP9 F9 N9)
    obtain ⟨hi9, hsc⟩ := hP9
    (try k_sweep)
    (try k_fold)
    rotate_left
    (try k_fold))
  k_with "MidOK" => k_dflt (first
    | (refine MidOK.ret ?_; (try dsimp only))
    | (show @Mid ((Int × Tok) × Int × Tok × Int × Tok × Nat) _ _ _ _ _ _ _; refine Mid.intro (σ := (Int × Tok) × Int × Tok × Int × Tok × Nat) (ps := fun c => [(Str.ofString "pool", .ref pa), (Str.ofString "base", .int c.1.1 c.1.2)]) ⟨⟨_, _⟩, _, _, _, _, _⟩ (by k_asm) (by k_asm) (by ((try dsimp only); repeat (first | exact List.forall_mem_nil _ | refine List.forall_mem_cons.mpr ⟨by rfl, ?_⟩))) (by ((try dsimp only); (repeat (first | with_reducible exact List.forall_mem_nil _ | refine List.forall_mem_cons.mpr ⟨by (repeat (first | (with_reducible exact List.mem_cons_self) | (with_reducible refine List.mem_cons_of_mem _ ?_))), ?_⟩)); (first | done | exact List.forall_mem_nil _ | (intro p hp; (repeat (first | exact hp | apply List.Mem.tail)))))) (by ((try dsimp only); with_reducible (exact base_pick (by assumption) (by assumption) (by assumption)))))
    | (show @Mid ((Str × Tok) × (Int × Tok) × Int × Tok × Int × Tok × Nat) _ _ _ _ _ _ _; refine Mid.intro (σ := (Str × Tok) × (Int × Tok) × Int × Tok × Int × Tok × Nat) (ps := fun c => [(Str.ofString "pool", .ref pa), (Str.ofString "base", .int b tb), (Str.ofString "before", .str c.1.1 c.1.2), (Str.ofString "high", .int c.2.1.1 c.2.1.2)]) ⟨⟨_, _⟩, ⟨_, _⟩, _, _, _, _, _⟩ (by k_asm) (by k_asm) (by ((try dsimp only); repeat (first | exact List.forall_mem_nil _ | refine List.forall_mem_cons.mpr ⟨by rfl, ?_⟩))) (by ((try dsimp only); (repeat (first | with_reducible exact List.forall_mem_nil _ | refine List.forall_mem_cons.mpr ⟨by (repeat (first | (with_reducible exact List.mem_cons_self) | (with_reducible refine List.mem_cons_of_mem _ ?_))), ?_⟩)); (first | done | exact List.forall_mem_nil _ | (intro p hp; (repeat (first | exact hp | apply List.Mem.tail)))))) (by ((try dsimp only); with_reducible (exact num_bef (by assumption) (by assumption) (by assumption)))))
    | (show @Mid ((Bool × Tok) × Int × Tok × Int × Tok × Nat) _ _ _ _ _ _ _; refine Mid.intro (σ := (Bool × Tok) × Int × Tok × Int × Tok × Nat) (ps := fun c => [(Str.ofString "pool", .ref pa), (Str.ofString "base", .int b tb), (Str.ofString "before", .str bf tbf), (Str.ofString "high", .int hg thg), (Str.ofString "point", .bool c.1.1)]) ⟨⟨_, 0⟩, _, _, _, _, _⟩ (by k_asm) (by k_asm) (by ((try dsimp only); repeat (first | exact List.forall_mem_nil _ | refine List.forall_mem_cons.mpr ⟨by rfl, ?_⟩))) (by ((try dsimp only); (repeat (first | with_reducible exact List.forall_mem_nil _ | refine List.forall_mem_cons.mpr ⟨by (repeat (first | (with_reducible exact List.mem_cons_self) | (with_reducible refine List.mem_cons_of_mem _ ?_))), ?_⟩)); (first | done | exact List.forall_mem_nil _ | (intro p hp; (repeat (first | exact hp | apply List.Mem.tail)))))) (by ((try dsimp only); with_reducible (first | exact num_pt1 (by assumption) (by assumption) | exact num_pt2 (by assumption)))))
    | (show @Mid ((Str × Tok) × (Int × Tok) × Int × Tok × Int × Tok × Nat) _ _ _ _ _ _ _; refine Mid.intro (σ := (Str × Tok) × (Int × Tok) × Int × Tok × Int × Tok × Nat) (ps := fun c => [(Str.ofString "pool", .ref pa), (Str.ofString "base", .int b tb), (Str.ofString "before", .str bf tbf), (Str.ofString "high", .int hg thg), (Str.ofString "point", .bool pt), (Str.ofString "behind", .str c.1.1 c.1.2), (Str.ofString "low", .int c.2.1.1 c.2.1.2)]) ⟨⟨_, _⟩, ⟨_, _⟩, _, _, _, _, _⟩ (by k_asm) (by k_asm) (by ((try dsimp only); repeat (first | exact List.forall_mem_nil _ | refine List.forall_mem_cons.mpr ⟨by rfl, ?_⟩))) (by ((try dsimp only); (repeat (first | with_reducible exact List.forall_mem_nil _ | refine List.forall_mem_cons.mpr ⟨by (repeat (first | (with_reducible exact List.mem_cons_self) | (with_reducible refine List.mem_cons_of_mem _ ?_))), ?_⟩)); (first | done | exact List.forall_mem_nil _ | (intro p hp; (repeat (first | exact hp | apply List.Mem.tail)))))) (by ((try dsimp only); with_reducible (first | exact num_b1 (by assumption) (by assumption) (by assumption) (by assumption) (by assumption) | exact num_b2 (by assumption) (by assumption) (by assumption) (by assumption) (by assumption) | exact num_b3 (by assumption) (by assumption) (by assumption)))))
    | (show @Mid ((Str × Tok) × Int × Tok × Int × Tok × Nat) _ _ _ _ _ _ _; refine Mid.intro (σ := (Str × Tok) × Int × Tok × Int × Tok × Nat) (ps := fun c => [(Str.ofString "pool", .ref pa), (Str.ofString "base", .int b tb), (Str.ofString "before", .str bf tbf), (Str.ofString "high", .int hg thg), (Str.ofString "point", .bool pt), (Str.ofString "behind", .str bh tbh), (Str.ofString "low", .int lw tlw), (Str.ofString "row", .str c.1.1 c.1.2)]) ⟨⟨_, _⟩, _, _, _, _, _⟩ (by k_asm) (by k_asm) (by ((try dsimp only); repeat (first | exact List.forall_mem_nil _ | refine List.forall_mem_cons.mpr ⟨by rfl, ?_⟩))) (by ((try dsimp only); (repeat (first | with_reducible exact List.forall_mem_nil _ | refine List.forall_mem_cons.mpr ⟨by (repeat (first | (with_reducible exact List.mem_cons_self) | (with_reducible refine List.mem_cons_of_mem _ ?_))), ?_⟩)); (first | done | exact List.forall_mem_nil _ | (intro p hp; (repeat (first | exact hp | apply List.Mem.tail)))))) (by ((try dsimp only); with_reducible (first | exact num_pre (by assumption) (by assumption) (by assumption) | exact num_pre0 (by assumption) (by assumption) (by assumption)))))
    | (show @Mid ((Str × Tok) × Int × Tok × Int × Tok × Nat) _ _ _ _ _ _ _; refine Mid.intro (σ := (Str × Tok) × Int × Tok × Int × Tok × Nat) (ps := fun c => [(Str.ofString "pool", .ref pa), (Str.ofString "base", .int b tb), (Str.ofString "before", .str bf tbf), (Str.ofString "high", .int hg thg), (Str.ofString "point", .bool pt), (Str.ofString "behind", .str bh tbh), (Str.ofString "low", .int lw tlw), (Str.ofString "row", .str c.1.1 c.1.2)]) ⟨⟨_, _⟩, _, _, _, _, _⟩ (by k_asm) (by k_asm) (by ((try dsimp only); repeat (first | exact List.forall_mem_nil _ | refine List.forall_mem_cons.mpr ⟨by rfl, ?_⟩))) (by ((try dsimp only); (repeat (first | with_reducible exact List.forall_mem_nil _ | refine List.forall_mem_cons.mpr ⟨by (repeat (first | (with_reducible exact List.mem_cons_self) | (with_reducible refine List.mem_cons_of_mem _ ?_))), ?_⟩)); (first | done | exact List.forall_mem_nil _ | (intro p hp; (repeat (first | exact hp | apply List.Mem.tail)))))) (by ((try dsimp only); with_reducible (first | exact num_rw1 (by assumption) (by assumption) | exact num_rw2 (by assumption) (by assumption)))))
    | (show @Mid ((Str × Tok) × (Int × Tok) × Int × Tok × Int × Tok × Nat) _ _ _ _ _ _ _; refine Mid.intro (σ := (Str × Tok) × (Int × Tok) × Int × Tok × Int × Tok × Nat) (ps := fun c => [(Str.ofString "pool", .ref pa), (Str.ofString "base", .int b tb), (Str.ofString "before", .str bf tbf), (Str.ofString "high", .int hg thg), (Str.ofString "point", .bool pt), (Str.ofString "behind", .str bh tbh), (Str.ofString "low", .int lw tlw), (Str.ofString "row", .str c.1.1 c.1.2), (Str.ofString "far", .int c.2.1.1 c.2.1.2)]) ⟨⟨_, _⟩, ⟨_, _⟩, _, _, _, _, _⟩ (by k_asm) (by k_asm) (by ((try dsimp only); repeat (first | exact List.forall_mem_nil _ | refine List.forall_mem_cons.mpr ⟨by rfl, ?_⟩))) (by ((try dsimp only); (repeat (first | with_reducible exact List.forall_mem_nil _ | refine List.forall_mem_cons.mpr ⟨by (repeat (first | (with_reducible exact List.mem_cons_self) | (with_reducible refine List.mem_cons_of_mem _ ?_))), ?_⟩)); (first | done | exact List.forall_mem_nil _ | (intro p hp; (repeat (first | exact hp | apply List.Mem.tail)))))) (by ((try dsimp only); with_reducible (first | exact exo_n (by assumption) | exact exo_a (by assumption) (by assumption) (by assumption) (by assumption) (by assumption) (by assumption) (by assumption) (by assumption) (by assumption) | exact exo_b (by assumption) (by assumption) (by assumption) (by assumption) (by assumption) (by assumption) (by assumption) (by assumption) (by assumption)))))
    | (show @Mid ((Int × Tok) × Int × Tok × Int × Tok × Nat) _ _ _ _ _ _ _; refine Mid.intro (σ := (Int × Tok) × Int × Tok × Int × Tok × Nat) (ps := fun c => [(Str.ofString "pool", .ref pa), (Str.ofString "base", .int b tb), (Str.ofString "before", .str bf tbf), (Str.ofString "high", .int hg thg), (Str.ofString "point", .bool pt), (Str.ofString "behind", .str bh tbh), (Str.ofString "low", .int lw tlw), (Str.ofString "row", .str rw3 trw3), (Str.ofString "far", .int fr tfr), (Str.ofString "n", .int c.1.1 c.1.2)]) ⟨⟨_, _⟩, _, _, _, _, _⟩ (by k_asm) (by k_asm) (by ((try dsimp only); repeat (first | exact List.forall_mem_nil _ | refine List.forall_mem_cons.mpr ⟨by rfl, ?_⟩))) (by ((try dsimp only); (repeat (first | with_reducible exact List.forall_mem_nil _ | refine List.forall_mem_cons.mpr ⟨by (repeat (first | (with_reducible exact List.mem_cons_self) | (with_reducible refine List.mem_cons_of_mem _ ?_))), ?_⟩)); (first | done | exact List.forall_mem_nil _ | (intro p hp; (repeat (first | exact hp | apply List.Mem.tail)))))) (by ((try dsimp only); with_reducible (exact num_nc hb hdb hkb hdl hkl hll (by assumption)))))
    | (show @Mid ((Int × Tok) × Int × Tok × Int × Tok × Nat) _ _ _ _ _ _ _; refine Mid.intro (σ := (Int × Tok) × Int × Tok × Int × Tok × Nat) (ps := fun c => [(Str.ofString "pool", .ref pa), (Str.ofString "base", .int b tb), (Str.ofString "behind", .str bh tbh), (Str.ofString "row", .str rw3 trw3), (Str.ofString "far", .int fr tfr), (Str.ofString "n", .int nn tnn), (Str.ofString "scale", .int c.1.1 c.1.2)]) ⟨⟨_, _⟩, _, _, _, _, _⟩ (by k_asm) (by k_asm) (by ((try dsimp only); repeat (first | exact List.forall_mem_nil _ | refine List.forall_mem_cons.mpr ⟨by rfl, ?_⟩))) (by ((try dsimp only); (repeat (first | with_reducible exact List.forall_mem_nil _ | refine List.forall_mem_cons.mpr ⟨by (repeat (first | (with_reducible exact List.mem_cons_self) | (with_reducible refine List.mem_cons_of_mem _ ?_))), ?_⟩)); (first | done | exact List.forall_mem_nil _ | (intro p hp; (repeat (first | exact hp | apply List.Mem.tail)))))) (by ((try dsimp only); with_reducible (first | exact sc_a (by assumption) (by assumption) | exact sc_b (by assumption) (by assumption) (by assumption))))))
  k_steps
  all_goals (rename Fr h₀ _ _ _ => F8)
  all_goals (rename News h₀ _ _ _ => N8)
  all_goals (rename _ < _ ∧ _ < _ ∧ _ < _ ∧ AllLt _ rest => l2)
  · rename _ < _ ∧ _ < _ ∧ AllLt _ rest => l1
    exact hret _ _ _ _ (numOut_of (numP_of hpre hkb hdb hpt hkl hdl hp1 hp2 hrw2 hex hn1 (nv1 (by with_reducible assumption))) hi8 l1 l2) F8 (news_pf N8)
  · rename _ < _ ∧ _ < _ ∧ AllLt _ rest => l1
    exact hret _ _ _ _ (numOut_of (numP_of hpre hkb hdb hpt hkl hdl hp1 hp2 hrw2 hex hn1 (nv2 (by with_reducible assumption))) hi8 l1 l2) F8 (news_pf N8)
  · rename _ < _ ∧ _ < _ ∧ AllLt _ rest => l1
    exact hret _ _ _ _ (numOut_of (numP_of hpre hkb hdb hpt hkl hdl hp1 hp2 hrw2 hex hn1 (nv3 (by with_reducible assumption) (by with_reducible assumption))) hi8 l1 l2) F8 (news_pf N8)
  · exact hret _ _ _ _ (numOut_of2 (numP_of hpre hkb hdb hpt hkl hdl hp1 hp2 hrw2 hex hn1 (nv4 (by with_reducible assumption) (by with_reducible assumption) (by with_reducible assumption) hf1 hsc (by with_reducible assumption) (by with_reducible assumption) hll (by with_reducible assumption) (by with_reducible assumption))) hi9 (by with_reducible assumption) l2) F8 (news_pf N8)
theorem num_use {w : World} {pa fa : Addr} {i mx : Int} {ti tm : Tok} {n nf : Nat} {vs : List Value} {ns : List Int} {rest : List (Addr × Obj)}
  {mean : ExcName → Option Value} {mg mb : Str → Option Value} {dp un : Nat} {gd : Option (List Code)} {cn : Str} {cs : Scope} {a : Addr} {ccd : Value} {cl : List (Str × Addr)} {outer : List Env} {A₀ : Around} {base h₀ : Heap} {L : Addr} {m : Str → Option Value} {s : Shared}
    {Q E : Value → Shared → Prop} (B : Below A₀ base outer h₀) (F : Fr h₀ L s.heap m) (X : (Mine.hd.heap_39 w.params).In h₀) (N : News h₀ L s.heap ((pa, poolO fa i ti mx tm n) :: (fa, W.listOf vs.toArray nf) :: rest)) (T : Top Mine.hd.view_39 (looseW Mine.hd.view_39 []) mean mg mb h₀) (hk : cs.kind = .function) (hd : dp + 3 < recursionLimit) (hu : un + 8 * 3 < cLine)
    (hI : IntsAre vs ns) (hlen : ns.length < 2 ^ 62) (hi : 0 ≤ i) (hne : pa ≠ fa) (hne2 : fa ≠ pa) (hra : ∀ p ∈ rest, p.1 ≠ pa)
    (ret : ∀ a y row p q t t1 t2 i' ti' mx' tm' n' h' tk', NumP row p q → 0 ≤ i' → pa < y → fa < y → y < a → (∀ x ∈ rest, x.1 < y) → Fr h₀ L h' m → News h₀ L h' ((pa, poolO fa i' ti' mx' tm' n') :: (fa, W.listOf vs.toArray nf) :: (a, tup2 (.str row t) (.ref y)) :: (y, tup2 (.int p t1) (.int q t2)) :: rest) → Q (.ref a) { s with heap := h', toks := tk' }) :
    wpAny (model PySem.Challenge.rw_no0501_01.row.prog w) (ktrTop dp un gd cn cs L a ccd cl outer) (call (.ref 157) [.ref pa]) Q E s :=
  ct_use (num_ct w pa fa i mx ti tm n nf vs ns rest hI hlen hi hne hne2 hra) B F X N T hk hd hu fun r news' h' tk' ⟨a, y, row, p, q, t, t1, t2, i', ti', mx', tm', n', e, h1, h2, h3, h4, h5, h6, e2⟩ F' N' => by
    subst e; subst e2; exact ret a y row p q t t1 t2 i' ti' mx' tm' n' h' tk' h1 h2 h3 h4 h5 h6 F' N'

end Mine
namespace Mine
local macro_rules | `(tactic| k_all) => `(tactic| assumption)
theorem news_w1 {h₀ h : Heap} {L : Addr} {a y P G Z : Addr × Obj} {l : List (Addr × Obj)} (N : News h₀ L h (a :: y :: P :: G :: Z :: l)) : News h₀ L h (P :: G :: a :: y :: l) := fun p hp => N p (by
  simp only [List.mem_cons] at hp ⊢; rcases hp with h | h | h | h | h <;> simp only [h, true_or, or_true])
theorem news_w2 {h₀ h : Heap} {L : Addr} {a P G Z : Addr × Obj} {l : List (Addr × Obj)} (N : News h₀ L h (a :: P :: G :: Z :: l)) : News h₀ L h (P :: G :: a :: l) := fun p hp => N p (by
  simp only [List.mem_cons] at hp ⊢; rcases hp with h | h | h | h <;> simp only [h, true_or, or_true])
theorem word_ct (w : World) (pa fa : Addr) (i mx : Int) (ti tm : Tok) (n nf : Nat) (vs : List Value) (ns : List Int) (rest : List (Addr × Obj)) (hI : IntsAre vs ns) (hlen : ns.length < 2 ^ 62) (hi : 0 ≤ i) (hne : pa ≠ fa) (hne2 : fa ≠ pa) (hra : ∀ p ∈ rest, p.1 ≠ pa) :
    Ct w 4 164 [.ref pa] ((pa, poolO fa i ti mx tm n) :: (fa, W.listOf vs.toArray nf) :: rest)
     (WordOut pa fa vs nf rest) := by
  k_with_none
  w_top off
  k_with "binaryOp FloorDiv int int" => (((with_reducible refine floordiv_int ?_ ?_ (Or.inl (noPy ?_))); omega; rotate_left; omega))
  k_with "binaryOp Mod int int" => (((with_reducible refine mod_int' ?_ ?_ (Or.inl (noPy ?_))); omega; rotate_left; omega))
  k_with "execs nil" => ((with_reducible refine wpAny_execs_nil ?_))
  k_with "execs cons" => ((with_reducible refine wpAny_execs_cons ?_))
  k_with "exec If" => ((with_reducible refine wpAny_If ?_))
  k_with "call ref" => ((k_here; (with_reducible show wpAny _ _ (call (Value.ref 136) _) _ _ _); k_dflt (refine pick_use (by k_asm) (by k_asm) (by k_asm) (by first | k_asm | exact news_f1 (by k_asm) | exact news_f2 (by k_asm) | exact news_f3 (by k_asm)) (by k_asm) (by first | exact rfl | assumption) (by ktr_room) (by ktr_units) (by assumption) (by assumption) (by assumption) (by first | decide | omega) (by assumption) (by assumption) (by k_all) ?_; intro x9 t9 i9 ti9 mx9 tm9 n9 h9 tk9 hx9 hy9 hi9 F9 N9; (try dsimp only); (try k_sweep); (try k_fold))))
  k_with "subscriptTail" => ((k_here; (with_reducible show wpAny _ _ (subscriptTail _ _ (Value.ref _) (Value.int _ _)) _ _ _); k_dflt (refine item_tab (by k_asm) (by k_mem) (by repeat constructor) (by with_reducible assumption) (by (simp only [List.length_cons, List.length_nil]; omega)) (by decide) (by decide) ?_ (by with_unfolding_all rfl); intro r9 t9 hr9 hrl9)))
  k_with "call ref" => ((k_here; (with_reducible show wpAny _ _ (call (Value.ref 157) _) _ _ _); k_dflt (refine num_use (by k_asm) (by k_asm) (by k_asm) (by first | k_asm | exact news_f1 (by k_asm) | exact news_f2 (by k_asm) | exact news_f3 (by k_asm)) (by k_asm) (by first | exact rfl | assumption) (by ktr_room) (by ktr_units) (by assumption) (by assumption) (by assumption) (by assumption) (by assumption) (by k_all) ?_; intro a9 y9 row9 p9 q9 t9 t19 t29 i9 ti9 mx9 tm9 n9 h9 tk9 hP9 hi9 hl9 hm9 ha9 hf9 F9 N9; (try dsimp only); (try k_sweep); (try k_fold))))
  unfold Ct
  intro mean mg mb dp un gd cn cs a ccd cl outer A₀ base h₀ L m s Q E B F X N T hk hd hu hret
  refine wpAny_call ?_
  k_dflt ktr_enter
  k_steps
  all_goals (rename Fr h₀ _ _ _ => F8)
  all_goals (rename News h₀ _ _ _ => N8)
  · exact hret _ _ _ _ (wordOut_num (Or.inl (by with_reducible assumption)) (by with_reducible assumption) (by with_reducible assumption) (by with_reducible assumption) (by with_reducible assumption) (by with_reducible assumption)) F8 N8
  · rename _ ∧ _ ∧ _ ∧ AllLt _ rest => l1
    rename _ ∧ _ ∧ _ ∧ _ ∧ AllLt _ rest => l2
    exact hret _ _ _ _ (wordOut_num (wordP_nan (by with_reducible assumption) (by with_reducible assumption)) (by with_reducible assumption) l1.1 l1.2.1 l2.1 (kst_ltOf l1.2.2.2)) F8 (news_w1 N8)
  · rename _ ∧ _ ∧ _ ∧ AllLt _ rest => l1
    rename _ ∧ _ ∧ _ ∧ _ ∧ AllLt _ rest => l2
    exact hret _ _ _ _ (wordOut_num (wordP_inf (by with_reducible assumption) (by with_reducible assumption)) (by with_reducible assumption) l1.1 l1.2.1 l2.1 (kst_ltOf l1.2.2.2)) F8 (news_w1 N8)
  · rename _ ∧ _ ∧ _ ∧ AllLt _ rest => l1
    exact hret _ _ _ _ (wordOut_bad (by with_reducible assumption) (by with_reducible assumption) l1.1 l1.2.1 (kst_ltOf l1.2.2.2)) F8 (news_w2 N8)
theorem word_use {w : World} {pa fa : Addr} {i mx : Int} {ti tm : Tok} {n nf : Nat} {vs : List Value} {ns : List Int} {rest : List (Addr × Obj)}
  {mean : ExcName → Option Value} {mg mb : Str → Option Value} {dp un : Nat} {gd : Option (List Code)} {cn : Str} {cs : Scope} {a : Addr} {ccd : Value} {cl : List (Str × Addr)} {outer : List Env} {A₀ : Around} {base h₀ : Heap} {L : Addr} {m : Str → Option Value} {s : Shared}
    {Q E : Value → Shared → Prop} (B : Below A₀ base outer h₀) (F : Fr h₀ L s.heap m) (X : (Mine.hd.heap_39 w.params).In h₀) (N : News h₀ L s.heap ((pa, poolO fa i ti mx tm n) :: (fa, W.listOf vs.toArray nf) :: rest)) (T : Top Mine.hd.view_39 (looseW Mine.hd.view_39 []) mean mg mb h₀) (hk : cs.kind = .function) (hd : dp + 4 < recursionLimit) (hu : un + 8 * 4 < cLine)
    (hI : IntsAre vs ns) (hlen : ns.length < 2 ^ 62) (hi : 0 ≤ i) (hne : pa ≠ fa) (hne2 : fa ≠ pa) (hra : ∀ p ∈ rest, p.1 ≠ pa)
    (ret1 : ∀ a y row p q t t1 t2 i' ti' mx' tm' n' h' tk', WordP row p q → 0 ≤ i' → pa < y → fa < y → y < a → (∀ x ∈ rest, x.1 < y) → Fr h₀ L h' m → News h₀ L h' ((pa, poolO fa i' ti' mx' tm' n') :: (fa, W.listOf vs.toArray nf) :: (a, tup2 (.str row t) (.ref y)) :: (y, tup2 (.int p t1) (.int q t2)) :: rest) → Q (.ref a) { s with heap := h', toks := tk' })
    (ret2 : ∀ a row t i' ti' mx' tm' n' h' tk', row ∈ badRows → 0 ≤ i' → pa < a → fa < a → (∀ x ∈ rest, x.1 < a) → Fr h₀ L h' m → News h₀ L h' ((pa, poolO fa i' ti' mx' tm' n') :: (fa, W.listOf vs.toArray nf) :: (a, tup2 (.str row t) .none) :: rest) → Q (.ref a) { s with heap := h', toks := tk' }) :
    wpAny (model PySem.Challenge.rw_no0501_01.row.prog w) (ktrTop dp un gd cn cs L a ccd cl outer) (call (.ref 164) [.ref pa]) Q E s :=
  ct_use (word_ct w pa fa i mx ti tm n nf vs ns rest hI hlen hi hne hne2 hra) B F X N T hk hd hu fun r news' h' tk' ho F' N' => by
    rcases ho with ⟨a, y, row, p, q, t, t1, t2, i', ti', mx', tm', n', e, h1, h2, h3, h4, h5, h6, e2⟩ | ⟨a, row, t, i', ti', mx', tm', n', e, h1, h2, h3, h4, h6, e2⟩
    · subst e; subst e2; exact ret1 a y row p q t t1 t2 i' ti' mx' tm' n' h' tk' h1 h2 h3 h4 h5 h6 F' N'
    · subst e; subst e2; exact ret2 a row t i' ti' mx' tm' n' h' tk' h1 h2 h3 h4 h6 F' N'

end Mine
namespace Mine
theorem pre1 {x : Str} (h : (Txt.slice x none (some 2) == Str.ofString "0x") = true) : uPre x = (16, Str.ofString "0123456789abcdef", Str.ofString "p", 2, Txt.slice x (some 2) none) := by
  rw [uPre, if_pos (by unfold uHex; rw [h]; rfl)]
theorem pre2 {x : Str} (h : (Txt.slice x none (some 2) == Str.ofString "0X") = true) : uPre x = (16, Str.ofString "0123456789abcdef", Str.ofString "p", 2, Txt.slice x (some 2) none) := by
  rw [uPre, if_pos (by unfold uHex; rw [h]; simp)]
theorem pre3 {x : Str} (h1 : (Txt.slice x none (some 2) == Str.ofString "0x") = false) (h2 : (Txt.slice x none (some 2) == Str.ofString "0X") = false) : uPre x = (10, Str.ofString "0123456789", Str.ofString "e", 10, x) := by
  rw [uPre, if_neg (by unfold uHex; rw [h1, h2]; simp)]
noncomputable def uP1 (x : Str) (b : Int) (dg mk : Str) (sc : Int) (t : Str) : Prop := uPre x = (b, dg, mk, sc, t) ∧ (2 ≤ b ∧ b ≤ 16) ∧ (2 ≤ sc ∧ sc ≤ 10) ∧ t.length ≤ 50 ∧ isDg dg ∧ (∀ c ∈ t.cps.toList, c ∈ x.cps.toList)
theorem uP1_a {x : Str} (hx : x.length ≤ 50) (hl : (Txt.slice x (some 2) none).length ≤ x.length) (h : (Txt.slice x none (some 2) == Str.ofString "0x") = true ∨ (Txt.slice x none (some 2) == Str.ofString "0X") = true) :
    uP1 x 16 (Str.ofString "0123456789abcdef") (Str.ofString "p") 2 (Txt.slice x (some 2) none) :=
  ⟨h.elim pre1 pre2, by decide, by decide, by omega, Or.inr rfl, by rw [sl_from x 2 (by decide)]; intro c hc; rw [ST_list] at hc; exact List.mem_of_mem_drop hc⟩
theorem uP1_b {x : Str} (hx : x.length ≤ 50) (h1 : (Txt.slice x none (some 2) == Str.ofString "0x") = false) (h2 : (Txt.slice x none (some 2) == Str.ofString "0X") = false) :
    uP1 x 10 (Str.ofString "0123456789") (Str.ofString "e") 10 x := ⟨pre3 h1 h2, by decide, by decide, hx, Or.inl rfl, fun _ h => h⟩
theorem uns_ct (w : World) (x : Str) (tx : Tok) (news : List (Addr × Obj)) (hx : x.length ≤ 50) (hA : Asc x) (hE : ∀ e, uExp (uPre x).2.2.1 (uPre x).2.1 (uPre x).2.2.2.2 = some e → -35 ≤ e ∨ e < -4096) :
    Ct w 5 115 [.str x tx] news (fun r news' => ∃ a, r = .ref a ∧
      ((uRes x = none ∧ (a, tup2 (.bool false) .none) :: news = news') ∨
       (uRes x = some (0, 1) ∧ (a, tup2 (.bool true) (.ref 17)) :: news = news') ∨
       (uRes x = some (1, 0) ∧ (a, tup2 (.bool true) (.ref 16)) :: news = news') ∨
       (∃ y p q t1 t2, uRes x = some (p, q) ∧ (a, tup2 (.bool true) (.ref y)) :: (y, tup2 (.int p t1) (.int q t2)) :: news = news'))) := by
  k_with_none
  w_top off
  k_with "binaryOp FloorDiv int int" => (((with_reducible refine floordiv_int ?_ ?_ (Or.inl (noPy ?_))); omega; rotate_left; omega))
  k_with "binaryOp Mod int int" => (((with_reducible refine mod_int' ?_ ?_ (Or.inl (noPy ?_))); omega; rotate_left; omega))
  k_with "execs nil" => ((with_reducible refine wpAny_execs_nil ?_))
  k_with "execs cons" => ((with_reducible refine wpAny_execs_cons ?_))
  k_with "exec If" => ((with_reducible refine wpAny_If ?_))
  k_with "binaryOp Mult int int" => ((refine mul_int ?_ (mulP (by omega) (by omega) (by omega) (by omega) (by omega))))
  k_with "call ref" => ((k_here; (with_reducible show wpAny _ _ (call (Value.ref 31) _) _ _ _); k_dflt (refine ct_use2 (by k_asm) (by k_asm) (by k_asm) (by k_asm) (by k_asm) (by first | exact rfl | assumption) (by ktr_room) (by ktr_units) (make_ct _ _ _ _ _ _ (by omega) (by first | omega | exact mulP_pos (by omega) (by omega)) (by first | omega | exact mulP_le (by omega) (by omega) (by omega) (by omega) (by omega))) ?_; intro r9 news9 h9 tk9 ho9 F9 N9; (try dsimp only at ho9); obtain ⟨a9, p9, q9, t9, u9, e8, e9, ep9, eq9, hl9⟩ := ho9; subst e8; subst e9; (all_goals (try dsimp only at N9)); (all_goals (try dsimp only)); (all_goals (try k_sweep)); (all_goals (try k_fold)))))
  k_with "call ref" => ((k_here; (with_reducible show wpAny _ _ (call (Value.ref 108) _) _ _ _); k_dflt (refine ct_use2 (by k_asm) (by k_asm) (by k_asm) (by k_asm) (by k_asm) (by first | exact rfl | assumption) (by ktr_room) (by ktr_units) (powered_ct _ _ _ _ _ _ _ _ (by first | with_reducible assumption | omega) (by with_reducible assumption) (by first | with_reducible assumption | decide | omega) (by first | with_reducible assumption | omega)) ?_; intro r9 news9 h9 tk9 ho9 F9 N9; (try dsimp only at ho9); rcases ho9 with ⟨ez9, e8, e9⟩ | ⟨ez9, ee9, e8, e9⟩ | ⟨ez9, ee9, e8, e9⟩ | ⟨ez9, ee9, ef9, a9, p9, q9, t9, u9, e8, e9, ep9, eq9, hp9, hq9, hr9, hl9⟩; all_goals (subst e8; subst e9); (all_goals (try dsimp only at N9)); (all_goals (try dsimp only)); (all_goals (try k_sweep)); (all_goals (try k_fold)))))
  k_with "call ref" => ((k_here; (with_reducible show wpAny _ _ (call (Value.ref 101) _) _ _ _); k_dflt (refine ct_use2 (by k_asm) (by k_asm) (by k_asm) (by k_asm) (by k_asm) (by first | exact rfl | assumption) (by ktr_room) (by ktr_units) (exp_ct _ _ _ _ (by first | with_reducible assumption | omega)) ?_; intro r9 news9 h9 tk9 ho9 F9 N9; (try dsimp only at ho9); obtain ⟨a9, b9, v9, t9, e8, e9, ex9, hl9⟩ := ho9; subst e8; subst e9; (all_goals (try dsimp only at N9)); (all_goals (try dsimp only)); (all_goals (try k_sweep)); (all_goals (try k_fold)))))
  k_with "call ref" => ((k_here; (with_reducible show wpAny _ _ (call (Value.ref 87) _) _ _ _); k_dflt (refine ct_use2 (by k_asm) (by k_asm) (by k_asm) (by k_asm) (by k_asm) (by first | exact rfl | assumption) (by ktr_room) (by ktr_units) (digits_value_ct _ _ _ _ _ _ (by first | with_reducible assumption | omega) (by omega)) ?_; intro r9 news9 h9 tk9 ho9 F9 N9; (try dsimp only at ho9); obtain ⟨e8, t9, e9⟩ := ho9; subst e8; subst e9; (all_goals (try dsimp only at N9)); (all_goals (try dsimp only)); (all_goals (try k_sweep)); (all_goals (try k_fold)))))
  k_with "call ref" => ((k_here; (with_reducible show wpAny _ _ (call (Value.ref 94) _) _ _ _); k_dflt (refine ct_use2 (by k_asm) (by k_asm) (by k_asm) (by k_asm) (by k_asm) (by first | exact rfl | assumption) (by ktr_room) (by ktr_units) (digit_run_ct _ _ _ _ _ _ _ _ (by first | with_reducible assumption | omega) (by omega) (by first | with_reducible assumption | omega | exact sl1 (by with_reducible assumption) (by with_reducible assumption) (by decide) | exact sl_dot (by with_reducible assumption) (by with_reducible assumption))) ?_; intro r9 news9 h9 tk9 ho9 F9 N9; (try dsimp only at ho9); obtain ⟨e8, i9, t9, e9, ei9, hi9, hj9⟩ := ho9; subst e8; subst e9; (all_goals (try dsimp only at N9)); (all_goals (try dsimp only)); (all_goals (try k_sweep)); (all_goals (try k_fold)))))
  unfold Ct
  intro mean mg mb dp un gd cn cs a ccd cl outer A₀ base h₀ L m s Q E B F X N T hk hd hu hret
  refine wpAny_call ?_
  k_dflt ktr_enter
  k_with "execs cons" => k_dflt (
    with_reducible show wpAny _ _ (execs (Stmt.If _ (Stmt.Assign [Expr.Name (Str.ofString "text") _] _ _ :: _) _ _ :: _) _) _ _ _
    rename Fr _ _ _ _ => F9c
    refine cut9 (σ := (Int × Tok) × (Str × Tok) × (Str × Tok) × (Int × Tok) × (Str × Tok)) (fun c => [(Str.ofString "base", .int c.1.1 c.1.2), (Str.ofString "digits", .str c.2.1.1 c.2.1.2), (Str.ofString "mark", .str c.2.2.1.1 c.2.2.1.2), (Str.ofString "scale", .int c.2.2.2.1.1 c.2.2.2.1.2), (Str.ofString "text", .str c.2.2.2.2.1 c.2.2.2.2.2)]) (fun c => (fun (b : Int) (dg : Str) (mk : Str) (sc : Int) (t : Str) => news) c.1.1 c.2.1.1 c.2.2.1.1 c.2.2.2.1.1 c.2.2.2.2.1) (fun c => (fun (b : Int) (dg : Str) (mk : Str) (sc : Int) (t : Str) => uP1 x b dg mk sc t) c.1.1 c.2.1.1 c.2.2.1.1 c.2.2.2.1.1 c.2.2.2.2.1) F9c ?_ ?_
    rotate_left
    rintro ⟨⟨b, tb⟩, ⟨dg, tdg⟩, ⟨mk, tmk⟩, ⟨sc, tsc⟩, ⟨t, tt⟩⟩ u9 h9 tk9 hP9 F9 N9
    (try dsimp only at hP9 F9 N9)
    obtain ⟨eP, hb, hsc, ht, hdg, hsub⟩ := hP9; have hE9 := hE; rw [eP] at hE9; dsimp only at hE9
    (try k_sweep)
    (try k_fold)
    rotate_left
    (try k_fold))
  k_with "execs cons" => k_dflt (
    with_reducible show wpAny _ _ (execs (Stmt.If _ (Stmt.Assign [Expr.Name (Str.ofString "start") _] _ _ :: _) _ _ :: _) _) _ _ _
    rename Fr _ _ _ _ => F9c
    refine cut9 (σ := (Int × Tok) × (Str × Tok) × (Str × Tok)) (fun c => [(Str.ofString "base", .int b tb), (Str.ofString "digits", .str dg tdg), (Str.ofString "mark", .str mk tmk), (Str.ofString "scale", .int sc tsc), (Str.ofString "text", .str t tt), (Str.ofString "end", .int c.1.1 c.1.2), (Str.ofString "before", .str c.2.1.1 c.2.1.2), (Str.ofString "behind", .str c.2.2.1 c.2.2.2)]) (fun c => (fun (en : Int) (bf : Str) (bh : Str) => news) c.1.1 c.2.1.1 c.2.2.1) (fun c => (fun (en : Int) (bf : Str) (bh : Str) => uP2 dg t en bf bh) c.1.1 c.2.1.1 c.2.2.1) F9c ?_ ?_
    rotate_left
    rintro ⟨⟨en, ten⟩, ⟨bf, tbf⟩, ⟨bh, tbh⟩⟩ u9 h9 tk9 hP9 F9 N9
    (try dsimp only at hP9 F9 N9)
    obtain ⟨en1, bf1, bh1, en2, en3⟩ := hP9; obtain ⟨nn0, nn1, nn2, nn3⟩ := uBH hdg hA hsub (b := b) (by omega) ht; rw [← bf1, ← bh1] at nn0 nn1; rw [← bf1] at nn2; rw [← bh1] at nn3
    (try k_sweep)
    (try k_fold)
    rotate_left
    (try k_fold))
  k_with "execs cons" => k_dflt (
    with_reducible show wpAny _ _ (execs (Stmt.If (Expr.BoolOp BoolOp.And _ _) (Stmt.Return _ _ :: _) _ _ :: _) _) _ _ _
    rename Fr _ _ _ _ => F9c
    refine cut9 (σ := Unit) (fun c => [(Str.ofString "base", .int b tb), (Str.ofString "digits", .str dg tdg), (Str.ofString "mark", .str mk tmk), (Str.ofString "scale", .int sc tsc), (Str.ofString "text", .str t tt), (Str.ofString "end", .int en ten), (Str.ofString "before", .str bf tbf), (Str.ofString "behind", .str bh tbh)]) (fun c => news) (fun c => ¬ ((bf == Str.ofString "") = true ∧ (bh == Str.ofString "") = true)) F9c ?_ ?_
    rotate_left
    rintro ⟨⟩ u9 h9 tk9 hP9 F9 N9
    (try dsimp only at hP9 F9 N9)
    skip
    (try k_sweep)
    (try k_fold)
    rotate_left
    (try k_fold))
  k_with "execs cons" => k_dflt (
    with_reducible show wpAny _ _ (execs (Stmt.If _ (Stmt.If _ _ _ _ :: _) _ _ :: _) _) _ _ _
    rename Fr _ _ _ _ => F9c
    refine cut9 (σ := (Int × Tok)) (fun c => [(Str.ofString "base", .int b tb), (Str.ofString "digits", .str dg tdg), (Str.ofString "mark", .str mk tmk), (Str.ofString "scale", .int sc tsc), (Str.ofString "text", .str t tt), (Str.ofString "end", .int en ten), (Str.ofString "before", .str bf tbf), (Str.ofString "behind", .str bh tbh), (Str.ofString "e", .int c.1 c.2)]) (fun c => (fun (ee : Int) => news) c.1) (fun c => (fun (ee : Int) => uExp mk dg t = some ee ∧ (-35 ≤ ee ∨ ee < -4096)) c.1) F9c ?_ ?_
    rotate_left
    rintro ⟨ee, tee⟩ u9 h9 tk9 hP9 F9 N9
    (try dsimp only at hP9 F9 N9)
    obtain ⟨ee1, ee2⟩ := hP9
    (try k_sweep)
    (try k_fold)
    rotate_left
    (try k_fold))
  k_with "MidOK" => k_dflt (first
    | (refine MidOK.ret ?_; (try dsimp only))
    | (show @Mid ((Int × Tok) × (Str × Tok) × (Str × Tok) × (Int × Tok) × (Str × Tok)) _ _ _ _ _ _ _; refine Mid.intro (σ := (Int × Tok) × (Str × Tok) × (Str × Tok) × (Int × Tok) × (Str × Tok)) (ps := fun c => [(Str.ofString "base", .int c.1.1 c.1.2), (Str.ofString "digits", .str c.2.1.1 c.2.1.2), (Str.ofString "mark", .str c.2.2.1.1 c.2.2.1.2), (Str.ofString "scale", .int c.2.2.2.1.1 c.2.2.2.1.2), (Str.ofString "text", .str c.2.2.2.2.1 c.2.2.2.2.2)]) ⟨⟨_, _⟩, ⟨_, _⟩, ⟨_, _⟩, ⟨_, _⟩, ⟨_, _⟩⟩ (by k_asm) (by k_asm) (by ((try dsimp only); repeat (first | exact List.forall_mem_nil _ | refine List.forall_mem_cons.mpr ⟨by rfl, ?_⟩))) (by ((try dsimp only); (repeat (first | with_reducible exact List.forall_mem_nil _ | refine List.forall_mem_cons.mpr ⟨by (repeat (first | (with_reducible exact List.mem_cons_self) | (with_reducible refine List.mem_cons_of_mem _ ?_))), ?_⟩)); (first | done | exact List.forall_mem_nil _ | (intro p hp; (repeat (first | exact hp | apply List.Mem.tail)))))) (by ((try dsimp only); with_reducible (first | exact uP1_a hx (by assumption) (Or.inl (by assumption)) | exact uP1_a hx (by assumption) (Or.inr (by assumption)) | exact uP1_b hx (by assumption) (by assumption)))))
    | (show @Mid ((Int × Tok) × (Str × Tok) × (Str × Tok)) _ _ _ _ _ _ _; refine Mid.intro (σ := (Int × Tok) × (Str × Tok) × (Str × Tok)) (ps := fun c => [(Str.ofString "base", .int b tb), (Str.ofString "digits", .str dg tdg), (Str.ofString "mark", .str mk tmk), (Str.ofString "scale", .int sc tsc), (Str.ofString "text", .str t tt), (Str.ofString "end", .int c.1.1 c.1.2), (Str.ofString "before", .str c.2.1.1 c.2.1.2), (Str.ofString "behind", .str c.2.2.1 c.2.2.2)]) ⟨⟨_, _⟩, ⟨_, _⟩, ⟨_, _⟩⟩ (by k_asm) (by k_asm) (by ((try dsimp only); repeat (first | exact List.forall_mem_nil _ | refine List.forall_mem_cons.mpr ⟨by rfl, ?_⟩))) (by ((try dsimp only); (repeat (first | with_reducible exact List.forall_mem_nil _ | refine List.forall_mem_cons.mpr ⟨by (repeat (first | (with_reducible exact List.mem_cons_self) | (with_reducible refine List.mem_cons_of_mem _ ?_))), ?_⟩)); (first | done | exact List.forall_mem_nil _ | (intro p hp; (repeat (first | exact hp | apply List.Mem.tail)))))) (by ((try dsimp only); with_reducible (first | exact mid2a (by assumption) (by assumption) (by assumption) (by assumption) (by assumption) (by assumption) | exact mid2b (by assumption) (by assumption) (by assumption) (by assumption)))))
    | (show @Mid (Unit) _ _ _ _ _ _ _; refine Mid.intro (σ := Unit) (ps := fun c => [(Str.ofString "base", .int b tb), (Str.ofString "digits", .str dg tdg), (Str.ofString "mark", .str mk tmk), (Str.ofString "scale", .int sc tsc), (Str.ofString "text", .str t tt), (Str.ofString "end", .int en ten), (Str.ofString "before", .str bf tbf), (Str.ofString "behind", .str bh tbh)]) () (by k_asm) (by k_asm) (by ((try dsimp only); repeat (first | exact List.forall_mem_nil _ | refine List.forall_mem_cons.mpr ⟨by rfl, ?_⟩))) (by ((try dsimp only); (repeat (first | with_reducible exact List.forall_mem_nil _ | refine List.forall_mem_cons.mpr ⟨by (repeat (first | (with_reducible exact List.mem_cons_self) | (with_reducible refine List.mem_cons_of_mem _ ?_))), ?_⟩)); (first | done | exact List.forall_mem_nil _ | (intro p hp; (repeat (first | exact hp | apply List.Mem.tail)))))) (by ((try dsimp only); with_reducible (first | exact and_no1 (by assumption) | exact and_no2 (by assumption)))))
    | (show @Mid ((Int × Tok)) _ _ _ _ _ _ _; refine Mid.intro (σ := (Int × Tok)) (ps := fun c => [(Str.ofString "base", .int b tb), (Str.ofString "digits", .str dg tdg), (Str.ofString "mark", .str mk tmk), (Str.ofString "scale", .int sc tsc), (Str.ofString "text", .str t tt), (Str.ofString "end", .int en ten), (Str.ofString "before", .str bf tbf), (Str.ofString "behind", .str bh tbh), (Str.ofString "e", .int c.1 c.2)]) ⟨_, _⟩ (by k_asm) (by k_asm) (by ((try dsimp only); repeat (first | exact List.forall_mem_nil _ | refine List.forall_mem_cons.mpr ⟨by rfl, ?_⟩))) (by ((try dsimp only); (repeat (first | with_reducible exact List.forall_mem_nil _ | refine List.forall_mem_cons.mpr ⟨by (repeat (first | (with_reducible exact List.mem_cons_self) | (with_reducible refine List.mem_cons_of_mem _ ?_))), ?_⟩)); (first | done | exact List.forall_mem_nil _ | (intro p hp; (repeat (first | exact hp | apply List.Mem.tail)))))) (by ((try dsimp only); with_reducible (first | exact exp4 hE9 (exp3a (by assumption) (by assumption)) | exact exp4 hE9 (exp3b (by assumption) (by assumption) (by assumption) (by assumption) (by assumption)))))))
  k_steps
  all_goals (try (k_unfold; (try dsimp only)))
  · exact hret _ _ _ _ ⟨_, rfl, Or.inl ⟨res_no1 eP bf1 bh1 (by with_reducible assumption) (by with_reducible assumption), rfl⟩⟩ (by assumption) (by assumption)
  · exact hret _ _ _ _ ⟨_, rfl, Or.inl ⟨res_no2 eP (exp3c en1 (by with_reducible assumption) (by with_reducible assumption)), rfl⟩⟩ (by assumption) (by assumption)
  · exact hret _ _ _ _ ⟨_, rfl, Or.inl ⟨res_no2 eP (exp3d en1 (by with_reducible assumption) (by with_reducible assumption) (by with_reducible assumption) (by with_reducible assumption)), rfl⟩⟩ (by assumption) (by rename News _ _ _ _ => nE; exact fun p hp => nE p (by simp only [List.mem_cons] at hp ⊢; rcases hp with h | h <;> simp only [h, true_or, or_true]))
  · exact hret _ _ _ _ ⟨_, rfl, Or.inr (Or.inl ⟨(res_some eP bf1 bh1 hP9 ee1).trans (congrArg some (val_zero (by with_reducible assumption))), rfl⟩)⟩ (by assumption) (by assumption)
  · exact hret _ _ _ _ ⟨_, rfl, Or.inr (Or.inr (Or.inl ⟨(res_some eP bf1 bh1 hP9 ee1).trans (congrArg some (val_inf (by with_reducible assumption) (by with_reducible assumption))), rfl⟩))⟩ (by assumption) (by assumption)
  · exact hret _ _ _ _ ⟨_, rfl, Or.inr (Or.inl ⟨(res_some eP bf1 bh1 hP9 ee1).trans (congrArg some (val_small (by with_reducible assumption) (by with_reducible assumption))), rfl⟩)⟩ (by assumption) (by assumption)
  · exfalso; omega
  · exfalso; omega
  · exact hret _ _ _ _ ⟨_, rfl, Or.inr (Or.inr (Or.inr ⟨_, _, _, _, _, (res_some eP bf1 bh1 hP9 ee1).trans (congrArg some (val_pair (by with_reducible assumption) (by with_reducible assumption) (by with_reducible assumption) (by with_reducible assumption) (by with_reducible assumption) (by with_reducible assumption) (by with_reducible assumption))), rfl⟩))⟩ (by assumption) (news_drop3 (by assumption))

end Mine
namespace Mine
theorem par_ct (w : World) (x : Str) (tx : Tok) (news : List (Addr × Obj)) (hx : x.length ≤ 50) (hA : Asc x)
    (hE : ∀ e, uExp (uPre (pRest (pB x))).2.2.1 (uPre (pRest (pB x))).2.1 (uPre (pRest (pB x))).2.2.2.2 = some e → -35 ≤ e ∨ e < -4096) :
    Ct w 6 122 [.str x tx] news (fun r news' => ∃ a, r = .ref a ∧
      ((pRes x = none ∧ (a, tup2 (.bool false) .none) :: news = news') ∨
       (pRes x = some none ∧ (a, tup2 (.bool true) .none) :: news = news') ∨
       (pRes x = some (some (0, 0)) ∧ (a, tup2 (.bool true) (.ref 15)) :: news = news') ∨
       (pRes x = some (some (1, 0)) ∧ (a, tup2 (.bool true) (.ref 16)) :: news = news') ∨
       (pRes x = some (some (0, 1)) ∧ (a, tup2 (.bool true) (.ref 17)) :: news = news') ∨
       (∃ y p q t1 t2, pRes x = some (some (p, q)) ∧ (a, tup2 (.bool true) (.ref y)) :: (y, tup2 (.int p t1) (.int q t2)) :: news = news'))) := by
  k_with_none
  w_top off
  k_with "binaryOp FloorDiv int int" => (((with_reducible refine floordiv_int ?_ ?_ (Or.inl (noPy ?_))); omega; rotate_left; omega))
  k_with "binaryOp Mod int int" => (((with_reducible refine mod_int' ?_ ?_ (Or.inl (noPy ?_))); omega; rotate_left; omega))
  k_with "execs nil" => ((with_reducible refine wpAny_execs_nil ?_))
  k_with "execs cons" => ((with_reducible refine wpAny_execs_cons ?_))
  k_with "exec If" => ((with_reducible refine wpAny_If ?_))
  k_with "call ref" => ((k_here; (with_reducible show wpAny _ _ (call (Value.ref 38) _) _ _ _); k_dflt (refine ct_use2 (by k_asm) (by k_asm) (by k_asm) (by k_asm) (by k_asm) (by first | exact rfl | assumption) (by ktr_room) (by ktr_units) (neg_ct _ _ _ _ _ (by first | exact .nan | exact .inf | exact .zero | exact .new (.head _) | exact .new (.tail _ (.head _)) | exact .new (.tail _ (.tail _ (.head _))) | assumption)) ?_; intro r9 news9 h9 tk9 ho9 F9 N9; (try dsimp only at ho9); obtain ⟨a9, t9, u9, e8, e9, hl9⟩ := ho9; subst e8; subst e9; (all_goals (try dsimp only at N9)); (all_goals (try dsimp only)); (all_goals (try k_sweep)); (all_goals (try k_fold)))))
  k_with "call ref" => ((k_here; (with_reducible show wpAny _ _ (call (Value.ref 115) _) _ _ _); k_dflt (refine ct_use2 (by k_asm) (by k_asm) (by k_asm) (by k_asm) (by k_asm) (by first | exact rfl | assumption) (by ktr_room) (by ktr_units) (uns_ct _ _ _ _ (by first | with_reducible assumption | omega) (by with_reducible assumption) (by with_reducible assumption)) ?_; intro r9 news9 h9 tk9 ho9 F9 N9; (try dsimp only at ho9); obtain ⟨a9, e8, ho8⟩ := ho9; subst e8; rcases ho8 with ⟨er9, e9⟩ | ⟨er9, e9⟩ | ⟨er9, e9⟩ | ⟨y9, p9, q9, t9, u9, er9, e9⟩; all_goals (subst e9); (all_goals (try dsimp only at N9)); (all_goals (try dsimp only)); (all_goals (try k_sweep)); (all_goals (try k_fold)))))
  unfold Ct
  intro mean mg mb dp un gd cn cs a ccd cl outer A₀ base h₀ L m s Q E B F X N T hk hd hu hret
  refine wpAny_call ?_
  k_dflt ktr_enter
  k_with "execs cons" => k_dflt (
    with_reducible show wpAny _ _ (execs (Stmt.If (Expr.BoolOp BoolOp.Or _ _) (Stmt.Return _ _ :: _) _ _ :: _) _) _ _ _
    rename Fr _ _ _ _ => F9c
    refine cut9 (σ := (Str × Tok)) (fun c => [(Str.ofString "text", .str x tx), (Str.ofString "body", .str c.1 c.2)]) (fun c => (fun (b : Str) => news) c.1) (fun c => (fun (b : Str) => b = pB x ∧ (b == Str.ofString "") = false ∧ (b == Str.ofString "NA") = false) c.1) F9c ?_ ?_
    rotate_left
    rintro ⟨b, tb⟩ u9 h9 tk9 hP9 F9 N9
    (try dsimp only at hP9 F9 N9)
    obtain ⟨eb, h01, h02⟩ := hP9; have h03 := one_le h01; have hbA : Asc b := (by rw [eb]; exact hA.strip WS); have hbl : b.length ≤ 50 := (by rw [eb]; exact Nat.le_trans (strip_sub x WS).2 hx); have hcf := rest_facts hbA hbl; rw [← eb] at hE
    (try k_sweep)
    (try k_fold)
    rotate_left
    (try k_fold))
  k_with "execs cons" => k_dflt (
    with_reducible show wpAny _ _ (execs (Stmt.If (Expr.BoolOp BoolOp.Or _ _) (Stmt.Assign [Expr.Name (Str.ofString "body") _] _ _ :: _) _ _ :: _) _) _ _ _
    rename Fr _ _ _ _ => F9c
    refine cut9 (σ := (Str × Tok) × (Bool × Tok)) (fun c => [(Str.ofString "text", .str x tx), (Str.ofString "body", .str c.1.1 c.1.2), (Str.ofString "negative", .bool c.2.1)]) (fun c => (fun (c : Str) (ng : Bool) => news) c.1.1 c.2.1) (fun c => (fun (c : Str) (ng : Bool) => c = pRest b ∧ ng = pNeg b) c.1.1 c.2.1) F9c ?_ ?_
    rotate_left
    rintro ⟨⟨c, tc⟩, ⟨ng, tng⟩⟩ u9 h9 tk9 hP9 F9 N9
    (try dsimp only at hP9 F9 N9)
    obtain ⟨ec, en⟩ := hP9; obtain ⟨hcA, hcl⟩ := hcf; rw [← ec] at hE hcA hcl
    (try k_sweep)
    (try k_fold)
    rotate_left
    (try k_fold))
  k_with "MidOK" => k_dflt (first
    | (refine MidOK.ret ?_; (try dsimp only))
    | (show @Mid ((Str × Tok)) _ _ _ _ _ _ _; refine Mid.intro (σ := (Str × Tok)) (ps := fun c => [(Str.ofString "text", .str x tx), (Str.ofString "body", .str c.1 c.2)]) ⟨_, _⟩ (by k_asm) (by k_asm) (by ((try dsimp only); repeat (first | exact List.forall_mem_nil _ | refine List.forall_mem_cons.mpr ⟨by rfl, ?_⟩))) (by ((try dsimp only); (repeat (first | with_reducible exact List.forall_mem_nil _ | refine List.forall_mem_cons.mpr ⟨by (repeat (first | (with_reducible exact List.mem_cons_self) | (with_reducible refine List.mem_cons_of_mem _ ?_))), ?_⟩)); (first | done | exact List.forall_mem_nil _ | (intro p hp; (repeat (first | exact hp | apply List.Mem.tail)))))) (by ((try dsimp only); with_reducible (exact ⟨rfl, by assumption, by assumption⟩))))
    | (show @Mid ((Str × Tok) × (Bool × Tok)) _ _ _ _ _ _ _; refine Mid.intro (σ := (Str × Tok) × (Bool × Tok)) (ps := fun c => [(Str.ofString "text", .str x tx), (Str.ofString "body", .str c.1.1 c.1.2), (Str.ofString "negative", .bool c.2.1)]) ⟨⟨_, _⟩, ⟨_, 0⟩⟩ (by k_asm) (by k_asm) (by ((try dsimp only); repeat (first | exact List.forall_mem_nil _ | refine List.forall_mem_cons.mpr ⟨by rfl, ?_⟩))) (by ((try dsimp only); (repeat (first | with_reducible exact List.forall_mem_nil _ | refine List.forall_mem_cons.mpr ⟨by (repeat (first | (with_reducible exact List.mem_cons_self) | (with_reducible refine List.mem_cons_of_mem _ ?_))), ?_⟩)); (first | done | exact List.forall_mem_nil _ | (intro p hp; (repeat (first | exact hp | apply List.Mem.tail)))))) (by ((try dsimp only); with_reducible (first | exact rest1 (by assumption) | exact rest2 (by assumption) (by assumption) | exact rest3 (by assumption) (by assumption))))))
  k_steps
  · exact hret _ _ _ _ ⟨_, rfl, Or.inr (Or.inl ⟨par_na1 (by with_reducible assumption), rfl⟩)⟩ (by assumption) (by assumption)
  · exact hret _ _ _ _ ⟨_, rfl, Or.inr (Or.inl ⟨par_na2 (by with_reducible assumption), rfl⟩)⟩ (by assumption) (by assumption)
  all_goals have eG := par_go (eb ▸ h01) (eb ▸ h02) (eb ▸ ec) (eb ▸ en)
  · exact hret _ _ _ _ ⟨_, rfl, Or.inr (Or.inr (Or.inr (Or.inr (Or.inr ⟨_, _, _, _, _, eG.trans (sg_neg (by with_reducible assumption) (found_nan (by with_reducible assumption))), rfl⟩))))⟩ (by assumption) (by assumption)
  · exact hret _ _ _ _ ⟨_, rfl, Or.inr (Or.inr (Or.inl ⟨eG.trans (sg_pos (by with_reducible assumption) (found_nan (by with_reducible assumption))), rfl⟩))⟩ (by assumption) (by assumption)
  · exact hret _ _ _ _ ⟨_, rfl, Or.inr (Or.inr (Or.inr (Or.inr (Or.inr ⟨_, _, _, _, _, eG.trans (sg_neg (by with_reducible assumption) (found_inf1 (by with_reducible assumption) (by with_reducible assumption))), rfl⟩))))⟩ (by assumption) (by assumption)
  · exact hret _ _ _ _ ⟨_, rfl, Or.inr (Or.inr (Or.inr (Or.inl ⟨eG.trans (sg_pos (by with_reducible assumption) (found_inf1 (by with_reducible assumption) (by with_reducible assumption))), rfl⟩)))⟩ (by assumption) (by assumption)
  · exact hret _ _ _ _ ⟨_, rfl, Or.inr (Or.inr (Or.inr (Or.inr (Or.inr ⟨_, _, _, _, _, eG.trans (sg_neg (by with_reducible assumption) (found_inf2 (by with_reducible assumption) (by with_reducible assumption))), rfl⟩))))⟩ (by assumption) (by assumption)
  · exact hret _ _ _ _ ⟨_, rfl, Or.inr (Or.inr (Or.inr (Or.inl ⟨eG.trans (sg_pos (by with_reducible assumption) (found_inf2 (by with_reducible assumption) (by with_reducible assumption))), rfl⟩)))⟩ (by assumption) (by assumption)
  all_goals have eF := found_uns (c := c) (by with_reducible assumption) (by with_reducible assumption) (by with_reducible assumption) (by with_reducible assumption)
  · exact hret _ _ _ _ ⟨_, rfl, Or.inl ⟨eG.trans (sg_no eF), rfl⟩⟩ (by assumption) (news_drop2 (by assumption))
  · exact hret _ _ _ _ ⟨_, rfl, Or.inr (Or.inr (Or.inr (Or.inr (Or.inr ⟨_, _, _, _, _, eG.trans (sg_neg (by with_reducible assumption) eF), rfl⟩))))⟩ (by assumption) (news_drop3 (by assumption))
  · exact hret _ _ _ _ ⟨_, rfl, Or.inr (Or.inr (Or.inr (Or.inr (Or.inl ⟨eG.trans (sg_pos (by with_reducible assumption) eF), rfl⟩))))⟩ (by assumption) (news_drop2 (by assumption))
  · exact hret _ _ _ _ ⟨_, rfl, Or.inr (Or.inr (Or.inr (Or.inr (Or.inr ⟨_, _, _, _, _, eG.trans (sg_neg (by with_reducible assumption) eF), rfl⟩))))⟩ (by assumption) (news_drop3 (by assumption))
  · exact hret _ _ _ _ ⟨_, rfl, Or.inr (Or.inr (Or.inr (Or.inl ⟨eG.trans (sg_pos (by with_reducible assumption) eF), rfl⟩)))⟩ (by assumption) (news_drop2 (by assumption))
  · rename Fr h₀ _ _ _ => F8
    rename News h₀ _ _ _ => N8
    exact hret _ _ _ _ ⟨_, rfl, Or.inr (Or.inr (Or.inr (Or.inr (Or.inr ⟨_, _, _, _, _, eG.trans (sg_neg (by with_reducible assumption) eF), rfl⟩))))⟩ F8 (news_drop4 N8)
  · rename Fr h₀ _ _ _ => F8
    rename News h₀ _ _ _ => N8
    exact hret _ _ _ _ ⟨_, rfl, Or.inr (Or.inr (Or.inr (Or.inr (Or.inr ⟨_, _, _, _, _, eG.trans (sg_pos (by with_reducible assumption) eF), rfl⟩))))⟩ F8 (news_mid N8)

end Mine
namespace Mine
theorem fm {d k : Int} (hk : 0 ≤ k) : d.fmod k = d % k := Int.fmod_eq_emod_of_nonneg _ hk
theorem fd {d k : Int} (hk : 0 ≤ k) : d.fdiv k = d / k := Int.fdiv_eq_ediv_of_nonneg _ hk
theorem dec1 {d t n : Int} (h1 : 0 < d) (h2 : 0 ≤ t) (h3 : d * 2 ^ t.toNat = n) (h : d.fmod 2 = 0) : 0 < d.fdiv 2 ∧ 0 ≤ t + 1 ∧ d.fdiv 2 * 2 ^ (t + 1).toNat = n := by
  rw [fm (by decide)] at h
  have e1 : (t + 1).toNat = t.toNat + 1 := by omega
  rw [fd (by decide)]
  refine ⟨by omega, by omega, ?_⟩
  rw [← h3, e1, Int.pow_succ]
  have e2 : d / 2 * 2 = d := by omega
  calc d / 2 * (2 ^ t.toNat * 2) = d / 2 * 2 * 2 ^ t.toNat := by rw [Int.mul_assoc, Int.mul_comm 2]
    _ = d * 2 ^ t.toNat := by rw [e2]
theorem dec2s {d : Int} (h1 : 0 < d) (h : d.fmod 2 ≠ 0) : 0 < d ∧ (0:Int) ≤ 0 ∧ d * 5 ^ (0:Int).toNat = d ∧ d.fmod 2 ≠ 0 :=
  ⟨h1, by decide, by simp, h⟩
theorem dec2 {d f n : Int} (h1 : 0 < d) (h4 : 0 ≤ f) (h3 : d * 5 ^ f.toNat = n) (h5 : d.fmod 2 ≠ 0) (h : d.fmod 5 = 0) :
    0 < d.fdiv 5 ∧ 0 ≤ f + 1 ∧ d.fdiv 5 * 5 ^ (f + 1).toNat = n ∧ (d.fdiv 5).fmod 2 ≠ 0 := by
  rw [fm (by decide)] at h h5
  have e1 : (f + 1).toNat = f.toNat + 1 := by omega
  rw [fd (by decide), fm (by decide)]
  refine ⟨by omega, by omega, ?_, by omega⟩
  rw [← h3, e1, Int.pow_succ]
  have e2 : d / 5 * 5 = d := by omega
  calc d / 5 * (5 ^ f.toNat * 5) = d / 5 * 5 * 5 ^ f.toNat := by rw [Int.mul_assoc, Int.mul_comm 5]
    _ = d * 5 ^ f.toNat := by rw [e2]
theorem decm {d k : Int} (h1 : 0 < d) (hk : 1 < k) : (d.fdiv k).toNat < d.toNat := by
  rw [fd (by omega)]
  have := Int.ediv_lt_self_of_pos_of_ne_one h1 (show k ≠ 1 by omega)
  have : 0 ≤ d / k := Int.ediv_nonneg (by omega) (by omega)
  omega
theorem decE {x d f t n : Int} (h1 : 0 < d) (h2 : 0 ≤ t) (h3 : d * 2 ^ t.toNat = n) (h7 : 0 < x) (h4 : 0 ≤ f) (h6 : x * 5 ^ f.toNat = d) (h5 : x.fmod 2 ≠ 0) (h : x.fmod 5 ≠ 0) :
    n = ((x.toNat : Nat) : Int) * 2 ^ t.toNat * 5 ^ f.toNat ∧ x.toNat % 2 ≠ 0 ∧ x.toNat % 5 ≠ 0 := by
  rw [fm (by decide)] at h h5
  have e : ((x.toNat : Nat) : Int) = x := by omega
  refine ⟨?_, by omega, by omega⟩
  rw [e, ← h3, ← h6, Int.mul_assoc, Int.mul_assoc, Int.mul_comm (5 ^ _)]
theorem places_ct (w : World) (n : Int) (tn : Tok) (news : List (Addr × Obj)) (hn : 0 < n) (hb : n ≤ 1000000000000000000) :
    Ct w 1 73 [.int n tn] news (fun r news' => news = news' ∧ ∃ e a b : Nat, (n = (e : Int) * 2 ^ a * 5 ^ b ∧ e % 2 ≠ 0 ∧ e % 5 ≠ 0) ∧ (e = 1 → ∃ t, r = .int (max a b : Nat) t) ∧ (e ≠ 1 → r = .none)) := by
  k_with_none
  w_top off
  k_with "binaryOp FloorDiv int int" => (((with_reducible refine floordiv_int ?_ ?_ (Or.inl (noPy ?_))); omega; rotate_left; omega))
  k_with "binaryOp Mod int int" => (((with_reducible refine mod_int' ?_ ?_ (Or.inl (noPy ?_))); omega; rotate_left; omega))
  unfold Ct
  intro mean mg mb dp un gd cn cs a ccd cl outer A₀ base h₀ L m s Q E B F X N T hk hd hu hret
  refine wpAny_call ?_
  k_dflt ktr_enter
  k_with "exec While Compare cons nil" => k_dflt first
    | k_while_given ["d!"] (fun d0 _ d f => 0 < d ∧ 0 ≤ f ∧ d * 5 ^ f.toNat = d0 ∧ d.fmod 2 ≠ 0) (fun d0 _ d f => d.toNat) "d" "fives"
    | k_while (fun _ d t => 0 < d ∧ 0 ≤ t ∧ d * 2 ^ t.toNat = n) (fun _ d t => d.toNat) "d" "twos"
  k_with "state" => first
    | exact dec1 (by assumption) (by assumption) (by assumption) (by assumption)
    | exact dec2s (by assumption) (by assumption)
    | exact dec2 (by assumption) (by assumption) (by assumption) (by assumption) (by assumption)
    | exact ⟨hn, by decide, by simp⟩
  k_with "measure" => exact decm (by assumption) (by decide)
  k_steps
  · rename (_ : Int) * 2 ^ _ = n => h3
    rename (_ : Int) * 5 ^ _ = _ => h6
    have E9 := decE (by assumption) (by assumption) h3 (by assumption) (by assumption) h6 (by assumption) (by assumption)
    exact hret _ _ _ _ ⟨rfl, _, _, _, E9, fun h => by exfalso; omega, fun _ => rfl⟩ (by assumption) (by assumption)
  · rename (_ : Int) * 2 ^ _ = n => h3
    rename (_ : Int) * 5 ^ _ = _ => h6
    have E9 := decE (by assumption) (by assumption) h3 (by assumption) (by assumption) h6 (by assumption) (by assumption)
    refine hret _ _ _ _ ⟨rfl, _, _, _, E9, fun _ => ⟨_, congrArg (Value.int · _) ?_⟩, fun h => absurd (show _ = 1 by omega) h⟩ (by assumption) (by assumption)
    split <;> omega

end Mine
namespace Mine
noncomputable def fixL (v : Int) (k : Int) : List Nat := List.replicate ((k + 1).toNat - (itext v).length) 48 ++ itext v
noncomputable def fixX (p q k : Int) : Int := (if p < 0 then -p else p) * 10 ^ k.toNat / q
noncomputable def fixT (p v k : Int) : List Nat := (if p < 0 then [45] else []) ++ ((fixL v k).take ((fixL v k).length - k.toNat) ++ 46 :: (fixL v k).drop ((fixL v k).length - k.toNat))
theorem rj_eq (l : List Nat) (i : Int) (c : Nat) : Txt.rjustF (ST l) i c = ST (List.replicate (i.toNat - l.length) c ++ l) := by
  unfold Txt.rjustF
  split
  · rename_i h
    rw [ST_len] at h
    have e : i.toNat - l.length = 0 := by omega
    rw [e]; rfl
  · rw [ST_len]
    refine Str.ext' (Array.toList_inj.mp ?_)
    rw [padded_list]; simp [ST]
theorem nd_pos (m : Nat) : 1 ≤ (nd m).length := by
  unfold nd; rw [List.length_map]
  exact toDigits_len_ge 10 m
theorem fixP {v k : Int} (h0 : 0 ≤ v) (h1 : v < 1000000000000000) (hk : 1 ≤ k ∧ k ≤ 15) :
    Txt.rjustF (ST (itext v)) (k + 1) ((Str.ofString "0").cps.getD 0 0) = ST (fixL v k) ∧ (Txt.rjustF (ST (itext v)) (k + 1) ((Str.ofString "0").cps.getD 0 0)).length ≤ 100 ∧ k + 1 ≤ (Txt.rjustF (ST (itext v)) (k + 1) ((Str.ofString "0").cps.getD 0 0)).length := by
  have e0 : (Str.ofString "0").cps.getD 0 0 = 48 := by decide
  rw [e0, rj_eq]
  have hl : (itext v).length ≤ 15 := by
    rw [itext, if_neg (by omega)]
    exact nd_len (by have : v.natAbs < 1000000000000000 := by omega
                     exact this) (by decide)
  refine ⟨rfl, ?_, ?_⟩
  · rw [ST_len, List.length_append, List.length_replicate]; omega
  · rw [ST_len, List.length_append, List.length_replicate]; omega
theorem fixE {T : Str} {v k : Int} (e : T = ST (fixL v k)) (hk : 1 ≤ k) (hl : k + 1 ≤ T.length) :
    Txt.slice T none (some ((T.length : Int) - k)) ++ Str.ofString "." ++ Txt.slice T (some ((T.length : Int) - k)) none = ST ((fixL v k).take ((fixL v k).length - k.toNat) ++ 46 :: (fixL v k).drop ((fixL v k).length - k.toNat)) := by
  rw [sl_to _ _ (by omega), sl_from _ _ (by omega)]
  subst e
  rw [ST_list, ST_len] at *
  have e1 : (((fixL v k).length : Int) - k).toNat = (fixL v k).length - k.toNat := by omega
  have e2 : Str.ofString "." = ST [46] := by decide
  rw [e1, e2, ST_append, ST_append]
  simp
theorem fixP2 {w p q k : Int} (e : w = (if p < 0 then -p else p) * 10 ^ k.toNat / q) (h0 : 0 ≤ (if p < 0 then -p else p) * 10 ^ k.toNat / q) (h1 : (if p < 0 then -p else p) * 10 ^ k.toNat / q < 1000000000000000) (hk : 1 ≤ k ∧ k ≤ 15) :
    Txt.rjustF (ST (itext w)) (k + 1) ((Str.ofString "0").cps.getD 0 0) = ST (fixL (fixX p q k) k) ∧ (Txt.rjustF (ST (itext w)) (k + 1) ((Str.ofString "0").cps.getD 0 0)).length ≤ 100 ∧ k + 1 ≤ (Txt.rjustF (ST (itext w)) (k + 1) ((Str.ofString "0").cps.getD 0 0)).length := by
  subst e; exact fixP h0 h1 hk
theorem fix_ct (w : World) (x : Addr) (p q k : Int) (t1 t2 tk : Tok) (news : List (Addr × Obj)) (hm : (x, tup2 (.int p t1) (.int q t2)) ∈ news) (hp : p.natAbs ≤ 1000000000000000000) (hq : 0 < q) (hq2 : q ≤ 1000000000000000000) (hkk : 1 ≤ k ∧ k ≤ 15)
    (hd9 : ((if p < 0 then -p else p) * 10 ^ k.toNat) % q = 0) (hn : (if p < 0 then -p else p) * 10 ^ k.toNat / q < 1000000000000000) :
    Ct w 3 66 [.ref x, .int k tk] news (fun r news' => news = news' ∧ ∃ t, r = .str (ST (fixT p (fixX p q k) k)) t) := by
  k_with_none
  w_top off
  k_with "binaryOp FloorDiv int int" => (((with_reducible refine floordiv_int ?_ ?_ (Or.inl (noPy ?_))); omega; rotate_left; omega))
  k_with "binaryOp Mod int int" => (((with_reducible refine mod_int' ?_ ?_ (Or.inl (noPy ?_))); omega; rotate_left; omega))
  k_with "execs nil" => ((with_reducible refine wpAny_execs_nil ?_))
  k_with "execs cons" => ((with_reducible refine wpAny_execs_cons ?_))
  k_with "exec If" => ((with_reducible refine wpAny_If ?_))
  k_with "call ref" => ((k_here; (with_reducible show wpAny _ _ (call (Value.ref 45) _) _ _ _); k_dflt (refine ct_use2 (by k_asm) (by k_asm) (by k_asm) (by k_asm) (by k_asm) (by first | exact rfl | assumption) (by ktr_room) (by ktr_units) (nearest_ct _ _ _ _ _ _ (by omega) (by omega) (by omega) (by first | with_reducible assumption | omega)) ?_; intro r9 news9 h9 tk9 ho9 F9 N9; (try dsimp only at ho9); obtain ⟨e8, q9, t9, e9, eq9⟩ := ho9; subst e8; subst e9; (all_goals (try dsimp only at N9)); (all_goals (try dsimp only)); (all_goals (try k_sweep)); (all_goals (try k_fold)))))
  k_with "call ref" => ((k_here; (with_reducible show wpAny _ _ (call (Value.ref 52) _) _ _ _); k_dflt (refine ct_use2 (by k_asm) (by k_asm) (by k_asm) (by k_asm) (by k_asm) (by first | exact rfl | assumption) (by ktr_room) (by ktr_units) (whole_ct _ _ _ _ (by omega)) ?_; intro r9 news9 h9 tk9 ho9 F9 N9; (try dsimp only at ho9); obtain ⟨e8, t9, e9⟩ := ho9; subst e8; subst e9; (all_goals (try dsimp only at N9)); (all_goals (try dsimp only)); (all_goals (try k_sweep)); (all_goals (try k_fold)))))
  unfold Ct
  intro mean mg mb dp un gd cn cs a ccd cl outer A₀ base h₀ L m s Q E B F X N T hk hd hu hret
  refine wpAny_call ?_
  k_dflt ktr_enter
  have h0 : 0 ≤ (if p < 0 then -p else p) * 10 ^ k.toNat := Int.mul_nonneg (by split <;> omega) (Int.le_of_lt (Int.pow_pos (by decide)))
  have h1 : 0 ≤ (if p < 0 then -p else p) * 10 ^ k.toNat / q := Int.ediv_nonneg h0 (by omega)
  k_with "execs cons" => k_dflt (
    with_reducible show wpAny _ _ (execs (Stmt.Assign [Expr.Name (Str.ofString "text") _] (Expr.Call _ _ _ _) _ :: _) _) _ _ _
    rename Fr _ _ _ _ => F9c
    refine cut9 (σ := (Str × Tok)) (fun c => [(Str.ofString "x", .ref x), (Str.ofString "places", .int k tk), (Str.ofString "text", .str c.1 c.2)]) (fun c => (fun (T : Str) => news) c.1) (fun c => (fun (T : Str) => T = ST (fixL (fixX p q k) k) ∧ T.length ≤ 100 ∧ k + 1 ≤ T.length) c.1) F9c ?_ ?_
    rotate_left
    rintro ⟨T, tT⟩ u9 h9 tk9 hP9 F9 N9
    (try dsimp only at hP9 F9 N9)
    obtain ⟨eT, hT, hT2⟩ := hP9
    (try k_sweep)
    (try k_fold)
    rotate_left
    (try k_fold))
  k_with "MidOK" => k_dflt (first
    | (refine MidOK.ret ?_; (try dsimp only))
    | (show @Mid ((Str × Tok)) _ _ _ _ _ _ _; refine Mid.intro (σ := (Str × Tok)) (ps := fun c => [(Str.ofString "x", .ref x), (Str.ofString "places", .int k tk), (Str.ofString "text", .str c.1 c.2)]) ⟨_, _⟩ (by k_asm) (by k_asm) (by ((try dsimp only); repeat (first | exact List.forall_mem_nil _ | refine List.forall_mem_cons.mpr ⟨by rfl, ?_⟩))) (by ((try dsimp only); (repeat (first | with_reducible exact List.forall_mem_nil _ | refine List.forall_mem_cons.mpr ⟨by (repeat (first | (with_reducible exact List.mem_cons_self) | (with_reducible refine List.mem_cons_of_mem _ ?_))), ?_⟩)); (first | done | exact List.forall_mem_nil _ | (intro p hp; (repeat (first | exact hp | apply List.Mem.tail)))))) (by ((try dsimp only); with_reducible (exact fixP2 (by assumption) h1 hn hkk)))))
  k_steps
  · refine hret _ _ _ _ ⟨rfl, _, congrArg (Value.str · _) ?_⟩ (by assumption) (by assumption)
    rw [fixE eT hkk.1 hT2, fixT, if_pos (by assumption), show Str.ofString "-" = ST [45] by decide, ST_append]
  · refine hret _ _ _ _ ⟨rfl, _, congrArg (Value.str · _) ?_⟩ (by assumption) (by assumption)
    rw [fixE eT hkk.1 hT2, fixT, if_neg (by assumption)]
    simp

end Mine
namespace Mine
noncomputable def spT (p : Int) : Str := if p = 0 then Str.ofString "NaN" else if 0 < p then Str.ofString "Inf" else Str.ofString "-Inf"
theorem sp_ct (w : World) (x : Addr) (p q : Int) (t1 t2 : Tok) (news : List (Addr × Obj)) (hm : (x, tup2 (.int p t1) (.int q t2)) ∈ news) (hq : 0 < q ∨ q = 0) :
    Ct w 1 59 [.ref x] news (fun r news' => news = news' ∧ ((0 < q ∧ r = .none) ∨ (q = 0 ∧ ∃ t, r = .str (spT p) t))) := by
  k_with_none
  w_top off
  k_with "binaryOp FloorDiv int int" => (((with_reducible refine floordiv_int ?_ ?_ (Or.inl (noPy ?_))); omega; rotate_left; omega))
  k_with "binaryOp Mod int int" => (((with_reducible refine mod_int' ?_ ?_ (Or.inl (noPy ?_))); omega; rotate_left; omega))
  k_with "execs nil" => ((with_reducible refine wpAny_execs_nil ?_))
  k_with "execs cons" => ((with_reducible refine wpAny_execs_cons ?_))
  k_with "exec If" => ((with_reducible refine wpAny_If ?_))
  unfold Ct
  intro mean mg mb dp un gd cn cs a ccd cl outer A₀ base h₀ L m s Q E B F X N T hk hd hu hret
  refine wpAny_call ?_
  k_dflt ktr_enter
  k_steps
  · exact hret _ _ _ _ ⟨rfl, Or.inl ⟨by assumption, rfl⟩⟩ (by assumption) (by assumption)
  · exact hret _ _ _ _ ⟨rfl, Or.inr ⟨by omega, _, congrArg (Value.str · _) (by unfold spT; rw [if_pos (by assumption)])⟩⟩ (by assumption) (by assumption)
  · exact hret _ _ _ _ ⟨rfl, Or.inr ⟨by omega, _, congrArg (Value.str · _) (by unfold spT; rw [if_neg (by omega), if_pos (by omega)])⟩⟩ (by assumption) (by assumption)
  · exact hret _ _ _ _ ⟨rfl, Or.inr ⟨by omega, _, congrArg (Value.str · _) (by unfold spT; rw [if_neg (by omega), if_neg (by omega)])⟩⟩ (by assumption) (by assumption)
theorem sp_none_ct (w : World) (news : List (Addr × Obj)) :
    Ct w 1 59 [.none] news (fun r news' => news = news' ∧ ∃ t, r = .str (Str.ofString "NA") t) := by
  k_with_none
  w_top off
  k_with "binaryOp FloorDiv int int" => (((with_reducible refine floordiv_int ?_ ?_ (Or.inl (noPy ?_))); omega; rotate_left; omega))
  k_with "binaryOp Mod int int" => (((with_reducible refine mod_int' ?_ ?_ (Or.inl (noPy ?_))); omega; rotate_left; omega))
  k_with "execs nil" => ((with_reducible refine wpAny_execs_nil ?_))
  k_with "execs cons" => ((with_reducible refine wpAny_execs_cons ?_))
  k_with "exec If" => ((with_reducible refine wpAny_If ?_))
  unfold Ct
  intro mean mg mb dp un gd cn cs a ccd cl outer A₀ base h₀ L m s Q E B F X N T hk hd hu hret
  refine wpAny_call ?_
  k_dflt ktr_enter
  k_steps
  · exact hret _ _ _ _ ⟨rfl, _, rfl⟩ (by assumption) (by assumption)

end Mine
namespace Mine
theorem dec_mod {q : Int} {a b : Nat} (h : q = 2 ^ a * 5 ^ b) (X : Int) : (X * 10 ^ (max a b)) % q = 0 := by
  apply Int.emod_eq_zero_of_dvd
  rw [h]
  have h1 : (2 : Int) ^ a ∣ 2 ^ max a b := ⟨2 ^ (max a b - a), by rw [← Int.pow_add]; congr 1; omega⟩
  have h2 : (5 : Int) ^ b ∣ 5 ^ max a b := ⟨5 ^ (max a b - b), by rw [← Int.pow_add]; congr 1; omega⟩
  have h3 : (10 : Int) ^ max a b = 2 ^ max a b * 5 ^ max a b := by rw [← Int.mul_pow]; rfl
  rw [h3]
  exact Int.dvd_mul_of_dvd_right (Int.mul_dvd_mul h1 h2)
theorem dec_facts {q : Int} {e a b : Nat} (hd : q = (e : Int) * 2 ^ a * 5 ^ b ∧ e % 2 ≠ 0 ∧ e % 5 ≠ 0) (he : e = 1) (hq : q ≠ 1) : 1 ≤ max a b ∧ q = 2 ^ a * 5 ^ b ∧ ∀ X : Int, X * 10 ^ ((max a b : Nat) : Int).toNat % q = 0 := by
  have h : q = 2 ^ a * 5 ^ b := by rw [hd.1, he]; simp
  refine ⟨?_, h, fun X => dec_mod h X⟩
  by_cases h0 : max a b = 0
  · have ha : a = 0 := by omega
    have hb : b = 0 := by omega
    subst ha; subst hb
    simp at h; exact absurd h hq
  · omega
theorem dec_use {q : Int} {a b : Nat} (h : 1 ≤ max a b ∧ q = 2 ^ a * 5 ^ b ∧ ∀ X : Int, X * 10 ^ ((max a b : Nat) : Int).toNat % q = 0) (X : Int) : X * 10 ^ ((max a b : Nat) : Int).toNat % q = 0 := h.2.2 X
theorem fdiv_lt {X q : Int} (h : X.fdiv q < 10 ^ Int.toNat 15) (hq : 0 < q) : X / q < 1000000000000000 := by
  rw [Int.fdiv_eq_ediv_of_nonneg _ (by omega)] at h
  exact h
theorem fdiv_ge {X q : Int} (h : ¬ X.fdiv q < 10 ^ Int.toNat 15) (hq : 0 < q) : 1000000000000000 ≤ X / q := by
  rw [Int.fdiv_eq_ediv_of_nonneg _ (by omega)] at h
  exact Int.not_lt.mp h
/-- what exact_text gives of a pair -/
inductive ExT (p q : Int) : Str → Prop
  | special : q = 0 → ExT p q (spT p)
  | whole : q = 1 → ExT p q (ST (itext p))
  | point {a b : Nat} : q = 2 ^ a * 5 ^ b → 1 ≤ max a b → max a b ≤ 15 → fixX p q (max a b : Nat) < 1000000000000000 → ExT p q (ST (fixT p (fixX p q (max a b : Nat)) (max a b : Nat)))
  | fracA {e a b : Nat} : 1 < q → q = (e : Int) * 2 ^ a * 5 ^ b → e % 2 ≠ 0 → e % 5 ≠ 0 → e ≠ 1 → ExT p q (ST (itext p ++ 47 :: itext q))
  | fracB {a b : Nat} : 1 < q → q = 2 ^ a * 5 ^ b → 15 < max a b → ExT p q (ST (itext p ++ 47 :: itext q))
  | fracC {a b : Nat} : 1 < q → q = 2 ^ a * 5 ^ b → max a b ≤ 15 → 1000000000000000 ≤ fixX p q (max a b : Nat) → ExT p q (ST (itext p ++ 47 :: itext q))
section
variable {p q : Int} {e a b : Nat}
theorem ex_point (h : 1 ≤ max a b ∧ q = 2 ^ a * 5 ^ b ∧ ∀ X : Int, X * 10 ^ ((max a b : Nat) : Int).toNat % q = 0) (h2 : ((max a b : Nat) : Int) ≤ 15) (h3 : ((if p < 0 then -p else p) * 10 ^ ((max a b : Nat) : Int).toNat).fdiv q < 10 ^ Int.toNat 15) (hq : 0 < q) :
    ExT p q (ST (fixT p (fixX p q (max a b : Nat)) (max a b : Nat))) := .point h.2.1 h.1 (by omega) (fdiv_lt h3 hq)
theorem ex_fracC (h : 1 ≤ max a b ∧ q = 2 ^ a * 5 ^ b ∧ ∀ X : Int, X * 10 ^ ((max a b : Nat) : Int).toNat % q = 0) (h2 : ((max a b : Nat) : Int) ≤ 15) (h3 : ¬ ((if p < 0 then -p else p) * 10 ^ ((max a b : Nat) : Int).toNat).fdiv q < 10 ^ Int.toNat 15) (hq : 0 < q) (hq1 : q ≠ 1) :
    ExT p q (ST (itext p ++ 47 :: itext q)) := .fracC (by omega) h.2.1 (by omega) (fdiv_ge h3 hq)
theorem ex_fracB (h : 1 ≤ max a b ∧ q = 2 ^ a * 5 ^ b ∧ ∀ X : Int, X * 10 ^ ((max a b : Nat) : Int).toNat % q = 0) (h2 : ¬ ((max a b : Nat) : Int) ≤ 15) (hq : 0 < q) (hq1 : q ≠ 1) :
    ExT p q (ST (itext p ++ 47 :: itext q)) := .fracB (by omega) h.2.1 (by omega)
theorem ex_fracA (h : q = (e : Int) * 2 ^ a * 5 ^ b ∧ e % 2 ≠ 0 ∧ e % 5 ≠ 0) (he : ¬ e = 1) (hq : 0 < q) (hq1 : q ≠ 1) : ExT p q (ST (itext p ++ 47 :: itext q)) := .fracA (by omega) h.1 h.2.1 h.2.2 he
end
theorem frac_eq (p q : Int) : ST (itext p) ++ Str.ofString "/" ++ ST (itext q) = ST (itext p ++ 47 :: itext q) := by
  rw [show Str.ofString "/" = ST [47] by decide, ST_append, ST_append]; simp
theorem itext_len {p : Int} (h : p.natAbs ≤ 100000000000000000) : (ST (itext p)).length ≤ 20 := by
  rw [ST_len, itext]
  have : (nd p.natAbs).length ≤ 18 := nd_len (Nat.lt_of_le_of_lt h (by decide)) (by decide)
  split
  · rw [List.length_cons]; omega
  · omega
theorem ex_ct (w : World) (x : Addr) (p q : Int) (t1 t2 : Tok) (news : List (Addr × Obj)) (hm : (x, tup2 (.int p t1) (.int q t2)) ∈ news) (hp : p.natAbs ≤ 100000000000000000) (hq : 0 ≤ q) (hq2 : q ≤ 1000000000000000) :
    Ct w 4 80 [.ref x] news (fun r news' => news = news' ∧ ∃ t u, r = .str u t ∧ ExT p q u) := by
  k_with_none
  w_top off
  k_with "binaryOp FloorDiv int int" => (((with_reducible refine floordiv_int ?_ ?_ (Or.inl (noPy ?_))); omega; rotate_left; omega))
  k_with "binaryOp Mod int int" => (((with_reducible refine mod_int' ?_ ?_ (Or.inl (noPy ?_))); omega; rotate_left; omega))
  k_with "execs nil" => ((with_reducible refine wpAny_execs_nil ?_))
  k_with "execs cons" => ((with_reducible refine wpAny_execs_cons ?_))
  k_with "exec If" => ((with_reducible refine wpAny_If ?_))
  k_with "binaryOp Pow int int" => ((with_reducible refine pow_int_small ?_ ?_ ?_ ?_; omega; omega; (first | decide | omega)))
  k_with "call ref" => ((k_here; (with_reducible show wpAny _ _ (call (Value.ref 59) _) _ _ _); k_dflt (refine ct_use2 (by k_asm) (by k_asm) (by k_asm) (by k_asm) (by k_asm) (by first | exact rfl | assumption) (by ktr_room) (by ktr_units) (sp_ct _ _ _ _ _ _ _ (by assumption) (by omega)) ?_; intro r9 news9 h9 tk9 ho9 F9 N9; (try dsimp only at ho9); obtain ⟨e8, ho9⟩ := ho9; subst e8; rcases ho9 with ⟨hq9, e9⟩ | ⟨hq9, t9, e9⟩; all_goals (subst e9); (all_goals (try dsimp only at N9)); (all_goals (try dsimp only)); (all_goals (try k_sweep)); (all_goals (try k_fold)))))
  k_with "call ref" => ((k_here; (with_reducible show wpAny _ _ (call (Value.ref 59) _) _ _ _); k_dflt (refine ct_use2 (by k_asm) (by k_asm) (by k_asm) (by k_asm) (by k_asm) (by first | exact rfl | assumption) (by ktr_room) (by ktr_units) (sp_none_ct _ _) ?_; intro r9 news9 h9 tk9 ho9 F9 N9; (try dsimp only at ho9); obtain ⟨e8, t9, e9⟩ := ho9; subst e8; subst e9; (all_goals (try dsimp only at N9)); (all_goals (try dsimp only)); (all_goals (try k_sweep)); (all_goals (try k_fold)))))
  k_with "call ref" => ((k_here; (with_reducible show wpAny _ _ (call (Value.ref 73) _) _ _ _); k_dflt (refine ct_use2 (by k_asm) (by k_asm) (by k_asm) (by k_asm) (by k_asm) (by first | exact rfl | assumption) (by ktr_room) (by ktr_units) (places_ct _ _ _ _ (by omega) (by omega)) ?_; intro r9 news9 h9 tk9 ho9 F9 N9; (try dsimp only at ho9); obtain ⟨e8, e9, a9, b9, hd9, h19, h29⟩ := ho9; subst e8; (obtain he9 | he9 := Decidable.em (e9 = 1)); all_goals (first | (obtain ⟨t9, e7⟩ := h19 he9; subst e7; have hk9 := dec_facts hd9 he9 (by assumption)) | (have e7 := h29 he9; subst e7)); (all_goals (try dsimp only at N9)); (all_goals (try dsimp only)); (all_goals (try k_sweep)); (all_goals (try k_fold)))))
  k_with "call ref" => ((k_here; (with_reducible show wpAny _ _ (call (Value.ref 66) _) _ _ _); k_dflt (refine ct_use2 (by k_asm) (by k_asm) (by k_asm) (by k_asm) (by k_asm) (by first | exact rfl | assumption) (by ktr_room) (by ktr_units) (fix_ct _ _ _ _ _ _ _ _ _ (by assumption) (by omega) (by omega) (by omega) (by omega) (by exact dec_use (by assumption) _) (by exact fdiv_lt (by assumption) (by omega))) ?_; intro r9 news9 h9 tk9 ho9 F9 N9; (try dsimp only at ho9); obtain ⟨e8, t9, e9⟩ := ho9; subst e8; subst e9; (all_goals (try dsimp only at N9)); (all_goals (try dsimp only)); (all_goals (try k_sweep)); (all_goals (try k_fold)))))
  k_with "call ref" => ((k_here; (with_reducible show wpAny _ _ (call (Value.ref 52) _) _ _ _); k_dflt (refine ct_use2 (by k_asm) (by k_asm) (by k_asm) (by k_asm) (by k_asm) (by first | exact rfl | assumption) (by ktr_room) (by ktr_units) (whole_ct _ _ _ _ (by omega)) ?_; intro r9 news9 h9 tk9 ho9 F9 N9; (try dsimp only at ho9); obtain ⟨e8, t9, e9⟩ := ho9; subst e8; subst e9; (all_goals (try dsimp only at N9)); (all_goals (try dsimp only)); (all_goals (try k_sweep)); (all_goals (try k_fold)))))
  unfold Ct
  intro mean mg mb dp un gd cn cs a ccd cl outer A₀ base h₀ L m s Q E B F X N T hk hd hu hret
  refine wpAny_call ?_
  k_dflt ktr_enter
  have hlp := itext_len hp
  have hlq : (ST (itext q)).length ≤ 20 := itext_len (by omega)
  k_steps
  · exact hret _ _ _ _ ⟨rfl, _, _, rfl, .whole (by assumption)⟩ (by assumption) (by assumption)
  · exact hret _ _ _ _ ⟨rfl, _, _, rfl, ex_point (by with_reducible assumption) (by with_reducible assumption) (by with_reducible assumption) (by with_reducible assumption)⟩ (by assumption) (by assumption)
  · refine hret _ _ _ _ ⟨rfl, _, _, rfl, ?_⟩ (by assumption) (by assumption)
    rw [frac_eq]; exact ex_fracC (by with_reducible assumption) (by with_reducible assumption) (by with_reducible assumption) (by with_reducible assumption) (by with_reducible assumption)
  · refine hret _ _ _ _ ⟨rfl, _, _, rfl, ?_⟩ (by assumption) (by assumption)
    rw [frac_eq]; exact ex_fracB (by with_reducible assumption) (by with_reducible assumption) (by with_reducible assumption) (by with_reducible assumption)
  · refine hret _ _ _ _ ⟨rfl, _, _, rfl, ?_⟩ (by assumption) (by assumption)
    rw [frac_eq]; exact ex_fracA (by with_reducible assumption) (by with_reducible assumption) (by with_reducible assumption) (by with_reducible assumption)
  · exact hret _ _ _ _ ⟨rfl, _, _, rfl, .special (by assumption)⟩ (by assumption) (by assumption)
theorem ex_none_ct (w : World) (news : List (Addr × Obj)) :
    Ct w 4 80 [.none] news (fun r news' => news = news' ∧ ∃ t, r = .str (Str.ofString "NA") t) := by
  k_with_none
  w_top off
  k_with "binaryOp FloorDiv int int" => (((with_reducible refine floordiv_int ?_ ?_ (Or.inl (noPy ?_))); omega; rotate_left; omega))
  k_with "binaryOp Mod int int" => (((with_reducible refine mod_int' ?_ ?_ (Or.inl (noPy ?_))); omega; rotate_left; omega))
  k_with "execs nil" => ((with_reducible refine wpAny_execs_nil ?_))
  k_with "execs cons" => ((with_reducible refine wpAny_execs_cons ?_))
  k_with "exec If" => ((with_reducible refine wpAny_If ?_))
  k_with "binaryOp Pow int int" => ((with_reducible refine pow_int_small ?_ ?_ ?_ ?_; omega; omega; (first | decide | omega)))
  k_with "call ref" => ((k_here; (with_reducible show wpAny _ _ (call (Value.ref 59) _) _ _ _); k_dflt (refine ct_use2 (by k_asm) (by k_asm) (by k_asm) (by k_asm) (by k_asm) (by first | exact rfl | assumption) (by ktr_room) (by ktr_units) (sp_ct _ _ _ _ _ _ _ (by assumption) (by omega)) ?_; intro r9 news9 h9 tk9 ho9 F9 N9; (try dsimp only at ho9); obtain ⟨e8, ho9⟩ := ho9; subst e8; rcases ho9 with ⟨hq9, e9⟩ | ⟨hq9, t9, e9⟩; all_goals (subst e9); (all_goals (try dsimp only at N9)); (all_goals (try dsimp only)); (all_goals (try k_sweep)); (all_goals (try k_fold)))))
  k_with "call ref" => ((k_here; (with_reducible show wpAny _ _ (call (Value.ref 59) _) _ _ _); k_dflt (refine ct_use2 (by k_asm) (by k_asm) (by k_asm) (by k_asm) (by k_asm) (by first | exact rfl | assumption) (by ktr_room) (by ktr_units) (sp_none_ct _ _) ?_; intro r9 news9 h9 tk9 ho9 F9 N9; (try dsimp only at ho9); obtain ⟨e8, t9, e9⟩ := ho9; subst e8; subst e9; (all_goals (try dsimp only at N9)); (all_goals (try dsimp only)); (all_goals (try k_sweep)); (all_goals (try k_fold)))))
  k_with "call ref" => ((k_here; (with_reducible show wpAny _ _ (call (Value.ref 73) _) _ _ _); k_dflt (refine ct_use2 (by k_asm) (by k_asm) (by k_asm) (by k_asm) (by k_asm) (by first | exact rfl | assumption) (by ktr_room) (by ktr_units) (places_ct _ _ _ _ (by omega) (by omega)) ?_; intro r9 news9 h9 tk9 ho9 F9 N9; (try dsimp only at ho9); obtain ⟨e8, e9, a9, b9, hd9, h19, h29⟩ := ho9; subst e8; (obtain he9 | he9 := Decidable.em (e9 = 1)); all_goals (first | (obtain ⟨t9, e7⟩ := h19 he9; subst e7; have hk9 := dec_facts hd9 he9 (by assumption)) | (have e7 := h29 he9; subst e7)); (all_goals (try dsimp only at N9)); (all_goals (try dsimp only)); (all_goals (try k_sweep)); (all_goals (try k_fold)))))
  k_with "call ref" => ((k_here; (with_reducible show wpAny _ _ (call (Value.ref 66) _) _ _ _); k_dflt (refine ct_use2 (by k_asm) (by k_asm) (by k_asm) (by k_asm) (by k_asm) (by first | exact rfl | assumption) (by ktr_room) (by ktr_units) (fix_ct _ _ _ _ _ _ _ _ _ (by assumption) (by omega) (by omega) (by omega) (by omega) (by exact dec_use (by assumption) _) (by exact fdiv_lt (by assumption) (by omega))) ?_; intro r9 news9 h9 tk9 ho9 F9 N9; (try dsimp only at ho9); obtain ⟨e8, t9, e9⟩ := ho9; subst e8; subst e9; (all_goals (try dsimp only at N9)); (all_goals (try dsimp only)); (all_goals (try k_sweep)); (all_goals (try k_fold)))))
  k_with "call ref" => ((k_here; (with_reducible show wpAny _ _ (call (Value.ref 52) _) _ _ _); k_dflt (refine ct_use2 (by k_asm) (by k_asm) (by k_asm) (by k_asm) (by k_asm) (by first | exact rfl | assumption) (by ktr_room) (by ktr_units) (whole_ct _ _ _ _ (by omega)) ?_; intro r9 news9 h9 tk9 ho9 F9 N9; (try dsimp only at ho9); obtain ⟨e8, t9, e9⟩ := ho9; subst e8; subst e9; (all_goals (try dsimp only at N9)); (all_goals (try dsimp only)); (all_goals (try k_sweep)); (all_goals (try k_fold)))))
  unfold Ct
  intro mean mg mb dp un gd cn cs a ccd cl outer A₀ base h₀ L m s Q E B F X N T hk hd hu hret
  refine wpAny_call ?_
  k_dflt ktr_enter
  k_steps
  · exact hret _ _ _ _ ⟨rfl, _, rfl⟩ (by assumption) (by assumption)

end Mine
namespace Mine
theorem digitChar_dch : ∀ d < 10, (Nat.digitChar d).toNat = dch d := by decide +kernel
theorem nd_digs : ∀ m : Nat, ∃ ds : List Nat, nd m = ds.map dch ∧ (∀ d ∈ ds, (d : Int) < 10) ∧ dvN 10 ds = (m : Int) ∧ ds ≠ [] := by
  intro m
  induction m using Nat.strongRecOn with
  | _ m ih =>
    unfold nd
    rw [Nat.toDigits_eq_if (by decide)]
    split
    · rename_i h
      refine ⟨[m], ?_, ?_, ?_, by simp⟩
      · simp only [List.map_cons, List.map_nil]; rw [digitChar_dch m h]
      · intro d hd; simp at hd; omega
      · simp [dvN]
    · rename_i h
      obtain ⟨ds, e1, e2, e3, e4⟩ := ih (m / 10) (by omega)
      refine ⟨ds ++ [m % 10], ?_, ?_, ?_, by simp⟩
      · unfold nd at e1
        rw [List.map_append, e1, List.map_append]
        simp only [List.map_cons, List.map_nil]
        rw [digitChar_dch _ (by omega)]
      · intro d hd
        rcases List.mem_append.mp hd with hd | hd
        · exact e2 d hd
        · simp at hd; omega
      · rw [dvN_append, e3]
        simp [dvN]; omega
theorem itext_eq (n : Int) : itext n = (if n < 0 then [45] else []) ++ nd n.natAbs := by
  unfold itext; split <;> rfl
noncomputable def absI (p : Int) : Int := if p < 0 then -p else p
theorem uVal_whole {n : Int} (hn : 0 ≤ n) : uVal 10 10 0 n 0 = (n, 1) := by
  by_cases h0 : n = 0
  · rw [h0]; exact val_zero rfl
  · rw [uVal, if_neg h0, if_neg (by decide), if_neg (by decide)]
    have e1 : pX n 10 0 = n := by unfold pX; simp
    have e2 : pY 10 0 = 1 := by unfold pY; simp
    rw [e1, e2]
    simp
theorem uVal_point {v c P q : Int} {k : Nat} (hc : 0 < c) (hP : 0 < P) (hq : 0 < q) (hv : v = P * c) (hk : (10 : Int) ^ k = q * c) (hg : Int.gcd P q = 1) : uVal 10 10 0 v k = (P, q) := by
  have hv0 : 0 < v := by rw [hv]; exact Int.mul_pos hP hc
  rw [uVal, if_neg (by omega), if_neg (by decide), if_neg (by decide)]
  have e1 : pX v 10 0 = v := by unfold pX; simp
  have e2 : pY 10 0 = 1 := by unfold pY; simp
  rw [e1, e2]
  simp only [Int.gcd_one, Int.natCast_one, Int.ediv_one, Int.one_mul]
  have eg : ((Int.gcd v (10 ^ k) : Nat) : Int) = c := by
    rw [hv, hk, Int.gcd_mul_right, hg]; simp; omega
  rw [eg, hv, hk, Int.mul_ediv_cancel _ (by omega), Int.mul_ediv_cancel _ (by omega)]
theorem ex10 : ∀ c ∈ ([] : List Nat), c < 128 ∧ wsc c = false := by simp
theorem ex_e {dg mk : Str} : ExL dg mk [] 0 := Or.inl ⟨rfl, rfl⟩
theorem sg_ok (p : Int) : (if p < 0 then [45] else ([] : List Nat)) = [] ∨ (if p < 0 then [45] else ([] : List Nat)) = [45] ∨ (if p < 0 then [45] else ([] : List Nat)) = [43] := by split <;> simp
theorem sg_val {p q : Int} : (if (if p < 0 then [45] else ([] : List Nat)) = [45] then (0 - absI p, q) else (absI p, q)) = (p, q) := by
  unfold absI
  by_cases h : p < 0
  · simp [h]
  · simp [h]
theorem whole_law {p : Int} (hp : p.natAbs ≤ 100000000000000000) : ParOK (ST (itext p)) (some (some (p, 1))) := by
  obtain ⟨ds, e1, e2, e3, e4⟩ := nd_digs p.natAbs
  have hl : ds.length ≤ 18 := by
    have : (nd p.natAbs).length ≤ 18 := nd_len (Nat.lt_of_le_of_lt hp (by decide)) (by decide)
    rw [e1] at this; simpa using this
  have hab : ((p.natAbs : Nat) : Int) = absI p := by unfold absI; split <;> omega
  have := par_built (bl := []) (sd := if p < 0 then [45] else []) (pt := false) (ds2 := []) .ten ex_e e2 (by simp) (fun _ => rfl) (Or.inr e4) (Or.inl e4) (by simp) ex10 (by simp) (sg_ok p) (by simp; omega) (by decide)
    (p := absI p) (q := 1) (by rw [List.append_nil, e3, hab]; exact uVal_whole (by unfold absI; split <;> omega))
  rw [sg_val] at this
  rw [itext_eq, e1]
  simpa [tL, dotL] using this
section
variable {p q v k : Int}
/-- the digits of a decimal -/
theorem fix_digs (h0 : 0 ≤ v) (h1 : v < 1000000000000000) (hk : 1 ≤ k ∧ k ≤ 15) : ∃ ds1 ds2 : List Nat, fixT p v k = (if p < 0 then [45] else []) ++ tL ds1 true ds2 [] ∧ (∀ d ∈ ds1, (d : Int) < 10) ∧ (∀ d ∈ ds2, (d : Int) < 10) ∧ ds1 ≠ [] ∧ (ds2.length : Int) = k ∧ dvN 10 (ds1 ++ ds2) = v ∧ ds1.length ≤ 31 - k.toNat ∧ (∃ z ds, ds1 ++ ds2 = List.replicate z 0 ++ ds ∧ ds.length ≤ 15) := by
  obtain ⟨ds, e1, e2, e3, e4⟩ := nd_digs v.natAbs
  have hl : ds.length ≤ 15 := by
    have : (nd v.natAbs).length ≤ 15 := nd_len (k := 15) (Nat.lt_of_lt_of_le (show v.natAbs < 1000000000000000 by omega) (by decide)) (by decide)
    rw [e1] at this; simpa using this
  have hi : itext v = ds.map dch := by rw [itext, if_neg (by omega), e1]
  have hab : ((v.natAbs : Nat) : Int) = v := by omega
  have hdl : 1 ≤ ds.length := by
    have := List.length_pos_iff.mpr e4; omega
  generalize hz : (k + 1).toNat - ds.length = z
  have hL : fixL v k = (List.replicate z 0 ++ ds).map dch := by
    unfold fixL
    rw [hi, List.length_map, hz, List.map_append, List.map_replicate]
    rfl
  generalize hLL : List.replicate z 0 ++ ds = LL at hL
  have hLn : LL.length = z + ds.length := by rw [← hLL]; simp
  have hm : ∀ d ∈ LL, (d : Int) < 10 := by
    intro d hd
    rw [← hLL] at hd
    rcases List.mem_append.mp hd with h | h
    · have := (List.mem_replicate.mp h).2; omega
    · exact e2 d h
  refine ⟨LL.take (LL.length - k.toNat), LL.drop (LL.length - k.toNat), ?_, fun d hd => hm d (List.mem_of_mem_take hd), fun d hd => hm d (List.mem_of_mem_drop hd), ?_, ?_, ?_, ?_, ?_⟩
  · unfold fixT tL
    rw [hL, List.length_map]
    simp [dotL, List.map_take, List.map_drop]
  · intro h
    have := congrArg List.length h
    rw [List.length_take] at this
    simp at this
    omega
  · rw [List.length_drop]; omega
  · rw [List.take_append_drop, ← hLL, dvN_append, e3, hab]
    have hz0 : ∀ z : Nat, dvN 10 (List.replicate z 0) = 0 := by
      intro z
      induction z with
      | zero => rfl
      | succ z ih => rw [List.replicate_succ', dvN_append, ih]; simp [dvN]
    rw [hz0]; simp
  · rw [List.length_take]; omega
  · exact ⟨z, ds, by rw [List.take_append_drop]; exact hLL.symm, hl⟩
end
/-- the numbers behind a decimal: P over q, the c that makes q a power of ten -/
theorem dec_c {q : Int} {a b : Nat} (h : q = 2 ^ a * 5 ^ b) : ∃ c : Int, 0 < c ∧ (10 : Int) ^ (max a b) = q * c ∧ c = 2 ^ (max a b - a) * 5 ^ (max a b - b) := by
  refine ⟨2 ^ (max a b - a) * 5 ^ (max a b - b), Int.mul_pos (Int.pow_pos (by decide)) (Int.pow_pos (by decide)), ?_, rfl⟩
  have h3 : (10 : Int) ^ max a b = 2 ^ max a b * 5 ^ max a b := by rw [← Int.mul_pow]; rfl
  have h1 : (2 : Int) ^ max a b = 2 ^ a * 2 ^ (max a b - a) := by rw [← Int.pow_add]; congr 1; omega
  have h2 : (5 : Int) ^ max a b = 5 ^ b * 5 ^ (max a b - b) := by rw [← Int.pow_add]; congr 1; omega
  rw [h3, h, h1, h2]
  simp only [Int.mul_assoc, Int.mul_left_comm]
theorem fixX_eq {p q c : Int} {k : Nat} (hq : 0 < q) (hk : (10 : Int) ^ k = q * c) : fixX p q (k : Int) = absI p * c := by
  unfold fixX
  rw [Int.toNat_natCast, hk]
  show absI p * (q * c) / q = _
  rw [show absI p * (q * c) = absI p * c * q by rw [Int.mul_comm q c, Int.mul_assoc], Int.mul_ediv_cancel _ (by omega)]
theorem absI_pos {p q : Int} (hg : Int.gcd p q = 1) (hq : 1 < q) : 0 < absI p := by
  unfold absI
  by_cases h0 : p = 0
  · exfalso; rw [h0, Int.gcd_zero_left] at hg; omega
  · split <;> omega
theorem absI_gcd {p q : Int} : Int.gcd (absI p) q = Int.gcd p q := by
  unfold absI Int.gcd; congr 1; split <;> omega
theorem q_gt {q : Int} {a b : Nat} (h : q = 2 ^ a * 5 ^ b) (hk : 1 ≤ max a b) : 1 < q := by
  have h1 : (1 : Int) ≤ 2 ^ a := by have : (0 : Int) < 2 ^ a := Int.pow_pos (by decide); omega
  have h2 : (1 : Int) ≤ 5 ^ b := by have : (0 : Int) < 5 ^ b := Int.pow_pos (by decide); omega
  rcases Nat.lt_or_ge 0 a with ha | ha
  · have h3 : (2 : Int) ≤ 2 ^ a := by
      obtain ⟨a', rfl⟩ : ∃ a', a = a' + 1 := ⟨a - 1, by omega⟩
      rw [Int.pow_succ]; have : (0 : Int) < 2 ^ a' := Int.pow_pos (by decide); omega
    have := Int.mul_le_mul h3 h2 (by decide) (by omega)
    omega
  · obtain ⟨b', rfl⟩ : ∃ b', b = b' + 1 := ⟨b - 1, by omega⟩
    have h3 : (5 : Int) ≤ 5 ^ (b' + 1) := by
      rw [Int.pow_succ]; have : (0 : Int) < 5 ^ b' := Int.pow_pos (by decide); omega
    have := Int.mul_le_mul h1 h3 (by decide) (by omega)
    omega
theorem v_ten {p q : Int} {a b : Nat} (h : q = 2 ^ a * 5 ^ b) (hk : 1 ≤ max a b) (hg : Int.gcd p q = 1) : (absI p * (2 ^ (max a b - a) * 5 ^ (max a b - b))) % 10 ≠ 0 := by
  intro h0
  have hd : (10 : Int) ∣ absI p * (2 ^ (max a b - a) * 5 ^ (max a b - b)) := Int.dvd_of_emod_eq_zero h0
  have hdn : 10 ∣ (absI p).natAbs * (2 ^ (max a b - a) * 5 ^ (max a b - b)) := by
    have := Int.natAbs_dvd_natAbs.mpr hd
    simpa [Int.natAbs_mul, Int.natAbs_pow] using this
  have hgn : Nat.gcd (absI p).natAbs (2 ^ a * 5 ^ b) = 1 := by
    have : Int.gcd (absI p) q = 1 := by rw [absI_gcd]; exact hg
    unfold Int.gcd at this
    rw [h] at this
    simpa [Int.natAbs_mul, Int.natAbs_pow] using this
  generalize (absI p).natAbs = P at hdn hgn
  by_cases hab : a ≤ b
  · have e1 : max a b = b := by omega
    rw [e1, Nat.sub_self, Nat.pow_zero, Nat.mul_one] at hdn
    have h5 : 5 ∣ P * 2 ^ (b - a) := Nat.dvd_trans (by decide) hdn
    have h5p : 5 ∣ P := Nat.Coprime.dvd_of_dvd_mul_right (Nat.Coprime.pow_right (b - a) (by decide)) h5
    have h5q : 5 ∣ 2 ^ a * 5 ^ b := Nat.dvd_trans (Nat.dvd_trans (by simp) (Nat.pow_dvd_pow 5 (show 1 ≤ b by omega))) (Nat.dvd_mul_left _ _)
    have := Nat.dvd_gcd h5p h5q
    rw [hgn] at this
    exact absurd this (by decide)
  · have e1 : max a b = a := by omega
    rw [e1, Nat.sub_self, Nat.pow_zero, Nat.one_mul] at hdn
    have h2 : 2 ∣ P * 5 ^ (a - b) := Nat.dvd_trans (by decide) hdn
    have h2p : 2 ∣ P := Nat.Coprime.dvd_of_dvd_mul_right (Nat.Coprime.pow_right (a - b) (by decide)) h2
    have h2q : 2 ∣ 2 ^ a * 5 ^ b := Nat.dvd_trans (Nat.dvd_trans (by simp) (Nat.pow_dvd_pow 2 (show 1 ≤ a by omega))) (Nat.dvd_mul_right _ _)
    have := Nat.dvd_gcd h2p h2q
    rw [hgn] at this
    exact absurd this (by decide)
/-- a decimal is read back, ends in no nought and has fifteen digits at most -/
theorem point_law {p q : Int} {a b : Nat} (h : q = 2 ^ a * 5 ^ b) (hk : 1 ≤ max a b) (hk2 : max a b ≤ 15) (hv : fixX p q (max a b : Nat) < 1000000000000000) (hg : Int.gcd p q = 1) :
    ParOK (ST (fixT p (fixX p q (max a b : Nat)) (max a b : Nat))) (some (some (p, q))) ∧
    ∃ ds1 ds2 : List Nat, fixT p (fixX p q (max a b : Nat)) (max a b : Nat) = (if p < 0 then [45] else []) ++ tL ds1 true ds2 [] ∧ (∀ d ∈ ds1, d < 10) ∧ (∀ d ∈ ds2, d < 10) ∧ (∃ u z, ds2 = u ++ [z] ∧ dch z ≠ 48) ∧ (∃ z ds, ds1 ++ ds2 = List.replicate z 0 ++ ds ∧ ds.length ≤ 15) ∧ ds1.length + ds2.length ≤ 31 := by
  have hq := q_gt h hk
  obtain ⟨c, hc, h10, hcc⟩ := dec_c h
  have hx := fixX_eq (p := p) (show 0 < q by omega) h10
  have hP := absI_pos hg hq
  have hx0 : 0 ≤ fixX p q (max a b : Nat) := by rw [hx]; exact Int.mul_nonneg (by omega) (by omega)
  obtain ⟨ds1, ds2, f1, f2, f3, f4, f5, f6, f7, f8⟩ := fix_digs (p := p) (k := ((max a b : Nat) : Int)) hx0 hv ⟨by omega, by omega⟩
  have hl2 : ds2.length = max a b := by omega
  refine ⟨?_, ds1, ds2, f1, fun d hd => by have := f2 d hd; omega, fun d hd => by have := f3 d hd; omega, ?_, f8, by omega⟩
  · have := par_built (bl := []) (sd := if p < 0 then [45] else []) (pt := true) .ten ex_e f2 f3 (by simp) (Or.inl rfl) (Or.inl f4) (by simp) ex10 (by simp) (sg_ok p) (by simp; omega) (by decide)
      (p := absI p) (q := q) (by rw [f6, hl2]; exact uVal_point hc hP (by omega) hx h10 (by rw [absI_gcd]; exact hg))
    rw [sg_val] at this
    rw [f1]
    simpa using this
  · obtain ⟨u, z, hz⟩ := snoc_of (l := ds2) (by intro h0; rw [h0] at hl2; simp at hl2; omega)
    refine ⟨u, z, hz, ?_⟩
    have hzl : (z : Int) < 10 := f3 z (by rw [hz]; simp)
    have e6 : dvN 10 (ds1 ++ u) * 10 + (z : Int) = fixX p q (max a b : Nat) := by
      rw [← f6, hz, ← List.append_assoc, dvN_append (ds1 ++ u) [z]]
      simp [dvN]
    have h10n := v_ten h hk hg
    rw [← hcc, ← hx, ← e6] at h10n
    have : z ≠ 0 := by omega
    have hd := (dch10 z (by omega)).2.1
    omega
/-- the search for the number of places -/
inductive FracC (p q : Int) : Prop
  | fracA {e a b : Nat} : q = (e : Int) * 2 ^ a * 5 ^ b → e % 2 ≠ 0 → e % 5 ≠ 0 → e ≠ 1 → FracC p q
  | fracB {a b : Nat} : q = 2 ^ a * 5 ^ b → 15 < max a b → FracC p q
  | fracC {a b : Nat} : q = 2 ^ a * 5 ^ b → max a b ≤ 15 → 1000000000000000 ≤ fixX p q (max a b : Nat) → FracC p q
theorem frac_law {p q n : Int} (h : FracC p q) (hn : 0 ≤ n ∧ n ≤ 16) (hmin : ∀ j : Nat, (j : Int) < n → ¬ q ∣ 10 ^ j) (hend : n = 16 ∨ q ∣ 10 ^ n.toNat) : 15 < n ∨ 1000000000000000 ≤ absI p * 10 ^ n.toNat / q := by
  by_cases hn16 : n = 16
  · left; omega
  have hdv : q ∣ 10 ^ n.toNat := by rcases hend with h | h; exact absurd h hn16; exact h
  have two_five : ∀ {a b : Nat}, (2 : Int) ^ a * 5 ^ b ∣ 10 ^ n.toNat → a ≤ n.toNat ∧ b ≤ n.toNat := by
    intro a b hd
    have hdn : 2 ^ a * 5 ^ b ∣ 10 ^ n.toNat := by
      have := Int.natAbs_dvd_natAbs.mpr hd
      simpa [Int.natAbs_mul, Int.natAbs_pow] using this
    have e : (10 : Nat) ^ n.toNat = 2 ^ n.toNat * 5 ^ n.toNat := by rw [← Nat.mul_pow]
    rw [e] at hdn
    constructor
    · have h2 : 2 ^ a ∣ 2 ^ n.toNat * 5 ^ n.toNat := Nat.dvd_trans (Nat.dvd_mul_right _ _) hdn
      have := Nat.Coprime.dvd_of_dvd_mul_right (Nat.Coprime.pow a n.toNat (show Nat.Coprime 2 5 by decide)) h2
      exact (Nat.pow_dvd_pow_iff_le_right (by decide)).mp this
    · have h2 : 5 ^ b ∣ 2 ^ n.toNat * 5 ^ n.toNat := Nat.dvd_trans (Nat.dvd_mul_left _ _) hdn
      have := Nat.Coprime.dvd_of_dvd_mul_left (Nat.Coprime.pow b n.toNat (show Nat.Coprime 5 2 by decide)) h2
      exact (Nat.pow_dvd_pow_iff_le_right (by decide)).mp this
  cases h with
  | @fracA e a b h2 h3 h4 h5 =>
    exfalso
    have hde : e ∣ 10 ^ n.toNat := by
      have h6 : (e : Int) ∣ q := by rw [h2, Int.mul_assoc]; exact Int.dvd_mul_right _ _
      have := Int.natAbs_dvd_natAbs.mpr (Int.dvd_trans h6 hdv)
      simpa [Int.natAbs_pow] using this
    have hco : Nat.Coprime e (10 ^ n.toNat) := by
      apply Nat.Coprime.pow_right
      have c2 : Nat.Coprime e 2 := by
        unfold Nat.Coprime
        have hd := Nat.gcd_dvd_right e 2
        have hl := Nat.le_of_dvd (by decide) hd
        have hp := Nat.gcd_pos_of_pos_right e (show 0 < 2 by decide)
        by_cases hc : Nat.gcd e 2 = 2
        · have := Nat.gcd_dvd_left e 2
          rw [hc] at this; omega
        · omega
      have c5 : Nat.Coprime e 5 := by
        unfold Nat.Coprime
        have hd := Nat.gcd_dvd_right e 5
        have hl := Nat.le_of_dvd (by decide) hd
        have hp := Nat.gcd_pos_of_pos_right e (show 0 < 5 by decide)
        by_cases hc : Nat.gcd e 5 = 5
        · have := Nat.gcd_dvd_left e 5
          rw [hc] at this; omega
        · have : ∀ g, g ∣ 5 → 0 < g → g ≤ 5 → g ≠ 5 → g = 1 := by
            intro g h1 h2 h3 h4
            have : g = 1 ∨ g = 2 ∨ g = 3 ∨ g = 4 := by omega
            rcases this with rfl | rfl | rfl | rfl
            · rfl
            · omega
            · omega
            · omega
          exact this _ hd hp hl hc
      exact Nat.Coprime.mul_right (n := 5) c2 c5
    have := Nat.Coprime.eq_one_of_dvd hco hde
    exact h5 this
  | @fracB a b h2 h3 =>
    rw [h2] at hdv
    have := two_five hdv
    omega
  | @fracC a b h2 h3 h4 =>
    right
    have hk := two_five (h2 ▸ hdv)
    have hk2 : q ∣ 10 ^ (max a b) := by
      obtain ⟨c, _, h10, _⟩ := dec_c h2
      exact ⟨c, h10⟩
    have hnk : n = (max a b : Nat) := by
      by_cases hlt : ((max a b : Nat) : Int) < n
      · exact absurd hk2 (hmin _ hlt)
      · omega
    rw [hnk]
    exact h4

end Mine
namespace Mine
theorem ST1 (c : Nat) : (⟨#[c]⟩ : Str) = ST [c] := rfl
theorem has_sign (l : List Nat) (c : Nat) : Txt.contains (ST l) (ST [c]) = decide (c ∈ l) := by
  have := StrLaws.found_one (ST l) c
  rw [ST_list] at this
  exact this
theorem join_two (c : Nat) (a b : Str) (r : List Str) : (Str.join (ST [c]) (a :: b :: r)).cps.toList = a.cps.toList ++ c :: (Str.join (ST [c]) (b :: r)).cps.toList := by
  show (a ++ ST [c] ++ Str.join (ST [c]) (b :: r)).cps.toList = _
  rw [Str.cps_append, Str.cps_append]
  simp [ST]
theorem cut_uniq {c : Nat} : ∀ {a a' b b' : List Nat}, c ∉ a → c ∉ a' → a ++ c :: b = a' ++ c :: b' → a = a' ∧ b = b'
  | [], [], _, _, _, _, e => ⟨rfl, (List.cons.inj e).2⟩
  | [], x :: a', _, _, _, h, e => by
    have := (List.cons.inj e).1
    exact absurd (by rw [this]; exact .head _) h
  | x :: a, [], _, _, h, _, e => by
    have := (List.cons.inj e).1
    exact absurd (by rw [← this]; exact .head _) h
  | x :: a, y :: a', b, b', h, h', e => by
    obtain ⟨e1, e2⟩ := List.cons.inj e
    obtain ⟨e3, e4⟩ := cut_uniq (fun hc => h (.tail _ hc)) (fun hc => h' (.tail _ hc)) e2
    exact ⟨by rw [e1, e3], e4⟩
theorem split_two {a b : List Nat} {c : Nat} (ha : c ∉ a) (hb : c ∉ b) : Txt.split (ST (a ++ c :: b)) (ST [c]) = [ST a, ST b] := by
  have hj := StrLaws.join_split (ST (a ++ c :: b)) (ST [c])
  have hf := StrLaws.split_free (ST (a ++ c :: b)) c
  rw [ST1] at hf
  generalize Txt.split (ST (a ++ c :: b)) (ST [c]) = ps at hj hf
  have hj2 := congrArg (fun x : Str => x.cps.toList) hj
  simp only [ST_list] at hj2
  match ps, hf, hj2 with
  | [], _, h => simp [Str.join, Str.empty] at h
  | [x], hf, h =>
    exfalso
    have : x.cps.toList = a ++ c :: b := h
    exact hf x (.head _) (by rw [this]; simp)
  | [x, y], hf, h =>
    rw [join_two] at h
    have h' : x.cps.toList ++ c :: y.cps.toList = a ++ c :: b := h
    obtain ⟨e1, e2⟩ := cut_uniq (hf x (.head _)) ha h'
    rw [ST_of x, ST_of y, e1, e2]
  | x :: y :: z :: r, hf, h =>
    exfalso
    rw [join_two, join_two] at h
    obtain ⟨_, e2⟩ := cut_uniq (hf x (.head _)) ha h
    exact hb (by rw [← e2]; simp)
theorem join_nil_filter {c : Nat} : ∀ ps : List Str, (∀ p ∈ ps, c ∉ p.cps.toList) → (Str.join (ST []) ps).cps.toList = (Str.join (ST [c]) ps).cps.toList.filter (fun x => x != c)
  | [], _ => by simp [Str.join, Str.empty]
  | [a], h => by
    show a.cps.toList = a.cps.toList.filter _
    rw [List.filter_eq_self.mpr]
    intro x hx
    have : x ≠ c := fun e => h a (.head _) (e ▸ hx)
    simpa using this
  | a :: b :: r, h => by
    rw [join_two]
    have e : (Str.join (ST []) (a :: b :: r)).cps.toList = a.cps.toList ++ (Str.join (ST []) (b :: r)).cps.toList := by
      show (a ++ ST [] ++ Str.join (ST []) (b :: r)).cps.toList = _
      rw [Str.cps_append, Str.cps_append]
      simp [ST]
    rw [e, join_nil_filter (b :: r) (fun p hp => h p (.tail _ hp)), List.filter_append, List.filter_cons]
    have h2 : a.cps.toList.filter (fun x => x != c) = a.cps.toList := by
      rw [List.filter_eq_self.mpr]
      intro x hx
      have : x ≠ c := fun e => h a (.head _) (e ▸ hx)
      simpa using this
    rw [h2]
    simp
theorem replace_nil (l : List Nat) (c : Nat) : Txt.replace (ST l) (ST [c]) (ST []) = ST (l.filter (fun x => x != c)) := by
  have h1 := StrLaws.replace_one (ST l) (ST []) c
  rw [ST1] at h1
  rw [h1]
  have hj := StrLaws.join_split (ST l) (ST [c])
  have hf := StrLaws.split_free (ST l) c
  rw [ST1] at hf
  have := join_nil_filter (c := c) _ hf
  rw [hj, ST_list] at this
  rw [ST_of (Str.join (ST []) _), this]

end Mine
namespace Mine
theorem lstrip_len {m : List Nat} {z : Nat} {r : List Nat} (h : m = List.replicate z 48 ++ r) : (Txt.lstripChars (ST m) (Str.ofString "0")).length ≤ r.length := by
  have hg : ∀ c ∈ List.replicate z 48, (Str.ofString "0").cps.contains c = true := by
    intro c hc
    have := (List.mem_replicate.mp hc).2
    subst this; decide +kernel
  have hlo : z ≤ PySem.stripLo (Str.ofString "0").cps.contains true (ST m) := by
    unfold PySem.stripLo
    rw [if_pos rfl, ST_list, h, List.takeWhile_append_of_pos hg, List.length_append, List.length_replicate]
    omega
  have hhi : ∀ lo, PySem.stripHi (Str.ofString "0").cps.contains false (ST m) lo = (ST m).length := fun lo => rfl
  have hlen : (ST m).length = z + r.length := by rw [ST_len, h]; simp
  unfold Txt.lstripChars Txt.stripBy
  split
  · rename_i hs
    unfold PySem.stripSame at hs
    simp only [Bool.and_eq_true, beq_iff_eq] at hs
    have := hs.1
    omega
  · unfold PySem.stripped
    rw [hhi]
    have e := congrArg List.length (StrLaws.strSub_toList (ST m) (PySem.stripLo (Str.ofString "0").cps.contains true (ST m)) (ST m).length)
    rw [List.length_take] at e
    have e2 : ∀ y : Str, y.length = y.cps.toList.length := fun y => by simp [Str.length]
    rw [e2, e]
    omega
theorem item_last (u : List Nat) (z : Nat) : Txt.item (ST (u ++ [z])) (-1) = ST [z] := by
  have hl : (ST (u ++ [z])).length = u.length + 1 := by rw [ST_len]; simp
  unfold Txt.item Txt.charAt
  rw [StrLaws.seqIndex_neg (by decide) (by rw [hl]; omega), hl]
  have e : ((-1 : Int) + ((u.length + 1 : Nat) : Int)).toNat = u.length := by omega
  rw [e]
  simp [ST]

end Mine
namespace Mine
theorem nd_all (m : Nat) : NumText.AllDigits (nd m) := by
  obtain ⟨ds, e1, e2, _, _⟩ := nd_digs m
  rw [e1]
  intro c hc
  obtain ⟨d, hd, rfl⟩ := List.mem_map.mp hc
  have h := e2 d hd
  have := (dch10 d (by omega)).2.1
  omega
theorem nd_ne (m : Nat) : nd m ≠ [] := by
  have := nd_pos m
  intro h; rw [h] at this; simp at this
theorem itext_reads {p : Int} (h : p.natAbs ≤ 100000000000000000) : PySem.intText? (ST (itext p)) = some p := by
  have hl := itext_len h
  have hv : NumText.digitsVal (nd p.natAbs) = p.natAbs := KIN.val_back p.natAbs
  by_cases hp : p < 0
  · have e : (ST (itext p)).cps.toList = 45 :: nd p.natAbs := by rw [ST_list, itext, if_pos hp]
    rw [intText_neg e (nd_all _) (nd_ne _) (by omega), hv]
    congr 1; omega
  · have e : (ST (itext p)).cps.toList = nd p.natAbs := by rw [ST_list, itext, if_neg hp]
    rw [intText_digits (by rw [e]; exact nd_all _) (by rw [e]; exact nd_ne _) (by omega), e, hv]
    congr 1; omega
theorem itext_640 {p : Int} (h : p.natAbs ≤ 100000000000000000) : (ST (itext p)).length ≤ 640 := Nat.le_trans (itext_len h) (by decide)

end Mine
namespace Mine
noncomputable abbrev sideL : List Str := [Str.ofString "", Str.ofString "-", Str.ofString "+"]
noncomputable abbrev blankL : List Str := [Str.ofString "", Str.ofString " ", Str.ofString "\t\n "]
theorem word_len {row : Str} {p q : Int} (h : WordP row p q) : row.length ≤ 50 := by
  have := (word_law h (sd := Str.ofString "") (bl := Str.ofString "") (by simp) (by simp)).1
  rw [Str.length_append, Str.length_append] at this
  omega
theorem bad_len {row : Str} (h : row ∈ badRows) : row.length ≤ 8 := by
  have key : ∀ r ∈ badRows, r.length ≤ 8 := by decide
  exact key row h
theorem blank_len {bl : Str} (h : bl ∈ blankL) : bl.length ≤ 8 := by
  have key : ∀ r ∈ blankL, r.length ≤ 8 := by decide
  exact key bl h
theorem par_pos {row sd bl : Str} {p q : Int} (h : WordP row p q) (hs : sd ∈ sideL) (hb : bl ∈ blankL) (hn : (sd == Str.ofString "-") = false) : ParOK (bl ++ sd ++ row ++ bl) (some (some (p, q))) := by
  have := word_law h hs hb
  rw [hn] at this; exact this
theorem par_neg {row sd bl : Str} {p q : Int} (h : WordP row p q) (hs : sd ∈ sideL) (hb : bl ∈ blankL) (hn : (sd == Str.ofString "-") = true) : ParOK (bl ++ sd ++ row ++ bl) (some (some (-p, q))) := by
  have := word_law h hs hb
  rw [hn, if_pos rfl, Int.zero_sub] at this; exact this
theorem par_bad1 {row sd bl : Str} (h : row ∈ badRows) (hs : sd ∈ sideL) (hb : bl ∈ blankL) (hn : (row == Str.ofString "-1") = false) : ParOK (bl ++ sd ++ row ++ bl) none := bad_law h hs hb (by rw [hn]; simp)
theorem par_bad2 {row sd bl : Str} (h : row ∈ badRows) (hs : sd ∈ sideL) (hb : bl ∈ blankL) (hn : (sd == Str.ofString "") = false) : ParOK (bl ++ sd ++ row ++ bl) none := bad_law h hs hb (by rw [hn]; simp)
theorem par_bad3 {row bl : Str} (h : row ∈ badRows) (hb : bl ∈ blankL) : ParOK (bl ++ Str.ofString "-" ++ row ++ bl) none := bad_law h (by simp) hb (by rw [show (Str.ofString "-" == Str.ofString "") = false by decide]; simp)
theorem par_na {bl : Str} (hb : bl ∈ blankL) : ParOK (bl ++ Str.ofString "NA") (some none) ∧ ParOK (bl ++ Str.ofString "") (some none) ∧ ParOK (bl ++ Str.ofString "NA ") (some none) :=
  ⟨na_law hb (by simp), na_law hb (by simp), na_law hb (by simp)⟩
theorem k15 (P) : ∃ t1 t2, (Mine.hd.heap_39 P).lookup 15 = some (tup2 (.int 0 t1) (.int 0 t2)) := ⟨_, _, rfl⟩
theorem k16 (P) : ∃ t1 t2, (Mine.hd.heap_39 P).lookup 16 = some (tup2 (.int 1 t1) (.int 0 t2)) := ⟨_, _, rfl⟩
theorem k17 (P) : ∃ t1 t2, (Mine.hd.heap_39 P).lookup 17 = some (tup2 (.int 0 t1) (.int 1 t2)) := ⟨_, _, rfl⟩
theorem top_pair {K : Frag} {h : Heap} {y : Addr} {p q : Int} (X : K.In h) (hl : ∃ t1 t2, K.lookup y = some (tup2 (.int p t1) (.int q t2))) : Reads h (.ref y) (.tuple [.int p, .int q]) [] := by
  obtain ⟨t1, t2, e⟩ := hl
  exact reads_tuple_at (X y _ e) rfl rfl (readsAll_cons_val (Reads.int _ _) (readsAll_cons_val (Reads.int _ _) ReadsAll.nil))
theorem execs_app (a b : List Stmt) (env : Env) : execs (a ++ b) env = (execs a env >>= fun f => match f with | .next => execs b env | f => pure f) := by
  induction a with
  | nil => 
    have : execs ([] : List Stmt) env = pure Flow.next := rfl
    rw [List.nil_append, this, pure_bind]
  | cons st a ih =>
    rw [List.cons_append, execs_cons, execs_cons, bind_assoc]
    congr 1
    funext f
    cases f <;> first | exact ih | (simp only [pure_bind])
theorem cutL {σ : Type} {M : Model} {A : Around} {E : Value → Shared → Prop} {Q : Flow → Shared → Prop} {s : Shared} (pre : List Stmt) {rest : List Stmt} {env : Env} {g : Heap} {L : Addr} (ps : σ → List (Str × Value)) (led : σ → List (Addr × Obj)) (P : σ → Prop) {m : Str → Option Value}
    (_F : Fr g L s.heap m)
    (h1 : wpAny M A (execs pre env) (MidOK g L s ps led P Q) E s)
    (h2 : ∀ c u h tk, P c → Fr g L h (pin (ps c) u) → News g L h (led c) → wpAny M A (execs rest env) Q E { s with heap := h, toks := tk }) :
    wpAny M A (execs (pre ++ rest) env) Q E s := by
  rw [execs_app]
  refine wpAny_bind (wpAny_mono h1 (fun f s' hq => ?_) fun _ _ e => e)
  cases f with
  | next =>
    obtain ⟨c, u, h, tk, rfl, F, N, hP⟩ := hq
    exact h2 c u h tk hP F N
  | _ => exact wpAny_pure hq
theorem cell_bd (k : Int) : (k.fmod (2 * 10 ^ Int.toNat 17) - 10 ^ Int.toNat 17).natAbs ≤ 100000000000000000 := by
  have e1 : (2 * 10 ^ Int.toNat 17 : Int) = 200000000000000000 := by decide +kernel
  have e2 : (10 ^ Int.toNat 17 : Int) = 100000000000000000 := by decide +kernel
  rw [e1, e2, Int.fmod_eq_emod_of_nonneg _ (by decide)]
  have h1 := Int.emod_nonneg k (show (200000000000000000 : Int) ≠ 0 by decide)
  have h2 := Int.emod_lt_of_pos k (show (0 : Int) < 200000000000000000 by decide)
  omega
theorem cells_P {c pa : Addr} {vc : List Value} {l : List Int} {n : Nat} (h : IntsAre vc ([0, 5, 999] ++ l.map fun (k' : Int) => k'.fmod (2 * 10 ^ Int.toNat 17) - 10 ^ Int.toNat 17)) (h3 : l.length = min 3 n) (hc : c ≠ pa) :
    Value.ref c = .ref c ∧ IntsAre vc ([0, 5, 999] ++ l.map fun (k' : Int) => k'.fmod (2 * 10 ^ Int.toNat 17) - 10 ^ Int.toNat 17) ∧ c ≠ pa ∧ 1 ≤ ([0, 5, 999] ++ l.map fun (k' : Int) => k'.fmod (2 * 10 ^ Int.toNat 17) - 10 ^ Int.toNat 17).length ∧ ([0, 5, 999] ++ l.map fun (k' : Int) => k'.fmod (2 * 10 ^ Int.toNat 17) - 10 ^ Int.toNat 17).length ≤ 6 ∧
    (∀ x ∈ ([0, 5, 999] ++ l.map fun (k' : Int) => k'.fmod (2 * 10 ^ Int.toNat 17) - 10 ^ Int.toNat 17), x.natAbs ≤ 100000000000000000) := by
  have e : ([0, 5, 999] ++ l.map fun (k' : Int) => k'.fmod (2 * 10 ^ Int.toNat 17) - 10 ^ Int.toNat 17).length = 3 + l.length := by simp; omega
  refine ⟨rfl, h, hc, by omega, by omega, ?_⟩
  intro x hx
  rcases List.mem_append.mp hx with hx | hx
  · simp only [List.mem_cons, List.not_mem_nil, or_false] at hx
    omega
  · obtain ⟨k, _, rfl⟩ := List.mem_map.mp hx
    exact cell_bd k
/-- the pair that exact_text is asked for -/
inductive PairP : Value → List (Addr × Obj) → Prop
  | none : PairP .none []
  | nan {y : Addr} {t1 t2 : Tok} : PairP (.ref y) [(y, tup2 (.int 0 t1) (.int 0 t2))]
  | inf {y : Addr} {t1 t2 : Tok} : PairP (.ref y) [(y, tup2 (.int 1 t1) (.int 0 t2))]
  | ninf {y : Addr} {t1 t2 : Tok} : PairP (.ref y) [(y, tup2 (.int (-1) t1) (.int 0 t2))]
  | pair {y : Addr} {p q : Int} {t1 t2 : Tok} : p.natAbs ≤ 100000000000000000 → 0 < q → q ≤ 1000000000000000 → Int.gcd p q = 1 → PairP (.ref y) [(y, tup2 (.int p t1) (.int q t2))]
theorem red_facts {x d p q : Int} (hp : p = x / (Int.gcd x d : Nat)) (hq : q = d / (Int.gcd x d : Nat)) (hx : x.natAbs ≤ 100000000000000000) (hd : 0 < d) (hd2 : d ≤ 1000000000000000) : p.natAbs ≤ 100000000000000000 ∧ 0 < q ∧ q ≤ 1000000000000000 ∧ Int.gcd p q = 1 := by
  have hg : 0 < ((Int.gcd x d : Nat) : Int) := by
    have := Int.gcd_pos_of_ne_zero_right x (show d ≠ 0 by omega)
    omega
  have d1 : ((Int.gcd x d : Nat) : Int) ∣ x := Int.gcd_dvd_left x d
  have d2 : ((Int.gcd x d : Nat) : Int) ∣ d := Int.gcd_dvd_right x d
  have hgn : 0 < Int.gcd x d := by omega
  refine ⟨?_, ?_, ?_, ?_⟩
  · rw [hp, Int.natAbs_ediv_of_dvd d1]
    exact Nat.le_trans (Nat.div_le_self _ _) hx
  · rw [hq]; exact Int.ediv_pos_of_pos_of_dvd hd (by omega) d2
  · rw [hq]; exact Int.le_trans (Int.ediv_le_self _ (by omega)) hd2
  · generalize hG : Int.gcd x d = G at *
    obtain ⟨x1, e1⟩ := d1
    obtain ⟨y1, e2⟩ := d2
    have hgg : (G : Int) ≠ 0 := by omega
    have ep : p = x1 := by rw [hp, e1]; exact Int.mul_ediv_cancel_left _ hgg
    have eq : q = y1 := by rw [hq, e2]; exact Int.mul_ediv_cancel_left _ hgg
    rw [e1, e2, Int.gcd_mul_left] at hG
    rw [ep, eq]
    have e3 : G * Int.gcd x1 y1 = G * 1 := by simpa using hG
    exact Nat.eq_of_mul_eq_mul_left hgn e3
section
variable {h₀ h : Heap} {L y : Addr} {news : List (Addr × Obj)} {t1 t2 : Tok}
theorem pairP_nan (N : News h₀ L h news) (hm : (y, tup2 (.int 0 t1) (.int 0 t2)) ∈ news) : PairP (.ref y) [(y, tup2 (.int 0 t1) (.int 0 t2))] := .nan
theorem pairP_inf (N : News h₀ L h news) (hm : (y, tup2 (.int 1 t1) (.int 0 t2)) ∈ news) : PairP (.ref y) [(y, tup2 (.int 1 t1) (.int 0 t2))] := .inf
theorem pairP_ninf (N : News h₀ L h news) (hm : (y, tup2 (.int (-1) t1) (.int 0 t2)) ∈ news) : PairP (.ref y) [(y, tup2 (.int (-1) t1) (.int 0 t2))] := .ninf
theorem pairP_red {x d p q : Int} (N : News h₀ L h news) (hm : (y, tup2 (.int p t1) (.int q t2)) ∈ news) (hp : p = x / (Int.gcd x d : Nat)) (hq : q = d / (Int.gcd x d : Nat)) (hx : x.natAbs ≤ 100000000000000000) (hd : 0 < d ∧ d ≤ 1000000000000000) : PairP (.ref y) [(y, tup2 (.int p t1) (.int q t2))] := by
  have := red_facts hp hq hx hd.1 hd.2
  exact .pair this.1 this.2.1 this.2.2.1 this.2.2.2
end
theorem news_f4 {h₀ h : Heap} {L : Addr} {a b c d e f : Addr × Obj} {l : List (Addr × Obj)} (N : News h₀ L h (c :: d :: e :: f :: a :: b :: l)) : News h₀ L h (a :: b :: c :: d :: e :: f :: l) := fun p hp => N p (by
  simp only [List.mem_cons] at hp ⊢; rcases hp with h | h | h | h | h | h | h <;> simp only [h, true_or, or_true])
theorem news_f5 {h₀ h : Heap} {L : Addr} {a b c d e f g : Addr × Obj} {l : List (Addr × Obj)} (N : News h₀ L h (c :: d :: e :: f :: g :: a :: b :: l)) : News h₀ L h (a :: b :: c :: d :: e :: f :: g :: l) := fun p hp => N p (by
  simp only [List.mem_cons] at hp ⊢; rcases hp with h | h | h | h | h | h | h | h <;> simp only [h, true_or, or_true])
noncomputable abbrev dL : List Int := [1, 2, 8, 5, 3, 1000, 7 * 16, 2 ^ Int.toNat 20, 10 ^ Int.toNat 15, 5 ^ Int.toNat 9]
theorem dl_bd {y : Int} (h0 : 0 ≤ y) (h1 : y < 10) : 0 < dL.getD y.toNat 0 ∧ dL.getD y.toNat 0 ≤ 1000000000000000 := by
  have key : ∀ k < 10, 0 < dL.getD k 0 ∧ dL.getD k 0 ≤ 1000000000000000 := by decide +kernel
  exact key _ (by omega)
theorem dl_le {y : Int} (h0 : 0 ≤ y) (h1 : y < 10) : dL.getD y.toNat 0 ≤ 10000000000000000000000000000000000000000000000000000000000000000000000000000000000000000000000000000 := Int.le_trans (dl_bd h0 h1).2 (by decide)
theorem cell_item {mc : List Int} {x : Int} (hc : ∀ x ∈ mc, x.natAbs ≤ 100000000000000000) (h0 : 0 ≤ x) (h1 : x < (mc.length : Int)) : (mc.getD x.toNat 0).natAbs ≤ 100000000000000000 := by
  have hl : x.toNat < mc.length := by omega
  have e : mc.getD x.toNat 0 = mc[x.toNat] := by simp [List.getD, hl]
  rw [e]; exact hc _ (List.getElem_mem hl)
theorem ex_q0 {p : Int} {u : Str} (h : ExT p 0 u) : u = spT p := by
  have hpos : ∀ a b : Nat, (0 : Int) < 2 ^ a * 5 ^ b := fun a b => Int.mul_pos (Int.pow_pos (by decide)) (Int.pow_pos (by decide))
  cases h with
  | special _ => rfl
  | whole h => omega
  | @point a b h _ _ _ => have := hpos a b; omega
  | fracA h => omega
  | fracB h => omega
  | fracC h => omega
theorem told_nan {u : Str} (h : ExT 0 0 u) : u = Str.ofString "NaN" := by rw [ex_q0 h]; rfl
theorem told_inf {u : Str} (h : ExT 1 0 u) : u = Str.ofString "Inf" := by rw [ex_q0 h]; rfl
theorem told_ninf {u : Str} (h : ExT (-1) 0 u) : u = Str.ofString "-Inf" := by rw [ex_q0 h]; rfl
theorem par_lit {l : List Nat} {r : Option (Option (Int × Int))} (h : parB l r = true) : ParOK (ST l) r := by
  have := parB_ok (bl := []) h (by simp) (by simp)
  simpa using this
theorem par_tNA : ParOK (Str.ofString "NA") (some none) := by
  rw [show Str.ofString "NA" = ST [78, 65] by decide]; exact na_ok (by decide +kernel)
theorem par_tnan : ParOK (Str.ofString "NaN") (some (some (0, 0))) := by
  rw [show Str.ofString "NaN" = ST [78, 97, 78] by decide]; exact par_lit (by decide +kernel)
theorem par_tinf : ParOK (Str.ofString "Inf") (some (some (1, 0))) := by
  rw [show Str.ofString "Inf" = ST [73, 110, 102] by decide]; exact par_lit (by decide +kernel)
theorem par_tninf : ParOK (Str.ofString "-Inf") (some (some (-1, 0))) := by
  rw [show Str.ofString "-Inf" = ST [45, 73, 110, 102] by decide]; exact par_lit (by decide +kernel)
inductive TellP (p q : Int) (u : Str) : Prop
  | whole : q = 1 → Txt.contains u (Str.ofString "/") = false → Txt.contains u (Str.ofString ".") = false → ParOK u (some (some (p, q))) → TellP p q u
  | point : 1 < q → Txt.contains u (Str.ofString "/") = false → Txt.contains u (Str.ofString ".") = true → (Txt.item u (-1) != Str.ofString "0") = true → 1 ≤ u.length ∧ u.length ≤ 40 → (Txt.replace u (Str.ofString "-") (Str.ofString "")).length ≤ 40 → (Txt.replace (Txt.replace u (Str.ofString "-") (Str.ofString "")) (Str.ofString ".") (Str.ofString "")).length ≤ 40 →
      (Txt.lstripChars (Txt.replace (Txt.replace u (Str.ofString "-") (Str.ofString "")) (Str.ofString ".") (Str.ofString "")) (Str.ofString "0")).length < 16 → ParOK u (some (some (p, q))) → TellP p q u
  | frac : 1 < q → Txt.contains u (Str.ofString "/") = true → u.length ≤ 45 → Txt.split u (Str.ofString "/") = [ST (itext p), ST (itext q)] → (∀ n : Int, 0 ≤ n ∧ n ≤ 16 → (∀ j : Nat, (j : Int) < n → ¬ q ∣ 10 ^ j) → (n = 16 ∨ q ∣ 10 ^ n.toNat) → 15 < n ∨ 1000000000000000 ≤ absI p * 10 ^ n.toNat / q) → TellP p q u
theorem ofS_sl : Str.ofString "/" = ST [47] := by decide
theorem ofS_min : Str.ofString "-" = ST [45] := by decide
theorem ofS_nul : Str.ofString "0" = ST [48] := by decide
theorem itext_no {p : Int} {c : Nat} (h : c = 47 ∨ c = 46) : c ∉ itext p := by
  intro hc
  rw [itext_eq] at hc
  obtain ⟨ds, e1, e2, _, _⟩ := nd_digs p.natAbs
  rw [e1] at hc
  rcases List.mem_append.mp hc with hc | hc
  · split at hc
    · simp at hc; omega
    · simp at hc
  · obtain ⟨d, hd, e⟩ := List.mem_map.mp hc
    have := dch_lt d (by have := e2 d hd; omega)
    rcases h with rfl | rfl
    · exact this.2.2.2.2.2.2.2.2.1 e
    · exact this.2.2.1 e
theorem mem47 (l : List Nat) (h : ∀ c ∈ l, c ≠ 47) (a b : List Nat) : l ≠ a ++ 47 :: b := fun e => h 47 (by rw [e]; simp) rfl
theorem tL_no47 {p : Int} {ds1 ds2 : List Nat} (h1 : ∀ d ∈ ds1, d < 10) (h2 : ∀ d ∈ ds2, d < 10) : ∀ c ∈ (if p < 0 then [45] else ([] : List Nat)) ++ tL ds1 true ds2 [], c ≠ 47 := by
  intro c hc
  rcases List.mem_append.mp hc with hc | hc
  · split at hc
    · simp at hc; omega
    · simp at hc
  · unfold tL at hc
    simp only [dotL, if_true, List.append_nil, List.mem_append, List.mem_map, List.mem_singleton] at hc
    rcases hc with ⟨d, hd, rfl⟩ | rfl | ⟨d, hd, rfl⟩
    · exact (dch_lt d (by have := h1 d hd; omega)).2.2.2.2.2.2.2.2.1
    · decide
    · exact (dch_lt d (by have := h2 d hd; omega)).2.2.2.2.2.2.2.2.1
theorem tell_whole {p : Int} (hp : p.natAbs ≤ 100000000000000000) : TellP p 1 (ST (itext p)) :=
  .whole rfl (by rw [ofS_sl, has_sign]; exact decide_eq_false (itext_no (Or.inl rfl))) (by rw [ofS_dot, has_sign]; exact decide_eq_false (itext_no (Or.inr rfl))) (whole_law hp)
theorem filt_all {l : List Nat} {c : Nat} (h : ∀ x ∈ l, x ≠ c) : l.filter (fun x => x != c) = l := by
  rw [List.filter_eq_self.mpr]; intro x hx; simpa using h x hx
theorem tell_point {p q : Int} {u : Str} (hq : 1 < q) (h : ∃ ds1 ds2 : List Nat, u = ST ((if p < 0 then [45] else []) ++ tL ds1 true ds2 []) ∧ (∀ d ∈ ds1, d < 10) ∧ (∀ d ∈ ds2, d < 10) ∧ (∃ v z, ds2 = v ++ [z] ∧ dch z ≠ 48) ∧ (∃ z ds, ds1 ++ ds2 = List.replicate z 0 ++ ds ∧ ds.length ≤ 15) ∧ ds1.length + ds2.length ≤ 31) (hO : ParOK u (some (some (p, q)))) : TellP p q u := by
  obtain ⟨ds1, ds2, e, h1, h2, ⟨v, z, e3, hz⟩, ⟨k, ds, e4, h4⟩, h5⟩ := h
  have hd : ∀ d ∈ ds1 ++ ds2, d < 10 := fun d hd => (List.mem_append.mp hd).elim (h1 d) (h2 d)
  have hne : ∀ c ∈ (ds1 ++ ds2).map dch, c ≠ 46 ∧ c ≠ 45 := by
    intro c hc
    obtain ⟨d, hd', rfl⟩ := List.mem_map.mp hc
    have := dch_lt d (by have := hd d hd'; omega)
    exact ⟨this.2.2.1, this.2.2.2.2.2.2.1⟩
  have ht : tL ds1 true ds2 [] = ds1.map dch ++ (46 :: ds2.map dch) := by simp [tL, dotL]
  have hr1 : Txt.replace u (Str.ofString "-") (Str.ofString "") = ST (ds1.map dch ++ (46 :: ds2.map dch)) := by
    rw [e, ofS_min, ofS_e, replace_nil, List.filter_append, ht]
    have a1 : (if p < 0 then [45] else ([] : List Nat)).filter (fun x => x != 45) = [] := by split <;> rfl
    rw [a1, filt_all]
    · rfl
    · intro x hx
      rcases List.mem_append.mp hx with hx | hx
      · exact (hne x (by rw [List.map_append]; exact List.mem_append.mpr (Or.inl hx))).2
      · rcases List.mem_cons.mp hx with rfl | hx
        · decide
        · exact (hne x (by rw [List.map_append]; exact List.mem_append.mpr (Or.inr hx))).2
  have hr2 : Txt.replace (Txt.replace u (Str.ofString "-") (Str.ofString "")) (Str.ofString ".") (Str.ofString "") = ST ((ds1 ++ ds2).map dch) := by
    rw [hr1, ofS_dot, ofS_e, replace_nil, List.filter_append, List.filter_cons]
    have a1 : (ds1.map dch).filter (fun x => x != 46) = ds1.map dch := filt_all fun x hx => (hne x (by rw [List.map_append]; exact List.mem_append.mpr (Or.inl hx))).1
    have a2 : (ds2.map dch).filter (fun x => x != 46) = ds2.map dch := filt_all fun x hx => (hne x (by rw [List.map_append]; exact List.mem_append.mpr (Or.inr hx))).1
    rw [a1, a2]
    simp
  have hul : u.length = (if p < 0 then [45] else ([] : List Nat)).length + (ds1.length + (1 + ds2.length)) := by
    rw [e, ST_len, ht]; simp; omega
  have hsl : (if p < 0 then [45] else ([] : List Nat)).length ≤ 1 := by split <;> decide
  refine .point hq ?_ ?_ ?_ ⟨by omega, by omega⟩ ?_ ?_ ?_ hO
  · rw [e, ofS_sl, has_sign]; exact decide_eq_false fun hc => tL_no47 h1 h2 47 hc rfl
  · rw [e, ofS_dot, has_sign, ht]; simp
  · have e5 : (if p < 0 then [45] else ([] : List Nat)) ++ tL ds1 true ds2 [] = ((if p < 0 then [45] else ([] : List Nat)) ++ (ds1.map dch ++ 46 :: v.map dch)) ++ [dch z] := by
      rw [ht, e3]; simp
    rw [e, e5, item_last, ofS_nul, bne, ST_beq]
    simp [hz]
  · rw [hr1, ST_len]; simp; omega
  · rw [hr2, ST_len]; simp; omega
  · rw [hr2]
    have e6 : (ds1 ++ ds2).map dch = List.replicate k 48 ++ ds.map dch := by
      rw [e4, List.map_append, List.map_replicate]; rfl
    have := lstrip_len e6
    rw [List.length_map] at this
    omega
theorem tell_frac {p q : Int} (hp : p.natAbs ≤ 100000000000000000) (hq2 : q ≤ 1000000000000000) (hq : 1 < q) (hg : Int.gcd p q = 1) (h : FracC p q) : TellP p q (ST (itext p ++ 47 :: itext q)) := by
  have hl1 := itext_len hp
  have hl2 := itext_len (p := q) (by omega)
  rw [ST_len] at hl1 hl2
  refine .frac hq ?_ ?_ ?_ fun n hn hmin hend => frac_law h hn hmin hend
  · rw [ofS_sl, has_sign]; simp
  · rw [ST_len]; simp; omega
  · rw [ofS_sl]; exact split_two (itext_no (Or.inl rfl)) (itext_no (Or.inl rfl))
theorem tell_of {p q : Int} {u : Str} (h : ExT p q u) (hp : p.natAbs ≤ 100000000000000000) (hq : 0 < q) (hq2 : q ≤ 1000000000000000) (hg : Int.gcd p q = 1) : TellP p q u := by
  cases h with
  | special h => omega
  | whole h => rw [h]; exact tell_whole hp
  | @point a b h1 h2 h3 h4 =>
    obtain ⟨g1, g2⟩ := point_law h1 h2 h3 h4 hg
    obtain ⟨ds1, ds2, e, r⟩ := g2
    exact tell_point (q_gt h1 h2) ⟨ds1, ds2, by rw [e], r⟩ g1
  | fracA h h2 h3 h4 h5 => exact tell_frac hp hq2 h hg (.fracA h2 h3 h4 h5)
  | fracB h h2 h3 => exact tell_frac hp hq2 h hg (.fracB h2 h3)
  | fracC h h2 h3 h4 => exact tell_frac hp hq2 h hg (.fracC h2 h3 h4)
section
variable {prog : Program} {w : World} {A : Around} {E : Value → Shared → Prop} {s : Shared}
theorem notin_t {x y : Str} {t u : Tok} {Q : Value → Shared → Prop} (hf : Txt.contains x y = false) (h : Q (.bool true) s) : wpAny (model prog w) A (compareOp .NotIn (.str y u) (.str x t)) Q E s := SB.notContains (by rw [hf]; exact h)
theorem notin_f {x y : Str} {t u : Tok} {Q : Value → Shared → Prop} (hf : Txt.contains x y = true) (h : Q (.bool false) s) : wpAny (model prog w) A (compareOp .NotIn (.str y u) (.str x t)) Q E s := SB.notContains (by rw [hf]; exact h)
theorem nestr_t {x y : Str} {t u : Tok} {Q : Value → Shared → Prop} (hf : (x != y) = true) (h : Q (.bool true) s) : wpAny (model prog w) A (compareOp .NotEq (.str x t) (.str y u)) Q E s := PyProof.Rows.ne_str (by rw [hf]; exact h)
theorem repl_use {x y z : Str} {t u v : Tok} {Q : Value → Shared → Prop} (hu : @LT.lt Nat _ 0 u) (huv : @LT.lt Nat _ u v) (hyz : (y == z) = false) (hx : x.length ≤ 100) (hz : z.length = 0)
    (h : ∀ t' k, s.toks ≤ k → Q (.str (Txt.replace x y z) t') { s with toks := k }) : wpAny (model prog w) A (call (.builtin "str.replace") [.str x t, .str y u, .str z v]) Q E s := by
  have hfit : ∀ n : Nat, Builtin.Str.tooLong (x.length + n * z.length) = false := by
    intro n
    rw [hz, Nat.mul_zero]
    unfold Builtin.Str.tooLong
    rw [PySem.sizeLine_eq]
    exact decide_eq_false (by omega)
  refine call_gives F.slot_str_replace (typeIs_str _ _ _) F.entry_str_replace (F.args_str_replace_3 _ _ _)
    (gives_str_replace x y z t u v fun _ => ⟨by simp [Nat.ne_of_gt hu, Nat.ne_of_gt (Nat.lt_trans hu huv)], by simp [Nat.ne_of_lt huv], hyz, hfit _⟩) ?_
  have h1 := h t s.toks (Nat.le_refl _)
  have h2 := h s.toks (s.toks + 1) (Nat.le_succ _)
  unfold Txt.replace at h1 h2
  split
  · rename_i hc
    rw [if_pos hc] at h1
    exact h1
  · rename_i hc
    rw [if_neg hc] at h2
    exact ⟨fits_replaced y (by rw [hz]; omega), h2⟩
theorem pl_start {q : Int} (hq : 1 < q) : (0 : Int) ≤ 0 ∧ (0 : Int) ≤ 16 ∧ ∀ j : Nat, (j : Int) < 0 → ¬ q ∣ 10 ^ j := ⟨by decide, by decide, fun j h => by omega⟩
theorem pl_step {q n : Int} (hq : 1 < q) (h0 : 0 ≤ n) (h3 : ∀ j : Nat, (j : Int) < n → ¬ q ∣ 10 ^ j) (h : n < 16) (hm : (10 ^ n.toNat : Int).fmod q ≠ 0) : 0 ≤ n + 1 ∧ n + 1 ≤ 16 ∧ ∀ j : Nat, (j : Int) < n + 1 → ¬ q ∣ 10 ^ j := by
  refine ⟨by omega, by omega, fun j hj hd => ?_⟩
  by_cases he : (j : Int) < n
  · exact h3 j he hd
  · have ej : j = n.toNat := by omega
    rw [Int.fmod_eq_emod_of_nonneg _ (by omega)] at hm
    rw [ej] at hd
    exact hm (Int.emod_eq_zero_of_dvd hd)
theorem pl_dvd {q n : Int} (hq : 1 < q) (hm : (10 ^ n.toNat : Int).fmod q = 0) : n = 16 ∨ q ∣ 10 ^ n.toNat := by
  rw [Int.fmod_eq_emod_of_nonneg _ (by omega)] at hm
  exact Or.inr (Int.dvd_of_emod_eq_zero hm)
theorem pl_end {p q n : Int} (hq : 1 < q) (hF : ∀ n : Int, 0 ≤ n ∧ n ≤ 16 → (∀ j : Nat, (j : Int) < n → ¬ q ∣ 10 ^ j) → (n = 16 ∨ q ∣ 10 ^ n.toNat) → 15 < n ∨ 1000000000000000 ≤ absI p * 10 ^ n.toNat / q) (h0 : 0 ≤ n) (h1 : n ≤ 16) (h3 : ∀ j : Nat, (j : Int) < n → ¬ q ∣ 10 ^ j) (he : n = 16 ∨ q ∣ 10 ^ n.toNat) (hn : ¬ 15 < n) :
    (10 : Int) ^ Int.toNat 15 ≤ ((if p < 0 then -p else p) * 10 ^ n.toNat).fdiv q := by
  rcases hF n ⟨h0, h1⟩ h3 he with h | h
  · exact absurd h hn
  · rw [Int.fdiv_eq_ediv_of_nonneg _ (by omega)]
    exact h
theorem pl_mul {p n : Int} (hp : p.natAbs ≤ 100000000000000000) (hn : n ≤ 16) : IntMulOk (if p < 0 then -p else p) (10 ^ n.toNat) := by
  refine mulOk ?_ (pow_lt9 (by decide) (by omega))
  have e : (if p < 0 then -p else p).natAbs = p.natAbs := by split <;> omega
  rw [e]
  exact Nat.lt_of_le_of_lt hp (by decide +kernel)
theorem ge_t {a b : Int} {t u : Tok} {Q : Value → Shared → Prop} (hf : b ≤ a) (h : Q (.bool true) s) : wpAny (model prog w) A (compareOp .GtE (.int a t) (.int b u)) Q E s :=
  PyProof.Rows.ge_int (by rw [show decide (a ≥ b) = true from decide_eq_true hf]; exact h)
theorem split_use {x y a b : Str} {t u : Tok} {Q : Value → Shared → Prop} {h₀ : Heap} {L : Addr} {m : Str → Option Value} {news : List (Addr × Obj)} (hF : Fr h₀ L s.heap m) (hN : News h₀ L s.heap news) (hy : (y.length == 0) = false) (hs : Txt.split x y = [a, b]) (hsz : x.length ≤ 45)
    (h : ∀ D t1 t2 h' k, Fr h₀ L h' m → News h₀ L h' ((D, W.listOf #[.str a t1, .str b t2] 0) :: news) → (∀ p ∈ news, p.1 < D) → Q (.ref D) { s with heap := h', toks := k }) :
    wpAny (model prog w) A (call (.builtin "str.split") [.str x t, .str y u]) Q E s :=
  KSpl.split1 hF hN hy (fun D l h' k e1 e2 F' N' hl => by
    rw [hs] at e1
    obtain ⟨t1, l', rfl, e3⟩ := KSpl.cons_of e1
    obtain ⟨t2, l'', rfl, e4⟩ := KSpl.cons_of e3
    have := KSpl.nil_of e4
    subst this
    exact h D t1 t2 h' k F' N' hl) (by rw [PySem.sizeLine_eq]; omega)
end
theorem par_no_use {w : World} {x : Str} {tx : Tok} {news : List (Addr × Obj)}
  {mean : ExcName → Option Value} {mg mb : Str → Option Value} {dp un : Nat} {gd : Option (List Code)} {cn : Str} {cs : Scope} {a : Addr} {ccd : Value} {cl : List (Str × Addr)} {outer : List Env} {A₀ : Around} {base h₀ : Heap} {L : Addr} {m : Str → Option Value} {s : Shared}
    {Q E : Value → Shared → Prop} (B : Below A₀ base outer h₀) (F : Fr h₀ L s.heap m) (X : (Mine.hd.heap_39 w.params).In h₀) (N : News h₀ L s.heap news) (T : Top Mine.hd.view_39 (looseW Mine.hd.view_39 []) mean mg mb h₀) (hk : cs.kind = .function) (hd : dp + 6 < recursionLimit) (hu : un + 8 * 6 < cLine)
    (hO : ParOK x none) (ret : ∀ a h' tk', Fr h₀ L h' m → News h₀ L h' ((a, tup2 (.bool false) .none) :: news) → Q (.ref a) { s with heap := h', toks := tk' }) :
    wpAny (model PySem.Challenge.rw_no0501_01.row.prog w) (ktrTop dp un gd cn cs L a ccd cl outer) (call (.ref 122) [.str x tx]) Q E s :=
  ct_use (par_ct w x tx news hO.1 hO.2.1 hO.2.2.1) B F X N T hk hd hu fun r news' h' tk' ⟨a, e, ho⟩ F' N' => by
    subst e
    have hr := hO.2.2.2
    rcases ho with ⟨e1, e2⟩ | ⟨e1, e2⟩ | ⟨e1, e2⟩ | ⟨e1, e2⟩ | ⟨e1, e2⟩ | ⟨y, p', q', t1, t2, e1, e2⟩ <;> rw [hr] at e1 <;> cases e1 <;> subst e2
    exact ret a h' tk' F' N'
theorem par_na_use {w : World} {x : Str} {tx : Tok} {news : List (Addr × Obj)}
  {mean : ExcName → Option Value} {mg mb : Str → Option Value} {dp un : Nat} {gd : Option (List Code)} {cn : Str} {cs : Scope} {a : Addr} {ccd : Value} {cl : List (Str × Addr)} {outer : List Env} {A₀ : Around} {base h₀ : Heap} {L : Addr} {m : Str → Option Value} {s : Shared}
    {Q E : Value → Shared → Prop} (B : Below A₀ base outer h₀) (F : Fr h₀ L s.heap m) (X : (Mine.hd.heap_39 w.params).In h₀) (N : News h₀ L s.heap news) (T : Top Mine.hd.view_39 (looseW Mine.hd.view_39 []) mean mg mb h₀) (hk : cs.kind = .function) (hd : dp + 6 < recursionLimit) (hu : un + 8 * 6 < cLine)
    (hO : ParOK x (some none)) (ret : ∀ a h' tk', Fr h₀ L h' m → News h₀ L h' ((a, tup2 (.bool true) .none) :: news) → Q (.ref a) { s with heap := h', toks := tk' }) :
    wpAny (model PySem.Challenge.rw_no0501_01.row.prog w) (ktrTop dp un gd cn cs L a ccd cl outer) (call (.ref 122) [.str x tx]) Q E s :=
  ct_use (par_ct w x tx news hO.1 hO.2.1 hO.2.2.1) B F X N T hk hd hu fun r news' h' tk' ⟨a, e, ho⟩ F' N' => by
    subst e
    have hr := hO.2.2.2
    rcases ho with ⟨e1, e2⟩ | ⟨e1, e2⟩ | ⟨e1, e2⟩ | ⟨e1, e2⟩ | ⟨e1, e2⟩ | ⟨y, p', q', t1, t2, e1, e2⟩ <;> rw [hr] at e1 <;> cases e1 <;> subst e2
    exact ret a h' tk' F' N'
theorem par_num_use {w : World} {x : Str} {tx : Tok} {news : List (Addr × Obj)}
  {mean : ExcName → Option Value} {mg mb : Str → Option Value} {dp un : Nat} {gd : Option (List Code)} {cn : Str} {cs : Scope} {a : Addr} {ccd : Value} {cl : List (Str × Addr)} {outer : List Env} {A₀ : Around} {base h₀ : Heap} {L : Addr} {m : Str → Option Value} {s : Shared}
    {Q E : Value → Shared → Prop} {p q : Int} (B : Below A₀ base outer h₀) (F : Fr h₀ L s.heap m) (X : (Mine.hd.heap_39 w.params).In h₀) (N : News h₀ L s.heap news) (T : Top Mine.hd.view_39 (looseW Mine.hd.view_39 []) mean mg mb h₀) (hk : cs.kind = .function) (hd : dp + 6 < recursionLimit) (hu : un + 8 * 6 < cLine)
    (hO : ParOK x (some (some (p, q)))) (ret1 : ∀ a y h' tk', Reads h₀ (.ref y) (.tuple [.int p, .int q]) [] → Fr h₀ L h' m → News h₀ L h' ((a, tup2 (.bool true) (.ref y)) :: news) → Q (.ref a) { s with heap := h', toks := tk' })
    (ret4 : ∀ a y t1 t2 h' tk', Fr h₀ L h' m → News h₀ L h' ((a, tup2 (.bool true) (.ref y)) :: (y, tup2 (.int p t1) (.int q t2)) :: news) → Q (.ref a) { s with heap := h', toks := tk' }) :
    wpAny (model PySem.Challenge.rw_no0501_01.row.prog w) (ktrTop dp un gd cn cs L a ccd cl outer) (call (.ref 122) [.str x tx]) Q E s :=
  ct_use (par_ct w x tx news hO.1 hO.2.1 hO.2.2.1) B F X N T hk hd hu fun r news' h' tk' ⟨a, e, ho⟩ F' N' => by
    subst e
    have hr := hO.2.2.2
    rcases ho with ⟨e1, e2⟩ | ⟨e1, e2⟩ | ⟨e1, e2⟩ | ⟨e1, e2⟩ | ⟨e1, e2⟩ | ⟨y, p', q', t1, t2, e1, e2⟩ <;> rw [hr] at e1 <;> cases e1 <;> subst e2
    · exact ret1 a 15 h' tk' (top_pair X (k15 _)) F' N'
    · exact ret1 a 16 h' tk' (top_pair X (k16 _)) F' N'
    · exact ret1 a 17 h' tk' (top_pair X (k17 _)) F' N'
    · exact ret4 a y t1 t2 h' tk' F' N'
theorem pool_use {w : World} {l : Addr} {vs : List Value} {ns : List Int} {news : List (Addr × Obj)}
  {mean : ExcName → Option Value} {mg mb : Str → Option Value} {dp un : Nat} {gd : Option (List Code)} {cn : Str} {cs : Scope} {a : Addr} {ccd : Value} {cl : List (Str × Addr)} {outer : List Env} {A₀ : Around} {base h₀ : Heap} {L : Addr} {m : Str → Option Value} {s : Shared}
    {Q E : Value → Shared → Prop} (B : Below A₀ base outer h₀) (F : Fr h₀ L s.heap m) (X : (Mine.hd.heap_39 w.params).In h₀) (N : News h₀ L s.heap news) (T : Top Mine.hd.view_39 (looseW Mine.hd.view_39 []) mean mg mb h₀) (hk : cs.kind = .function) (hL : base.IsList l vs.toArray) (hd : dp + 1 < recursionLimit) (hu : un + 8 * 1 < cLine)
    (hI : IntsAre vs ns) (hlen : ns.length ≤ 63)
    (ret : ∀ pa fa i ti mx tm n nf vs2 ns2 h' tk', IntsAre vs2 ns2 → ns2.length < 2 ^ 62 → 0 ≤ i → fa < pa → (∀ p ∈ news, p.1 < fa) → Fr h₀ L h' m → News h₀ L h' ((pa, poolO fa i ti mx tm n) :: (fa, W.listOf vs2.toArray nf) :: news) → Q (.ref pa) { s with heap := h', toks := tk' }) :
    wpAny (model PySem.Challenge.rw_no0501_01.row.prog w) (ktrTop dp un gd cn cs L a ccd cl outer) (call (.ref 129) [.ref l]) Q E s :=
  pool_ct w l vs ns hI hlen news _ _ _ _ _ _ _ _ _ _ _ _ _ _ _ _ _ _ _ _ B F X N T hk hL hd hu ret

end Mine
namespace Mine

set_option rowWalk.seconds 0
theorem law_holds : PySem.Challenge.rw_no0501_01.Holds := by
  w_on
  refine holds_law Mine.hd.said fun hsd => ?_
  clear hsd
  refine holds_open (q := Mine.hd.view_39) (loose := []) (Xt := fun s => xlAt Mine.hd.view_39 [] s && recOk PySem.Challenge.rw_no0501_01.row.records s) (XP := XL Mine.hd.view_39 []) (Yf := Mine.hd.hook.obs) (Ya := Mine.hd.hook.val) (YP := Mine.hd.hook.says) (N := 1686) Mine.hd.left Mine.hd.hook.of Mine.hd.hook.keeps (fun s e => xl_of s (Bool.and_eq_true_iff.mp e).1) XL.keeps (by rfl) (by rfl) (by rfl) (fun s e => recFacts_of (Bool.and_eq_true_iff.mp e).2) (by rfl) (by decide +kernel) (by decide +kernel) ⟨rfl, rfl, rfl, rfl, rfl, by decide +kernel⟩ ⟨[.list []], by decide +kernel, by decide +kernel⟩ ?_
  k_fill
  intro w s₀ s₁ mg mb G Y fa o pm cd doc dV kV ho hd hcd hD hmg hg args vals as hpre hlay hrd hwl hlo
  have KX := kIn_of Y
  have X := (Ground.X G).1
  have V := (Ground.X G).2
  have GL := glob_more (Ground.glob G (by decide +kernel) (by decide +kernel)) V
  refine Ground.open G ?_
  intro T B D TE TW
  try (refine guard_noD D (by decide +kernel) ?_; clear D)
  obtain ⟨_, _, M⟩ := bmod_of_top T
  have TA := at_of_top T
  try (obtain ⟨_, _, he, B0⟩ := based_of_top T rfl hmg ho hd; have he' : cd = _ := he; subst he'; clear he)
  clear hmg
  wrow_args hpre hlay hrd hwl hlo
  first | refine callC_kw (enter_call ?_) | refine enter_call ?_ | refine callC_kw (enter_callW ?_) | refine enter_callW ?_
  w_top off
  try refine codeAny_mono ?_ (fun _ _ g => GoodW.toG g)
  have K0 := below_caller (Top.heap T)
  w_call any ho hd hcd hD T F
  clear hd TA
  k_drop
  rename_i ns0 _ _ _ _ _ _ _ l0 vs0 _ hL0 _ _ _ hI0 _ hc0 _ _ _
  all_goals try k_fold
  k_with_none
  k_with "binaryOp FloorDiv int int" => (((with_reducible refine floordiv_int ?_ ?_ (Or.inl (noPy ?_))); omega; rotate_left; omega))
  k_with "binaryOp Mod int int" => (((with_reducible refine mod_int' ?_ ?_ (Or.inl (noPy ?_))); omega; rotate_left; omega))
  k_with "execs nil" => ((with_reducible refine wpAny_execs_nil ?_))
  k_with "execs cons" => ((with_reducible refine wpAny_execs_cons ?_))
  k_with "exec If" => ((with_reducible refine wpAny_If ?_))
  k_with "call ref" => ((k_here; (with_reducible show wpAny _ _ (call (Value.ref 136) _) _ _ _); k_dflt (refine pick_use (by k_asm) (by k_asm) (by k_asm) (by first | k_asm | exact news_f1 (by k_asm) | exact news_f2 (by k_asm) | exact news_f3 (by k_asm) | exact news_f4 (by k_asm) | exact news_f5 (by k_asm)) (by k_asm) (by first | exact rfl | assumption) (by ktr_room) (by ktr_units) (by assumption) (by assumption) (by assumption) (by first | decide | omega) (by assumption) (by assumption) (by k_all) ?_; intro x9 t9 i9 ti9 mx9 tm9 n9 h9 tk9 hx9 hy9 hi9 F9 N9; (try dsimp only); (try k_sweep); (try k_fold))))
  k_with "subscriptTail" => ((k_here; (with_reducible show wpAny _ _ (subscriptTail _ _ (Value.ref _) (Value.int _ _)) _ _ _); k_dflt (refine item_tab (by k_asm) (by k_mem) (by repeat constructor) (by with_reducible assumption) (by (simp only [List.length_cons, List.length_nil]; omega)) (by decide) (by decide) ?_ (by with_unfolding_all rfl); intro r9 t9 hr9 hrl9)))
  k_with "call ref" => ((k_here; (with_reducible show wpAny _ _ (call (Value.ref 129) _) _ _ _); k_dflt (refine pool_use (by k_asm) (by k_asm) (by k_asm) (by k_asm) (by k_asm) (by first | exact rfl | assumption) (by k_asm) (by ktr_room) (by ktr_units) (by assumption) (by omega) ?_; intro pa9 fa9 i9 ti9 mx9 tm9 n9 nf9 vs9 ns9 h9 tk9 hI9 hl9 hi9 hf9 hb9 F9 N9; (have hne9 := Nat.ne_of_gt hf9); (have hne8 := Nat.ne_of_lt hf9); (replace hf9 := ltN hf9); (try dsimp only); (try k_sweep); (try k_fold))))
  k_with "call ref" => ((k_here; (with_reducible show wpAny _ _ (call (Value.ref 164) _) _ _ _); k_dflt (refine word_use (by k_asm) (by k_asm) (by k_asm) (by first | k_asm | exact news_f1 (by k_asm) | exact news_f2 (by k_asm) | exact news_f3 (by k_asm)) (by k_asm) (by first | exact rfl | assumption) (by ktr_room) (by ktr_units) (by assumption) (by assumption) (by assumption) (by assumption) (by assumption) (by k_all) ?_ ?_; (intro a9 y9 row9 p9 q9 t9 t19 t29 i9 ti9 mx9 tm9 n9 h9 tk9 hP9 hi9 hl9 hm9 ha9 hf9 F9 N9; (replace hl9 := ltN hl9); (replace hm9 := ltN hm9); (replace ha9 := ltN ha9); (try k_lt hf9); (have hwl9 := word_len hP9); (try dsimp only); (try k_sweep); (try k_fold)); rotate_left; (intro a9 row9 t9 i9 ti9 mx9 tm9 n9 h9 tk9 hP9 hi9 hl9 hm9 hf9 F9 N9; (replace hl9 := ltN hl9); (replace hm9 := ltN hm9); (try k_lt hf9); (have hwl9 := bad_len hP9); (try dsimp only); (try k_sweep); (try k_fold)); rotate_left)))
  k_with "call ref" => ((k_here; (with_reducible show wpAny _ _ (call (Value.ref 122) _) _ _ _); first | k_dflt (refine par_no_use (by k_asm) (by k_asm) (by k_asm) (by k_asm) (by k_asm) (by first | exact rfl | assumption) (by ktr_room) (by ktr_units) (by with_reducible first | assumption | exact par_bad1 (by assumption) (by assumption) (by assumption) (by assumption) | exact par_bad2 (by assumption) (by assumption) (by assumption) (by assumption) | exact par_bad3 (by assumption) (by assumption)) ?_; intro a9 h9 tk9 F9 N9; (try dsimp only); (try k_sweep); (try k_fold)) | k_dflt (refine par_na_use (by k_asm) (by k_asm) (by k_asm) (by k_asm) (by k_asm) (by first | exact rfl | assumption) (by ktr_room) (by ktr_units) (by with_reducible first | assumption | exact (par_na (by assumption)).1 | exact (par_na (by assumption)).2.1 | exact (par_na (by assumption)).2.2 | exact par_tNA) ?_; intro a9 h9 tk9 F9 N9; (try dsimp only); (try k_sweep); (try k_fold)) | k_dflt (refine par_num_use (by k_asm) (by k_asm) (by k_asm) (by k_asm) (by k_asm) (by first | exact rfl | assumption) (by ktr_room) (by ktr_units) (by with_reducible first | assumption | exact par_pos (by assumption) (by assumption) (by assumption) (by assumption) | exact par_neg (by assumption) (by assumption) (by assumption) (by assumption) | exact par_tnan | exact par_tinf | exact par_tninf) ?_ ?_; (intro a9 y9 h9 tk9 hR9 F9 N9; (try dsimp only); (try k_sweep); (try k_fold)); rotate_left; (intro a9 y9 t9 u9 h9 tk9 F9 N9; (try dsimp only); (try k_sweep); (try k_fold)); rotate_left)))
  k_with "call ref" => ((k_here; (with_reducible show wpAny _ _ (call (Value.ref 143) _) _ _ _); k_dflt (refine ct_use2 (by k_asm) (by k_asm) (by k_asm) (by k_asm) (by k_asm) (by first | exact rfl | assumption) (by ktr_room) (by ktr_units) (red_ct _ _ _ _ _ _ (by exact (dl_bd (by assumption) (by assumption)).1) (by exact dl_le (by assumption) (by assumption))) ?_; intro r9 news9 h9 tk9 ho9 F9 N9; (try dsimp only at ho9); obtain ⟨a9, p9, q9, t9, u9, e8, e9, ep9, eq9, hl9⟩ := ho9; subst e8; subst e9; (all_goals (try dsimp only at N9)); (all_goals (try dsimp only)); (all_goals (try k_sweep)); (all_goals (try k_fold)))))
  k_with "call ref" => ((k_here; (with_reducible show wpAny _ _ (call (Value.ref 80) _) _ _ _); k_dflt (refine ct_use2 (by k_asm) (by k_asm) (by k_asm) (by k_asm) (by k_asm) (by first | exact rfl | assumption) (by ktr_room) (by ktr_units) (ex_none_ct _ _) ?_; intro r9 news9 h9 tk9 ho9 F9 N9; (try dsimp only at ho9); obtain ⟨e8, t9, e9⟩ := ho9; subst e8; subst e9; (all_goals (try dsimp only at N9)); (all_goals (try dsimp only)); (all_goals (try k_sweep)); (all_goals (try k_fold)))))
  k_with "call ref" => ((k_here; (with_reducible show wpAny _ _ (call (Value.ref 80) _) _ _ _); k_dflt (refine ct_use2 (by k_asm) (by k_asm) (by k_asm) (by k_asm) (by k_asm) (by first | exact rfl | assumption) (by ktr_room) (by ktr_units) (ex_ct _ _ _ _ _ _ _ (by exact .head _) (by first | with_reducible assumption | decide) (by omega) (by omega)) ?_; intro r9 news9 h9 tk9 ho9 F9 N9; (try dsimp only at ho9); obtain ⟨e8, t9, u9, e9, hx9⟩ := ho9; subst e8; subst e9; (first | (have hu9 := told_nan hx9; subst hu9) | (have hu9 := told_inf hx9; subst hu9) | (have hu9 := told_ninf hx9; subst hu9) | (have hT9 := tell_of hx9 (by with_reducible assumption) (by with_reducible assumption) (by with_reducible assumption) (by with_reducible assumption); clear hx9; rcases hT9 with ⟨hw1, hw2, hw3, hw4⟩ | ⟨hw1, hw2, hw3, hw4, hw5, hw6, hw7, hw8, hw9⟩ | ⟨hw1, hw2, hw3, hw4, hw5⟩)); (all_goals (try dsimp only at N9)); (all_goals (try dsimp only)); (all_goals (try k_sweep)); (all_goals (try k_fold)))))
  k_with "eval ListComp" => ((k_here; k_dflt (refine LCg.ListComp_U (F₀ := by k_asm) (by with_unfolding_all rfl) (by decide) (by rfl) (by decide) (by rfl) ?_)))
  k_with "CompSrc" => ((k_here; k_dflt (refine LCg.CompSrc.ledger (by rfl) (by k_asm) (by k_asm) (by k_mem) (by kcf_size) ?_; intro g'; (refine' kcf_list _ (by first | assumption | l_ints) (fun k' t' I' oI' C' oC' D' m' ys' h' tk' E' hk' hC' hx' F' N' off' ne' hMark' => ?_) ?_); (all_goals (try (simp only [LCg.Off3, and_true] at off'))); kcf_last)))
  k_with "binaryOp Mod int int" => (((with_reducible refine mod_int' ?_ ?_ (Or.inl (noPy ?_))); decide; rotate_left; decide))
  k_with "eval Constant int" => (((try dsimp only); (with_reducible refine wpAny_Constant_int ?_); (try dsimp only)))
  k_with "compareOp NotIn str str" => (first | (refine notin_t (by first | with_reducible assumption | decide +kernel) ?_) | (refine notin_f (by first | with_reducible assumption | decide +kernel) ?_))
  k_with "compareOp NotEq str str" => ((refine nestr_t (by with_reducible assumption) ?_))
  k_with "call builtin:str.split" => ((k_here; (with_reducible show wpAny _ _ (call (Value.builtin "str.split") [Value.str _ _, Value.str _ _]) _ _ _); k_dflt (refine split_use (by k_asm) (by k_asm) (by decide) (by with_reducible assumption) (by with_reducible assumption) ?_; intro D9 t9 u9 h9 tk9 F9 N9 l9; (try k_lt l9); (try dsimp only); (try k_sweep); (try k_fold))))
  k_with "call builtin:str.replace" => ((refine repl_use (by omega) (by omega) (by decide) (by omega) (by decide) ?_; intro t9r k9r hk9r; (try dsimp only at hk9r)))
  k_with "call type:int" => ((k_here; (with_reducible show wpAny _ _ (call (Value.type "int") [Value.str (ST (itext _)) _]) _ _ _); refine KIN.call_text (itext_reads (by omega)) (itext_640 (by omega)) ?_))
  k_with "binaryOp Mult int int" => ((refine mul_int ?_ (pl_mul (by with_reducible assumption) (by omega))))
  k_with "compareOp GtE int int" => ((refine ge_t (pl_end (by with_reducible assumption) (by with_reducible assumption) (by with_reducible assumption) (by with_reducible assumption) (by with_reducible assumption) (by first | exact Or.inl (by omega) | exact pl_dvd (by with_reducible assumption) (by first | with_reducible assumption | omega)) (by first | with_reducible assumption | omega)) ?_))
  k_with "execs cons" => k_dflt (
    with_reducible show wpAny _ _ (execs (Stmt.Assign [Expr.Tuple [Expr.Name (Str.ofString "row") _, _] _ _] _ _ :: _ :: _ :: _ :: _ :: _ :: _ :: _) _) _ _ _
    rename Fr _ _ _ _ => F9c
    refine cutL [_, _, _, _, _, _] (σ := Addr × Addr × Int × Tok × Int × Tok × Nat × Nat × (Value × Tok) × (Str × Tok) × List Value × List Int) (fun c => [(Str.ofString "script", .ref l0), (Str.ofString "pool", c.2.2.2.2.2.2.2.2.1.1), (Str.ofString "blank", .str c.2.2.2.2.2.2.2.2.2.1.1 c.2.2.2.2.2.2.2.2.2.1.2)]) (fun c => (fun (pa : Addr) (fa : Addr) (i : Int) (ti : Tok) (mx : Int) (tm : Tok) (n : Nat) (nf : Nat) (pv : Value) (bl : Str) (vs : List Value) (ns : List Int) => (pa, poolO fa i ti mx tm n) :: (fa, W.listOf vs.toArray nf) :: []) c.1 c.2.1 c.2.2.1 c.2.2.2.1 c.2.2.2.2.1 c.2.2.2.2.2.1 c.2.2.2.2.2.2.1 c.2.2.2.2.2.2.2.1 c.2.2.2.2.2.2.2.2.1.1 c.2.2.2.2.2.2.2.2.2.1.1 c.2.2.2.2.2.2.2.2.2.2.1 c.2.2.2.2.2.2.2.2.2.2.2) (fun c => (fun (pa : Addr) (fa : Addr) (i : Int) (ti : Tok) (mx : Int) (tm : Tok) (n : Nat) (nf : Nat) (pv : Value) (bl : Str) (vs : List Value) (ns : List Int) => pv = .ref pa ∧ 0 ≤ i ∧ pa ≠ fa ∧ fa ≠ pa ∧ IntsAre vs ns ∧ ns.length < 2 ^ 62 ∧ bl ∈ blankL) c.1 c.2.1 c.2.2.1 c.2.2.2.1 c.2.2.2.2.1 c.2.2.2.2.2.1 c.2.2.2.2.2.2.1 c.2.2.2.2.2.2.2.1 c.2.2.2.2.2.2.2.2.1.1 c.2.2.2.2.2.2.2.2.2.1.1 c.2.2.2.2.2.2.2.2.2.2.1 c.2.2.2.2.2.2.2.2.2.2.2) F9c ?_ ?_
    rotate_left
    rintro ⟨pa, fa, i, ti, mx, tm, n, nf, ⟨pv, tpv⟩, ⟨bl, tbl⟩, vs, ns⟩ u9 h9 tk9 hP9 F9 N9
    (try dsimp only at hP9 F9 N9)
    obtain ⟨ep, hi1, hne1, hne2, hI1, hl1, hbl⟩ := hP9; subst ep; have hbl2 := blank_len hbl
    (try k_sweep)
    (try k_fold)
    rotate_left
    (try k_fold))
  k_with "execs cons" => k_dflt (
    with_reducible show wpAny _ _ (execs (Stmt.For (Expr.Name (Str.ofString "simple") _) _ _ _ _ :: _) _) _ _ _
    rename Fr _ _ _ _ => F9c
    refine cut9 (σ := Unit) (fun c => [(Str.ofString "script", .ref l0), (Str.ofString "pool", .ref pa)]) (fun c => (pa, poolO fa i ti mx tm n) :: (fa, W.listOf vs.toArray nf) :: []) (fun c => True) F9c ?_ ?_
    rotate_left
    rintro ⟨⟩ u9 h9 tk9 hP9 F9 N9
    (try dsimp only at hP9 F9 N9)
    have kC9 := True.intro
    (try k_sweep)
    (try k_fold)
    rotate_left
    (try k_fold))
  k_with "execs cons" => k_dflt (
    with_reducible show wpAny _ _ (execs (Stmt.Assign [Expr.Name (Str.ofString "cells") _] _ _ :: _) _) _ _ _
    rename Fr _ _ _ _ => F9c
    refine cut9 (σ := Addr × List Value × List Int × Nat × (Value × Tok)) (fun c => [(Str.ofString "pool", .ref pa), (Str.ofString "cells", c.2.2.2.2.1)]) (fun c => (fun (c : Addr) (vc : List Value) (mc : List Int) (nc : Nat) (cv : Value) => (pa, poolO fa i ti mx tm n) :: (fa, W.listOf vs.toArray nf) :: (c, W.listOf vc.toArray nc) :: []) c.1 c.2.1 c.2.2.1 c.2.2.2.1 c.2.2.2.2.1) (fun c => (fun (c : Addr) (vc : List Value) (mc : List Int) (nc : Nat) (cv : Value) => cv = .ref c ∧ IntsAre vc mc ∧ c ≠ pa ∧ 1 ≤ mc.length ∧ mc.length ≤ 6 ∧ (∀ x ∈ mc, x.natAbs ≤ 100000000000000000)) c.1 c.2.1 c.2.2.1 c.2.2.2.1 c.2.2.2.2.1) F9c ?_ ?_
    rotate_left
    rintro ⟨c, vc, mc, nc, ⟨cv, tcv⟩⟩ u9 h9 tk9 hP9 F9 N9
    (try dsimp only at hP9 F9 N9)
    obtain ⟨ec, hIc, hcp, hc1, hc2, hc3⟩ := hP9; subst ec; replace hcp := neN hcp; have kD9 := True.intro
    (try k_sweep)
    (try k_fold)
    rotate_left
    (try k_fold))
  k_with "execs cons" => k_dflt (
    with_reducible show wpAny _ _ (execs (Stmt.Assign [Expr.Name (Str.ofString "kind") _] _ _ :: _ :: _ :: _ :: _) _) _ _ _
    rename Fr _ _ _ _ => F9c
    refine cutL [_, _, _] (σ := (Value × Tok) × List (Addr × Obj)) (fun c => [(Str.ofString "pair", c.1.1)]) (fun c => (fun (pv : Value) (D : List (Addr × Obj)) => D) c.1.1 c.2) (fun c => (fun (pv : Value) (D : List (Addr × Obj)) => PairP pv D) c.1.1 c.2) F9c ?_ ?_
    rotate_left
    rintro ⟨⟨pv, tpv⟩, D⟩ u9 h9 tk9 hP9 F9 N9
    (try dsimp only at hP9 F9 N9)
    have kE9 := True.intro; rcases hP9 with _ | _ | _ | _ | @⟨y0, p0, q0, u1, u2, hp1, hp2, hp3, hp4⟩
    (all_goals (try k_sweep))
    (all_goals (try k_fold)))
  k_with "MidOK" => k_dflt (first
    | (refine MidOK.ret ?_; (try dsimp only))
    | (show @Mid (Addr × Addr × Int × Tok × Int × Tok × Nat × Nat × (Value × Tok) × (Str × Tok) × List Value × List Int) _ _ _ _ _ _ _; refine Mid.intro (σ := Addr × Addr × Int × Tok × Int × Tok × Nat × Nat × (Value × Tok) × (Str × Tok) × List Value × List Int) (ps := fun c => [(Str.ofString "script", .ref l0), (Str.ofString "pool", c.2.2.2.2.2.2.2.2.1.1), (Str.ofString "blank", .str c.2.2.2.2.2.2.2.2.2.1.1 c.2.2.2.2.2.2.2.2.2.1.2)]) ⟨_, _, _, _, _, _, _, _, ⟨_, 0⟩, ⟨_, _⟩, _, _⟩ (by k_asm) (by k_asm) (by ((try dsimp only); repeat (first | exact List.forall_mem_nil _ | refine List.forall_mem_cons.mpr ⟨by rfl, ?_⟩))) (by ((try dsimp only); (repeat (first | with_reducible exact List.forall_mem_nil _ | refine List.forall_mem_cons.mpr ⟨by (repeat (first | (with_reducible exact List.mem_cons_self) | (with_reducible refine List.mem_cons_of_mem _ ?_))), ?_⟩)); (first | done | exact List.forall_mem_nil _ | (intro p hp; (repeat (first | exact hp | apply List.Mem.tail)))))) (by ((try dsimp only); with_reducible (exact ⟨rfl, by assumption, by assumption, by assumption, by assumption, by assumption, by assumption⟩))))
    | (show @Mid (Unit) _ _ _ _ _ _ _; refine Mid.intro (σ := Unit) (ps := fun c => [(Str.ofString "script", .ref l0), (Str.ofString "pool", .ref pa)]) () (by k_asm) (by k_asm) (by ((try dsimp only); repeat (first | exact List.forall_mem_nil _ | refine List.forall_mem_cons.mpr ⟨by rfl, ?_⟩))) (by ((try dsimp only); (repeat (first | with_reducible exact List.forall_mem_nil _ | refine List.forall_mem_cons.mpr ⟨by (repeat (first | (with_reducible exact List.mem_cons_self) | (with_reducible refine List.mem_cons_of_mem _ ?_))), ?_⟩)); (first | done | exact List.forall_mem_nil _ | (intro p hp; (repeat (first | exact hp | apply List.Mem.tail)))))) (by ((try dsimp only); with_reducible (first | done | exact trivial))))
    | (show @Mid (Addr × List Value × List Int × Nat × (Value × Tok)) _ _ _ _ _ _ _; refine Mid.intro (σ := Addr × List Value × List Int × Nat × (Value × Tok)) (ps := fun c => [(Str.ofString "pool", .ref pa), (Str.ofString "cells", c.2.2.2.2.1)]) ⟨_, _, _, _, ⟨_, 0⟩⟩ (by k_asm) (by k_asm) (by ((try dsimp only); repeat (first | exact List.forall_mem_nil _ | refine List.forall_mem_cons.mpr ⟨by rfl, ?_⟩))) (by ((try dsimp only); (repeat (first | with_reducible exact List.forall_mem_nil _ | refine List.forall_mem_cons.mpr ⟨by (repeat (first | (with_reducible exact List.mem_cons_self) | (with_reducible refine List.mem_cons_of_mem _ ?_))), ?_⟩)); (first | done | exact List.forall_mem_nil _ | (intro p hp; (repeat (first | exact hp | apply List.Mem.tail)))))) (by ((try dsimp only); with_reducible (exact cells_P (by assumption) (by assumption) (neN (by omega))))))
    | (show @Mid ((Value × Tok) × List (Addr × Obj)) _ _ _ _ _ _ _; refine' Mid.intro (σ := (Value × Tok) × List (Addr × Obj)) (ps := fun c => [(Str.ofString "pair", c.1.1)]) ⟨⟨_, 0⟩, _⟩ (by k_asm) (by k_asm) (by ((try dsimp only); repeat (first | exact List.forall_mem_nil _ | refine List.forall_mem_cons.mpr ⟨by rfl, ?_⟩))) ?hn9 ?hP9; (case hP9 => ((try dsimp only); with_reducible (first | exact PairP.none | (k_dflt exact pairP_red (by k_asm) (by k_mem) (by with_reducible assumption) (by with_reducible assumption) (cell_item (by with_reducible assumption) (by with_reducible assumption) (by with_reducible assumption)) (dl_bd (by with_reducible assumption) (by with_reducible assumption))) | (k_dflt exact pairP_nan (by k_asm) (by k_mem)) | (k_dflt exact pairP_inf (by k_asm) (by k_mem)) | (k_dflt exact pairP_ninf (by k_asm) (by k_mem))))); (case hn9 => ((try dsimp only); (repeat (first | with_reducible exact List.forall_mem_nil _ | refine List.forall_mem_cons.mpr ⟨by (repeat (first | (with_reducible exact List.mem_cons_self) | (with_reducible refine List.mem_cons_of_mem _ ?_))), ?_⟩)); (first | done | exact List.forall_mem_nil _ | (intro p hp; (repeat (first | exact hp | apply List.Mem.tail))))))))
  k_with "exec While BoolOp cons nil" => k_dflt (k_while (fun _ n => 0 ≤ n ∧ n ≤ 16 ∧ ∀ j : Nat, (j : Int) < n → ¬ q0 ∣ 10 ^ j) (fun _ n => (16 - n).toNat) "places")
  k_with "state" => first | exact pl_start (by with_reducible assumption) | exact pl_step (by with_reducible assumption) (by with_reducible assumption) (by with_reducible assumption) (by with_reducible assumption) (by first | with_reducible assumption | omega)
  k_steps
end Mine
end
theorem PySem.Challenge.cw_no0501_01_holds : PySem.Challenge.rw_no0501_01.Holds := by
  exact Mine.law_holds
