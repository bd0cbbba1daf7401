import PyProof.Rows.All
import Wide.All
import OpenK.AllK
import Wide.FinOn
import PySem.Challenge.RW_xm0066_01
set_option Elab.async false
set_option maxRecDepth 100000
set_option maxHeartbeats 8000000
set_option linter.unusedVariables false
namespace Mine
section
open PySem PySem.W PySem.Calls PyProof.Rows
noncomputable abbrev PG : Program := PySem.Challenge.pw_xm0066_01
/-- the program with the statements that make no def or constant of its own dropped -/
noncomputable def VF : Program := (fun (x0 x1 x2 x3 x4 x5 x6 x7 x8 x9 x10 x11 x12 x13 x14 x15 x16 x17 x18 x19 x20 x21 x22 x23 x24 x25 x26 x27 x28 x29 x30 x31 x32 x33 x34 x35 x36 x37 x38 x39 x40 x41 x42 x43 x44 x45 x46 x47 x48 x49 x50 x51 x52 x53 x54 x55 x56 x57 x58 x59 x60 x61 x62 x63 : Stmt) (_ : PG.main.body = [x0, x1, x2, x3, x4, x5, x6, x7, x8, x9, x10, x11, x12, x13, x14, x15, x16, x17, x18, x19, x20, x21, x22, x23, x24, x25, x26, x27, x28, x29, x30, x31, x32, x33, x34, x35, x36, x37, x38, x39, x40, x41, x42, x43, x44, x45, x46, x47, x48, x49, x50, x51, x52, x53, x54, x55, x56, x57, x58, x59, x60, x61, x62, x63]) => ({ PG with main := { PG.main with body := [x1, x2, x3, x4, x5, x6, x7, x8, x9, x10, x11, x12, x13, x14, x16, x17, x18, x19, x20, x21, x22, x23, x24, x25, x26, x27, x29, x30, x31, x32, x33, x34, x35, x36, x37, x38, x39, x41, x42, x43, x44, x45, x46, x48, x49, x50, x51, x52, x54, x55, x56, x57, x58, x59, x60, x61, x62, x63] } } : Program)) _ _ _ _ _ _ _ _ _ _ _ _ _ _ _ _ _ _ _ _ _ _ _ _ _ _ _ _ _ _ _ _ _ _ _ _ _ _ _ _ _ _ _ _ _ _ _ _ _ _ _ _ _ _ _ _ _ _ _ _ _ _ _ _ rfl
/-- the heap that the top leaves, where the walk looks: every def by its own parameters, body and scope -/
noncomputable def KF : Params → Frag := (fun (p0 : Arguments) (b0 : List Stmt) (c0 : Scope) (_ : PG.theDef (Str.ofString "kind_of") = some (p0, b0, c0)) (p1 : Arguments) (b1 : List Stmt) (c1 : Scope) (_ : PG.theDef (Str.ofString "text_of") = some (p1, b1, c1)) (p2 : Arguments) (b2 : List Stmt) (c2 : Scope) (_ : PG.theDef (Str.ofString "checked_text") = some (p2, b2, c2)) (p3 : Arguments) (b3 : List Stmt) (c3 : Scope) (_ : PG.theDef (Str.ofString "truth") = some (p3, b3, c3)) (p4 : Arguments) (b4 : List Stmt) (c4 : Scope) (_ : PG.theDef (Str.ofString "order_of_texts") = some (p4, b4, c4)) (p5 : Arguments) (b5 : List Stmt) (c5 : Scope) (_ : PG.theDef (Str.ofString "compared") = some (p5, b5, c5)) (p6 : Arguments) (b6 : List Stmt) (c6 : Scope) (_ : PG.theDef (Str.ofString "worth_of_texts") = some (p6, b6, c6)) (p7 : Arguments) (b7 : List Stmt) (c7 : Scope) (_ : PG.theDef (Str.ofString "worth_of_two") = some (p7, b7, c7)) (p8 : Arguments) (b8 : List Stmt) (c8 : Scope) (_ : PG.theDef (Str.ofString "size_told") = some (p8, b8, c8)) (p9 : Arguments) (b9 : List Stmt) (c9 : Scope) (_ : PG.theDef (Str.ofString "place_told") = some (p9, b9, c9)) (p10 : Arguments) (b10 : List Stmt) (c10 : Scope) (_ : PG.theDef (Str.ofString "text_left") = some (p10, b10, c10)) (p11 : Arguments) (b11 : List Stmt) (c11 : Scope) (_ : PG.theDef (Str.ofString "text_mid") = some (p11, b11, c11)) (p12 : Arguments) (b12 : List Stmt) (c12 : Scope) (_ : PG.theDef (Str.ofString "text_joined") = some (p12, b12, c12)) (p13 : Arguments) (b13 : List Stmt) (c13 : Scope) (_ : PG.theDef (Str.ofString "_law_draw") = some (p13, b13, c13)) (p14 : Arguments) (b14 : List Stmt) (c14 : Scope) (_ : PG.theDef (Str.ofString "_law_sign") = some (p14, b14, c14)) (p15 : Arguments) (b15 : List Stmt) (c15 : Scope) (_ : PG.theDef (Str.ofString "_law_less") = some (p15, b15, c15)) (p16 : Arguments) (b16 : List Stmt) (c16 : Scope) (_ : PG.theDef (Str.ofString "_law_put") = some (p16, b16, c16)) (p17 : Arguments) (b17 : List Stmt) (c17 : Scope) (_ : PG.theDef (Str.ofString "_law_exchanged") = some (p17, b17, c17)) (p18 : Arguments) (b18 : List Stmt) (c18 : Scope) (_ : PG.theDef (Str.ofString "_law_up") = some (p18, b18, c18)) (p19 : Arguments) (b19 : List Stmt) (c19 : Scope) (_ : PG.theDef (Str.ofString "_law_down") = some (p19, b19, c19)) (p20 : Arguments) (b20 : List Stmt) (c20 : Scope) (_ : PG.theDef (Str.ofString "_law_is_heap") = some (p20, b20, c20)) (p21 : Arguments) (b21 : List Stmt) (c21 : Scope) (_ : PG.theDef (Str.ofString "_law_taken") = some (p21, b21, c21)) (p22 : Arguments) (b22 : List Stmt) (c22 : Scope) (_ : PG.theDef (Str.ofString "law") = some (p22, b22, c22)) => fun (P : Params) => (
    (nat_lit 2, Obj.mk Value.none none (Data.dict #[DictEntry.mk (PyData.keyHash P (Str.ofString "type.__subclasses__.Exception.0")) (Value.str (Str.ofString "type.__subclasses__.Exception.0") 223) (Value.int 34 0), DictEntry.mk (PyData.keyHash P (Str.ofString "type.__subclasses__.Exception.n")) (Value.str (Str.ofString "type.__subclasses__.Exception.n") 224) (Value.int 1 0)] 2) #[]) ::
    (nat_lit 3, Obj.mk (Value.type "dict") none (Data.dict #[DictEntry.mk (PyData.keyHash P (Str.ofString "__name__")) (Value.str (Str.ofString "__name__") 165) (Value.str (Str.ofString "law_xm0066_01") 631), DictEntry.mk (PyData.keyHash P (Str.ofString "__doc__")) (Value.str (Str.ofString "__doc__") 166) Value.none, DictEntry.mk (PyData.keyHash P (Str.ofString "__package__")) (Value.str (Str.ofString "__package__") 167) Value.none, DictEntry.mk (PyData.keyHash P (Str.ofString "__loader__")) (Value.str (Str.ofString "__loader__") 168) (Value.builtin "__main__.__loader__#opaque"), DictEntry.mk (PyData.keyHash P (Str.ofString "__spec__")) (Value.str (Str.ofString "__spec__") 169) Value.none, DictEntry.mk (PyData.keyHash P (Str.ofString "__annotations__")) (Value.str (Str.ofString "__annotations__") 170) (Value.ref 6), DictEntry.mk (PyData.keyHash P (Str.ofString "__builtins__")) (Value.str (Str.ofString "__builtins__") 171) (Value.ref 4), DictEntry.mk (PyData.keyHash P (Str.ofString "__file__")) (Value.str (Str.ofString "__file__") 173) (Value.str (Str.ofString "/claim/cut.py") 172), DictEntry.mk (PyData.keyHash P (Str.ofString "__cached__")) (Value.str (Str.ofString "__cached__") 174) Value.none, DictEntry.mk (PyData.keyHash P (Str.ofString "MOST_TEXT")) (Value.str (Str.ofString "MOST_TEXT") 190) (Value.int 255 189), DictEntry.mk (PyData.keyHash P (Str.ofString "MOST_EXPONENT")) (Value.str (Str.ofString "MOST_EXPONENT") 192) (Value.int 99 191), DictEntry.mk (PyData.keyHash P (Str.ofString "BasicError")) (Value.str (Str.ofString "BasicError") 226) (Value.ref 34), DictEntry.mk (PyData.keyHash P (Str.ofString "kind_of")) (Value.str (Str.ofString "kind_of") 233) (Value.ref 44), DictEntry.mk (PyData.keyHash P (Str.ofString "figures_of")) (Value.str (Str.ofString "figures_of") 242) (Value.ref 51), DictEntry.mk (PyData.keyHash P (Str.ofString "rounded_by")) (Value.str (Str.ofString "rounded_by") 253) (Value.ref 58), DictEntry.mk (PyData.keyHash P (Str.ofString "made")) (Value.str (Str.ofString "made") 265) (Value.ref 65), DictEntry.mk (PyData.keyHash P (Str.ofString "whole_near")) (Value.str (Str.ofString "whole_near") 275) (Value.ref 72), DictEntry.mk (PyData.keyHash P (Str.ofString "fits")) (Value.str (Str.ofString "fits") 283) (Value.ref 79), DictEntry.mk (PyData.keyHash P (Str.ofString "whole_of")) (Value.str (Str.ofString "whole_of") 292) (Value.ref 86), DictEntry.mk (PyData.keyHash P (Str.ofString "decimal_of")) (Value.str (Str.ofString "decimal_of") 300) (Value.ref 93), DictEntry.mk (PyData.keyHash P (Str.ofString "text_of")) (Value.str (Str.ofString "text_of") 307) (Value.ref 100), DictEntry.mk (PyData.keyHash P (Str.ofString "checked_text")) (Value.str (Str.ofString "checked_text") 314) (Value.ref 107), DictEntry.mk (PyData.keyHash P (Str.ofString "truth")) (Value.str (Str.ofString "truth") 321) (Value.ref 114), DictEntry.mk (PyData.keyHash P (Str.ofString "ONE")) (Value.str (Str.ofString "ONE") 326) (Value.ref 115), DictEntry.mk (PyData.keyHash P (Str.ofString "MOST_POWER")) (Value.str (Str.ofString "MOST_POWER") 328) (Value.int 9999 327), DictEntry.mk (PyData.keyHash P (Str.ofString "d_negated")) (Value.str (Str.ofString "d_negated") 335) (Value.ref 122), DictEntry.mk (PyData.keyHash P (Str.ofString "alike")) (Value.str (Str.ofString "alike") 344) (Value.ref 129), DictEntry.mk (PyData.keyHash P (Str.ofString "d_add")) (Value.str (Str.ofString "d_add") 356) (Value.ref 136), DictEntry.mk (PyData.keyHash P (Str.ofString "d_sub")) (Value.str (Str.ofString "d_sub") 365) (Value.ref 143), DictEntry.mk (PyData.keyHash P (Str.ofString "d_mul")) (Value.str (Str.ofString "d_mul") 374) (Value.ref 150), DictEntry.mk (PyData.keyHash P (Str.ofString "with_rest")) (Value.str (Str.ofString "with_rest") 383) (Value.ref 157), DictEntry.mk (PyData.keyHash P (Str.ofString "d_div")) (Value.str (Str.ofString "d_div") 397) (Value.ref 164), DictEntry.mk (PyData.keyHash P (Str.ofString "d_compare")) (Value.str (Str.ofString "d_compare") 408) (Value.ref 171), DictEntry.mk (PyData.keyHash P (Str.ofString "d_power")) (Value.str (Str.ofString "d_power") 420) (Value.ref 178), DictEntry.mk (PyData.keyHash P (Str.ofString "square_or_end")) (Value.str (Str.ofString "square_or_end") 428) (Value.ref 185), DictEntry.mk (PyData.keyHash P (Str.ofString "is_whole")) (Value.str (Str.ofString "is_whole") 437) (Value.ref 192), DictEntry.mk (PyData.keyHash P (Str.ofString "settled")) (Value.str (Str.ofString "settled") 446) (Value.ref 199), DictEntry.mk (PyData.keyHash P (Str.ofString "whole_reckoned")) (Value.str (Str.ofString "whole_reckoned") 457) (Value.ref 206), DictEntry.mk (PyData.keyHash P (Str.ofString "cut_quotient")) (Value.str (Str.ofString "cut_quotient") 466) (Value.ref 213), DictEntry.mk (PyData.keyHash P (Str.ofString "cut_rest")) (Value.str (Str.ofString "cut_rest") 474) (Value.ref 220), DictEntry.mk (PyData.keyHash P (Str.ofString "exponent_of")) (Value.str (Str.ofString "exponent_of") 481) (Value.ref 227), DictEntry.mk (PyData.keyHash P (Str.ofString "whole_power")) (Value.str (Str.ofString "whole_power") 491) (Value.ref 234), DictEntry.mk (PyData.keyHash P (Str.ofString "raised")) (Value.str (Str.ofString "raised") 502) (Value.ref 241), DictEntry.mk (PyData.keyHash P (Str.ofString "reckoned")) (Value.str (Str.ofString "reckoned") 518) (Value.ref 248), DictEntry.mk (PyData.keyHash P (Str.ofString "order_of")) (Value.str (Str.ofString "order_of") 526) (Value.ref 255), DictEntry.mk (PyData.keyHash P (Str.ofString "logic")) (Value.str (Str.ofString "logic") 538) (Value.ref 262), DictEntry.mk (PyData.keyHash P (Str.ofString "LOGIC")) (Value.str (Str.ofString "LOGIC") 546) (Value.ref 263), DictEntry.mk (PyData.keyHash P (Str.ofString "COMPARISONS")) (Value.str (Str.ofString "COMPARISONS") 553) (Value.ref 264), DictEntry.mk (PyData.keyHash P (Str.ofString "order_of_texts")) (Value.str (Str.ofString "order_of_texts") 561) (Value.ref 271), DictEntry.mk (PyData.keyHash P (Str.ofString "compared")) (Value.str (Str.ofString "compared") 569) (Value.ref 278), DictEntry.mk (PyData.keyHash P (Str.ofString "worth_of_texts")) (Value.str (Str.ofString "worth_of_texts") 578) (Value.ref 285), DictEntry.mk (PyData.keyHash P (Str.ofString "worth_of_two")) (Value.str (Str.ofString "worth_of_two") 584) (Value.ref 290), DictEntry.mk (PyData.keyHash P (Str.ofString "size_told")) (Value.str (Str.ofString "size_told") 594) (Value.ref 297), DictEntry.mk (PyData.keyHash P (Str.ofString "place_told")) (Value.str (Str.ofString "place_told") 602) (Value.ref 304), DictEntry.mk (PyData.keyHash P (Str.ofString "text_left")) (Value.str (Str.ofString "text_left") 611) (Value.ref 311), DictEntry.mk (PyData.keyHash P (Str.ofString "text_mid")) (Value.str (Str.ofString "text_mid") 622) (Value.ref 318), DictEntry.mk (PyData.keyHash P (Str.ofString "text_joined")) (Value.str (Str.ofString "text_joined") 630) (Value.ref 325), DictEntry.mk (PyData.keyHash P (Str.ofString "_law_draw")) (Value.str (Str.ofString "_law_draw") 641) (Value.ref 332), DictEntry.mk (PyData.keyHash P (Str.ofString "_law_sign")) (Value.str (Str.ofString "_law_sign") 649) (Value.ref 339), DictEntry.mk (PyData.keyHash P (Str.ofString "_law_less")) (Value.str (Str.ofString "_law_less") 658) (Value.ref 346), DictEntry.mk (PyData.keyHash P (Str.ofString "_law_put")) (Value.str (Str.ofString "_law_put") 667) (Value.ref 353), DictEntry.mk (PyData.keyHash P (Str.ofString "_law_exchanged")) (Value.str (Str.ofString "_law_exchanged") 676) (Value.ref 360), DictEntry.mk (PyData.keyHash P (Str.ofString "_law_up")) (Value.str (Str.ofString "_law_up") 684) (Value.ref 367), DictEntry.mk (PyData.keyHash P (Str.ofString "_law_down")) (Value.str (Str.ofString "_law_down") 693) (Value.ref 374), DictEntry.mk (PyData.keyHash P (Str.ofString "_law_is_heap")) (Value.str (Str.ofString "_law_is_heap") 699) (Value.ref 379), DictEntry.mk (PyData.keyHash P (Str.ofString "_law_taken")) (Value.str (Str.ofString "_law_taken") 707) (Value.ref 386), DictEntry.mk (PyData.keyHash P (Str.ofString "law")) (Value.str (Str.ofString "law") 713) (Value.ref 391)] 67) #[]) ::
    (nat_lit 15, Obj.mk (Value.type "tuple") none (Data.seq #[Value.type "Exception"]) #[]) ::
    (nat_lit 18, Obj.mk (Value.type "cell") none (Data.cell (some (Value.ref 34))) #[]) ::
    (nat_lit 23, Obj.mk (Value.type "tuple") none (Data.seq #[Value.str (Str.ofString "") 205]) #[]) ::
    (nat_lit 24, Obj.mk (Value.type "tuple") none (Data.seq #[Value.ref 18]) #[]) ::
    (nat_lit 25, Obj.mk (Value.type "tuple") none (Data.seq #[Value.str (Str.ofString "__class__") 209]) #[]) ::
    (nat_lit 27, Obj.mk (Value.type "tuple") none (Data.seq #[Value.str (Str.ofString "self") 210, Value.str (Str.ofString "code") 211, Value.str (Str.ofString "told") 212]) #[]) ::
    (nat_lit 28, Obj.mk (Value.type "tuple") none (Data.seq #[]) #[]) ::
    (nat_lit 30, Obj.mk (Value.type "code") none (Data.fields #[Value.str (Str.ofString "__init__") 206, Value.str (Str.ofString "BasicError.__init__") 207, Value.str (Str.ofString "/claim/cut.py") 208, Value.int 6 0, Value.int 3 0, Value.int 0 0, Value.int 0 0, Value.int 3 0, Value.ref 25, Value.bool true, Value.int 181 0, Value.ref 26, Value.none, Value.ref 27, Value.ref 28, Value.ref 29, Value.int 213 0, Value.int 6 0, Value.str (Str.ofString "/claim/cut.py") 214]) #[]) ::
    (nat_lit 32, Obj.mk (Value.type "tuple") none (Data.seq #[Value.str (Str.ofString "code") 216, Value.str (Str.ofString "told") 217]) #[]) ::
    (nat_lit 33, Obj.mk (Value.type "dict") none (Data.dict #[DictEntry.mk (PyData.keyHash P (Str.ofString "__module__")) (Value.str (Str.ofString "__module__") 200) (Value.str (Str.ofString "basicplus.values") 187), DictEntry.mk (PyData.keyHash P (Str.ofString "__firstlineno__")) (Value.str (Str.ofString "__firstlineno__") 204) (Value.int 4 203), DictEntry.mk (PyData.keyHash P (Str.ofString "__init__")) (Value.str (Str.ofString "__init__") 215) (Value.ref 31), DictEntry.mk (PyData.keyHash P (Str.ofString "__static_attributes__")) (Value.str (Str.ofString "__static_attributes__") 218) (Value.ref 32), DictEntry.mk (PyData.keyHash P (Str.ofString "__weakref__")) (Value.str (Str.ofString "__weakref__") 221) (Value.ref 35), DictEntry.mk (PyData.keyHash P (Str.ofString "__doc__")) (Value.str (Str.ofString "__doc__") 222) Value.none] 4) #[]) ::
    (nat_lit 34, Obj.mk (Value.type "type") none (Data.cls (ClassData.mk (Str.ofString "BasicError") [Value.type "Exception"] [Value.ref 34, Value.type "Exception", Value.type "BaseException", Value.type "object"] 33 (Str.ofString "BasicError") true [] [] false none false)) #[some (Value.ref 15), none, some (Value.str (Str.ofString "BasicError") 193), some (Value.str (Str.ofString "BasicError") 201), some (Value.builtin "Exception.__new__"), some (Value.bool true)]) ::
    (nat_lit 35, Obj.mk (Value.type "getset_descriptor") none (Data.fields #[Value.str (Str.ofString "__weakref__") 220, Value.ref 34, Value.builtin "ExceptionGroup.__weakref__", Value.none]) #[]) ::
    (nat_lit 38, Obj.mk (Value.type "tuple") none (Data.seq #[]) #[]) ::
    (nat_lit 40, Obj.mk (Value.type "tuple") none (Data.seq #[Value.str (Str.ofString "value") 230]) #[]) ::
    (nat_lit 41, Obj.mk (Value.type "tuple") none (Data.seq #[]) #[]) ::
    (nat_lit 43, Obj.mk (Value.type "code") none (Data.fields #[Value.str (Str.ofString "kind_of") 227, Value.str (Str.ofString "kind_of") 228, Value.str (Str.ofString "/claim/cut.py") 229, Value.int 10 0, Value.int 1 0, Value.int 0 0, Value.int 0 0, Value.int 3 0, Value.ref 38, Value.bool true, Value.int 181 0, Value.ref 39, Value.none, Value.ref 40, Value.ref 41, Value.ref 42, Value.int 231 0, Value.int 10 0, Value.str (Str.ofString "/claim/cut.py") 232]) #[]) ::
    (nat_lit 44, Obj.mk (Value.type "function") none (Data.func (FuncData.mk (Str.ofString "kind_of") (Str.ofString "kind_of") p0 (FuncBody.stmts b0) c0 3 [] Value.none Value.none Value.none (Value.str (Str.ofString "basicplus.values") 187) none (Value.ref 43) Value.none 0)) #[]) ::
    (nat_lit 45, Obj.mk (Value.type "tuple") none (Data.seq #[]) #[]) ::
    (nat_lit 47, Obj.mk (Value.type "tuple") none (Data.seq #[Value.str (Str.ofString "number") 237, Value.str (Str.ofString "many") 238, Value.str (Str.ofString "bound") 239]) #[]) ::
    (nat_lit 48, Obj.mk (Value.type "tuple") none (Data.seq #[]) #[]) ::
    (nat_lit 50, Obj.mk (Value.type "code") none (Data.fields #[Value.str (Str.ofString "figures_of") 234, Value.str (Str.ofString "figures_of") 235, Value.str (Str.ofString "/claim/cut.py") 236, Value.int 14 0, Value.int 1 0, Value.int 0 0, Value.int 0 0, Value.int 3 0, Value.ref 45, Value.bool true, Value.int 181 0, Value.ref 46, Value.none, Value.ref 47, Value.ref 48, Value.ref 49, Value.int 240 0, Value.int 14 0, Value.str (Str.ofString "/claim/cut.py") 241]) #[]) ::
    (nat_lit 52, Obj.mk (Value.type "tuple") none (Data.seq #[]) #[]) ::
    (nat_lit 54, Obj.mk (Value.type "tuple") none (Data.seq #[Value.str (Str.ofString "number") 246, Value.str (Str.ofString "places") 247, Value.str (Str.ofString "unit") 248, Value.str (Str.ofString "found") 249, Value.str (Str.ofString "rest") 250]) #[]) ::
    (nat_lit 55, Obj.mk (Value.type "tuple") none (Data.seq #[]) #[]) ::
    (nat_lit 57, Obj.mk (Value.type "code") none (Data.fields #[Value.str (Str.ofString "rounded_by") 243, Value.str (Str.ofString "rounded_by") 244, Value.str (Str.ofString "/claim/cut.py") 245, Value.int 20 0, Value.int 2 0, Value.int 0 0, Value.int 0 0, Value.int 3 0, Value.ref 52, Value.bool true, Value.int 181 0, Value.ref 53, Value.none, Value.ref 54, Value.ref 55, Value.ref 56, Value.int 251 0, Value.int 20 0, Value.str (Str.ofString "/claim/cut.py") 252]) #[]) ::
    (nat_lit 59, Obj.mk (Value.type "tuple") none (Data.seq #[]) #[]) ::
    (nat_lit 61, Obj.mk (Value.type "tuple") none (Data.seq #[Value.str (Str.ofString "coefficient") 257, Value.str (Str.ofString "exponent") 258, Value.str (Str.ofString "digits") 259, Value.str (Str.ofString "size") 260, Value.str (Str.ofString "more") 261, Value.str (Str.ofString "first") 262]) #[]) ::
    (nat_lit 62, Obj.mk (Value.type "tuple") none (Data.seq #[]) #[]) ::
    (nat_lit 64, Obj.mk (Value.type "code") none (Data.fields #[Value.str (Str.ofString "made") 254, Value.str (Str.ofString "made") 255, Value.str (Str.ofString "/claim/cut.py") 256, Value.int 30 0, Value.int 3 0, Value.int 0 0, Value.int 0 0, Value.int 3 0, Value.ref 59, Value.bool true, Value.int 181 0, Value.ref 60, Value.none, Value.ref 61, Value.ref 62, Value.ref 63, Value.int 263 0, Value.int 30 0, Value.str (Str.ofString "/claim/cut.py") 264]) #[]) ::
    (nat_lit 66, Obj.mk (Value.type "tuple") none (Data.seq #[]) #[]) ::
    (nat_lit 68, Obj.mk (Value.type "tuple") none (Data.seq #[Value.str (Str.ofString "value") 269, Value.str (Str.ofString "coefficient") 270, Value.str (Str.ofString "exponent") 271, Value.str (Str.ofString "size") 272]) #[]) ::
    (nat_lit 69, Obj.mk (Value.type "tuple") none (Data.seq #[]) #[]) ::
    (nat_lit 71, Obj.mk (Value.type "code") none (Data.fields #[Value.str (Str.ofString "whole_near") 266, Value.str (Str.ofString "whole_near") 267, Value.str (Str.ofString "/claim/cut.py") 268, Value.int 45 0, Value.int 1 0, Value.int 0 0, Value.int 0 0, Value.int 3 0, Value.ref 66, Value.bool true, Value.int 181 0, Value.ref 67, Value.none, Value.ref 68, Value.ref 69, Value.ref 70, Value.int 273 0, Value.int 45 0, Value.str (Str.ofString "/claim/cut.py") 274]) #[]) ::
    (nat_lit 73, Obj.mk (Value.type "tuple") none (Data.seq #[]) #[]) ::
    (nat_lit 75, Obj.mk (Value.type "tuple") none (Data.seq #[Value.str (Str.ofString "number") 279, Value.str (Str.ofString "bits") 280]) #[]) ::
    (nat_lit 76, Obj.mk (Value.type "tuple") none (Data.seq #[]) #[]) ::
    (nat_lit 78, Obj.mk (Value.type "code") none (Data.fields #[Value.str (Str.ofString "fits") 276, Value.str (Str.ofString "fits") 277, Value.str (Str.ofString "/claim/cut.py") 278, Value.int 51 0, Value.int 2 0, Value.int 0 0, Value.int 0 0, Value.int 3 0, Value.ref 73, Value.bool true, Value.int 181 0, Value.ref 74, Value.none, Value.ref 75, Value.ref 76, Value.ref 77, Value.int 281 0, Value.int 51 0, Value.str (Str.ofString "/claim/cut.py") 282]) #[]) ::
    (nat_lit 80, Obj.mk (Value.type "tuple") none (Data.seq #[]) #[]) ::
    (nat_lit 82, Obj.mk (Value.type "tuple") none (Data.seq #[Value.str (Str.ofString "value") 287, Value.str (Str.ofString "bits") 288, Value.str (Str.ofString "number") 289]) #[]) ::
    (nat_lit 83, Obj.mk (Value.type "tuple") none (Data.seq #[]) #[]) ::
    (nat_lit 85, Obj.mk (Value.type "code") none (Data.fields #[Value.str (Str.ofString "whole_of") 284, Value.str (Str.ofString "whole_of") 285, Value.str (Str.ofString "/claim/cut.py") 286, Value.int 53 0, Value.int 2 0, Value.int 0 0, Value.int 0 0, Value.int 3 0, Value.ref 80, Value.bool true, Value.int 181 0, Value.ref 81, Value.none, Value.ref 82, Value.ref 83, Value.ref 84, Value.int 290 0, Value.int 53 0, Value.str (Str.ofString "/claim/cut.py") 291]) #[]) ::
    (nat_lit 87, Obj.mk (Value.type "tuple") none (Data.seq #[]) #[]) ::
    (nat_lit 89, Obj.mk (Value.type "tuple") none (Data.seq #[Value.str (Str.ofString "value") 296, Value.str (Str.ofString "digits") 297]) #[]) ::
    (nat_lit 90, Obj.mk (Value.type "tuple") none (Data.seq #[]) #[]) ::
    (nat_lit 92, Obj.mk (Value.type "code") none (Data.fields #[Value.str (Str.ofString "decimal_of") 293, Value.str (Str.ofString "decimal_of") 294, Value.str (Str.ofString "/claim/cut.py") 295, Value.int 60 0, Value.int 2 0, Value.int 0 0, Value.int 0 0, Value.int 3 0, Value.ref 87, Value.bool true, Value.int 181 0, Value.ref 88, Value.none, Value.ref 89, Value.ref 90, Value.ref 91, Value.int 298 0, Value.int 60 0, Value.str (Str.ofString "/claim/cut.py") 299]) #[]) ::
    (nat_lit 94, Obj.mk (Value.type "tuple") none (Data.seq #[]) #[]) ::
    (nat_lit 96, Obj.mk (Value.type "tuple") none (Data.seq #[Value.str (Str.ofString "value") 304]) #[]) ::
    (nat_lit 97, Obj.mk (Value.type "tuple") none (Data.seq #[]) #[]) ::
    (nat_lit 99, Obj.mk (Value.type "code") none (Data.fields #[Value.str (Str.ofString "text_of") 301, Value.str (Str.ofString "text_of") 302, Value.str (Str.ofString "/claim/cut.py") 303, Value.int 64 0, Value.int 1 0, Value.int 0 0, Value.int 0 0, Value.int 3 0, Value.ref 94, Value.bool true, Value.int 181 0, Value.ref 95, Value.none, Value.ref 96, Value.ref 97, Value.ref 98, Value.int 305 0, Value.int 64 0, Value.str (Str.ofString "/claim/cut.py") 306]) #[]) ::
    (nat_lit 100, Obj.mk (Value.type "function") none (Data.func (FuncData.mk (Str.ofString "text_of") (Str.ofString "text_of") p1 (FuncBody.stmts b1) c1 3 [] Value.none Value.none Value.none (Value.str (Str.ofString "basicplus.values") 187) none (Value.ref 99) Value.none 0)) #[]) ::
    (nat_lit 101, Obj.mk (Value.type "tuple") none (Data.seq #[]) #[]) ::
    (nat_lit 103, Obj.mk (Value.type "tuple") none (Data.seq #[Value.str (Str.ofString "text") 311]) #[]) ::
    (nat_lit 104, Obj.mk (Value.type "tuple") none (Data.seq #[]) #[]) ::
    (nat_lit 106, Obj.mk (Value.type "code") none (Data.fields #[Value.str (Str.ofString "checked_text") 308, Value.str (Str.ofString "checked_text") 309, Value.str (Str.ofString "/claim/cut.py") 310, Value.int 68 0, Value.int 1 0, Value.int 0 0, Value.int 0 0, Value.int 3 0, Value.ref 101, Value.bool true, Value.int 181 0, Value.ref 102, Value.none, Value.ref 103, Value.ref 104, Value.ref 105, Value.int 312 0, Value.int 68 0, Value.str (Str.ofString "/claim/cut.py") 313]) #[]) ::
    (nat_lit 107, Obj.mk (Value.type "function") none (Data.func (FuncData.mk (Str.ofString "checked_text") (Str.ofString "checked_text") p2 (FuncBody.stmts b2) c2 3 [] Value.none Value.none Value.none (Value.str (Str.ofString "basicplus.values") 187) none (Value.ref 106) Value.none 0)) #[]) ::
    (nat_lit 108, Obj.mk (Value.type "tuple") none (Data.seq #[]) #[]) ::
    (nat_lit 110, Obj.mk (Value.type "tuple") none (Data.seq #[Value.str (Str.ofString "is_so") 318]) #[]) ::
    (nat_lit 111, Obj.mk (Value.type "tuple") none (Data.seq #[]) #[]) ::
    (nat_lit 113, Obj.mk (Value.type "code") none (Data.fields #[Value.str (Str.ofString "truth") 315, Value.str (Str.ofString "truth") 316, Value.str (Str.ofString "/claim/cut.py") 317, Value.int 72 0, Value.int 1 0, Value.int 0 0, Value.int 0 0, Value.int 3 0, Value.ref 108, Value.bool true, Value.int 181 0, Value.ref 109, Value.none, Value.ref 110, Value.ref 111, Value.ref 112, Value.int 319 0, Value.int 72 0, Value.str (Str.ofString "/claim/cut.py") 320]) #[]) ::
    (nat_lit 114, Obj.mk (Value.type "function") none (Data.func (FuncData.mk (Str.ofString "truth") (Str.ofString "truth") p3 (FuncBody.stmts b3) c3 3 [] Value.none Value.none Value.none (Value.str (Str.ofString "basicplus.values") 187) none (Value.ref 113) Value.none 0)) #[]) ::
    (nat_lit 115, Obj.mk (Value.type "tuple") none (Data.seq #[Value.int 1 324, Value.int 0 325]) #[]) ::
    (nat_lit 116, Obj.mk (Value.type "tuple") none (Data.seq #[]) #[]) ::
    (nat_lit 118, Obj.mk (Value.type "tuple") none (Data.seq #[Value.str (Str.ofString "a") 332]) #[]) ::
    (nat_lit 119, Obj.mk (Value.type "tuple") none (Data.seq #[]) #[]) ::
    (nat_lit 121, Obj.mk (Value.type "code") none (Data.fields #[Value.str (Str.ofString "d_negated") 329, Value.str (Str.ofString "d_negated") 330, Value.str (Str.ofString "/claim/cut.py") 331, Value.int 77 0, Value.int 1 0, Value.int 0 0, Value.int 0 0, Value.int 3 0, Value.ref 116, Value.bool true, Value.int 181 0, Value.ref 117, Value.none, Value.ref 118, Value.ref 119, Value.ref 120, Value.int 333 0, Value.int 77 0, Value.str (Str.ofString "/claim/cut.py") 334]) #[]) ::
    (nat_lit 123, Obj.mk (Value.type "tuple") none (Data.seq #[]) #[]) ::
    (nat_lit 125, Obj.mk (Value.type "tuple") none (Data.seq #[Value.str (Str.ofString "a") 339, Value.str (Str.ofString "b") 340, Value.str (Str.ofString "least") 341]) #[]) ::
    (nat_lit 126, Obj.mk (Value.type "tuple") none (Data.seq #[]) #[]) ::
    (nat_lit 128, Obj.mk (Value.type "code") none (Data.fields #[Value.str (Str.ofString "alike") 336, Value.str (Str.ofString "alike") 337, Value.str (Str.ofString "/claim/cut.py") 338, Value.int 79 0, Value.int 2 0, Value.int 0 0, Value.int 0 0, Value.int 3 0, Value.ref 123, Value.bool true, Value.int 181 0, Value.ref 124, Value.none, Value.ref 125, Value.ref 126, Value.ref 127, Value.int 342 0, Value.int 79 0, Value.str (Str.ofString "/claim/cut.py") 343]) #[]) ::
    (nat_lit 130, Obj.mk (Value.type "tuple") none (Data.seq #[]) #[]) ::
    (nat_lit 132, Obj.mk (Value.type "tuple") none (Data.seq #[Value.str (Str.ofString "a") 348, Value.str (Str.ofString "b") 349, Value.str (Str.ofString "digits") 350, Value.str (Str.ofString "one") 351, Value.str (Str.ofString "other") 352, Value.str (Str.ofString "exponent") 353]) #[]) ::
    (nat_lit 133, Obj.mk (Value.type "tuple") none (Data.seq #[]) #[]) ::
    (nat_lit 135, Obj.mk (Value.type "code") none (Data.fields #[Value.str (Str.ofString "d_add") 345, Value.str (Str.ofString "d_add") 346, Value.str (Str.ofString "/claim/cut.py") 347, Value.int 82 0, Value.int 3 0, Value.int 0 0, Value.int 0 0, Value.int 3 0, Value.ref 130, Value.bool true, Value.int 181 0, Value.ref 131, Value.none, Value.ref 132, Value.ref 133, Value.ref 134, Value.int 354 0, Value.int 82 0, Value.str (Str.ofString "/claim/cut.py") 355]) #[]) ::
    (nat_lit 137, Obj.mk (Value.type "tuple") none (Data.seq #[]) #[]) ::
    (nat_lit 139, Obj.mk (Value.type "tuple") none (Data.seq #[Value.str (Str.ofString "a") 360, Value.str (Str.ofString "b") 361, Value.str (Str.ofString "digits") 362]) #[]) ::
    (nat_lit 140, Obj.mk (Value.type "tuple") none (Data.seq #[]) #[]) ::
    (nat_lit 142, Obj.mk (Value.type "code") none (Data.fields #[Value.str (Str.ofString "d_sub") 357, Value.str (Str.ofString "d_sub") 358, Value.str (Str.ofString "/claim/cut.py") 359, Value.int 85 0, Value.int 3 0, Value.int 0 0, Value.int 0 0, Value.int 3 0, Value.ref 137, Value.bool true, Value.int 181 0, Value.ref 138, Value.none, Value.ref 139, Value.ref 140, Value.ref 141, Value.int 363 0, Value.int 85 0, Value.str (Str.ofString "/claim/cut.py") 364]) #[]) ::
    (nat_lit 144, Obj.mk (Value.type "tuple") none (Data.seq #[]) #[]) ::
    (nat_lit 146, Obj.mk (Value.type "tuple") none (Data.seq #[Value.str (Str.ofString "a") 369, Value.str (Str.ofString "b") 370, Value.str (Str.ofString "digits") 371]) #[]) ::
    (nat_lit 147, Obj.mk (Value.type "tuple") none (Data.seq #[]) #[]) ::
    (nat_lit 149, Obj.mk (Value.type "code") none (Data.fields #[Value.str (Str.ofString "d_mul") 366, Value.str (Str.ofString "d_mul") 367, Value.str (Str.ofString "/claim/cut.py") 368, Value.int 87 0, Value.int 3 0, Value.int 0 0, Value.int 0 0, Value.int 3 0, Value.ref 144, Value.bool true, Value.int 181 0, Value.ref 145, Value.none, Value.ref 146, Value.ref 147, Value.ref 148, Value.int 372 0, Value.int 87 0, Value.str (Str.ofString "/claim/cut.py") 373]) #[]) ::
    (nat_lit 151, Obj.mk (Value.type "tuple") none (Data.seq #[]) #[]) ::
    (nat_lit 153, Obj.mk (Value.type "tuple") none (Data.seq #[Value.str (Str.ofString "whole") 378, Value.str (Str.ofString "rest") 379, Value.str (Str.ofString "exponent") 380]) #[]) ::
    (nat_lit 154, Obj.mk (Value.type "tuple") none (Data.seq #[]) #[]) ::
    (nat_lit 156, Obj.mk (Value.type "code") none (Data.fields #[Value.str (Str.ofString "with_rest") 375, Value.str (Str.ofString "with_rest") 376, Value.str (Str.ofString "/claim/cut.py") 377, Value.int 89 0, Value.int 3 0, Value.int 0 0, Value.int 0 0, Value.int 3 0, Value.ref 151, Value.bool true, Value.int 181 0, Value.ref 152, Value.none, Value.ref 153, Value.ref 154, Value.ref 155, Value.int 381 0, Value.int 89 0, Value.str (Str.ofString "/claim/cut.py") 382]) #[]) ::
    (nat_lit 158, Obj.mk (Value.type "tuple") none (Data.seq #[]) #[]) ::
    (nat_lit 160, Obj.mk (Value.type "tuple") none (Data.seq #[Value.str (Str.ofString "a") 387, Value.str (Str.ofString "b") 388, Value.str (Str.ofString "digits") 389, Value.str (Str.ofString "size") 390, Value.str (Str.ofString "below") 391, Value.str (Str.ofString "places") 392, Value.str (Str.ofString "whole") 393, Value.str (Str.ofString "exponent") 394]) #[]) ::
    (nat_lit 161, Obj.mk (Value.type "tuple") none (Data.seq #[]) #[]) ::
    (nat_lit 163, Obj.mk (Value.type "code") none (Data.fields #[Value.str (Str.ofString "d_div") 384, Value.str (Str.ofString "d_div") 385, Value.str (Str.ofString "/claim/cut.py") 386, Value.int 91 0, Value.int 3 0, Value.int 0 0, Value.int 0 0, Value.int 3 0, Value.ref 158, Value.bool true, Value.int 181 0, Value.ref 159, Value.none, Value.ref 160, Value.ref 161, Value.ref 162, Value.int 395 0, Value.int 91 0, Value.str (Str.ofString "/claim/cut.py") 396]) #[]) ::
    (nat_lit 165, Obj.mk (Value.type "tuple") none (Data.seq #[]) #[]) ::
    (nat_lit 167, Obj.mk (Value.type "tuple") none (Data.seq #[Value.str (Str.ofString "a") 401, Value.str (Str.ofString "b") 402, Value.str (Str.ofString "one") 403, Value.str (Str.ofString "other") 404, Value.str (Str.ofString "exponent") 405]) #[]) ::
    (nat_lit 168, Obj.mk (Value.type "tuple") none (Data.seq #[]) #[]) ::
    (nat_lit 170, Obj.mk (Value.type "code") none (Data.fields #[Value.str (Str.ofString "d_compare") 398, Value.str (Str.ofString "d_compare") 399, Value.str (Str.ofString "/claim/cut.py") 400, Value.int 99 0, Value.int 2 0, Value.int 0 0, Value.int 0 0, Value.int 3 0, Value.ref 165, Value.bool true, Value.int 181 0, Value.ref 166, Value.none, Value.ref 167, Value.ref 168, Value.ref 169, Value.int 406 0, Value.int 99 0, Value.str (Str.ofString "/claim/cut.py") 407]) #[]) ::
    (nat_lit 172, Obj.mk (Value.type "tuple") none (Data.seq #[]) #[]) ::
    (nat_lit 174, Obj.mk (Value.type "tuple") none (Data.seq #[Value.str (Str.ofString "a") 412, Value.str (Str.ofString "n") 413, Value.str (Str.ofString "digits") 414, Value.str (Str.ofString "work") 415, Value.str (Str.ofString "found") 416, Value.str (Str.ofString "left") 417]) #[]) ::
    (nat_lit 175, Obj.mk (Value.type "tuple") none (Data.seq #[]) #[]) ::
    (nat_lit 177, Obj.mk (Value.type "code") none (Data.fields #[Value.str (Str.ofString "d_power") 409, Value.str (Str.ofString "d_power") 410, Value.str (Str.ofString "/claim/cut.py") 411, Value.int 102 0, Value.int 3 0, Value.int 0 0, Value.int 0 0, Value.int 3 0, Value.ref 172, Value.bool true, Value.int 181 0, Value.ref 173, Value.none, Value.ref 174, Value.ref 175, Value.ref 176, Value.int 418 0, Value.int 102 0, Value.str (Str.ofString "/claim/cut.py") 419]) #[]) ::
    (nat_lit 179, Obj.mk (Value.type "tuple") none (Data.seq #[]) #[]) ::
    (nat_lit 181, Obj.mk (Value.type "tuple") none (Data.seq #[Value.str (Str.ofString "a") 424, Value.str (Str.ofString "work") 425]) #[]) ::
    (nat_lit 182, Obj.mk (Value.type "tuple") none (Data.seq #[]) #[]) ::
    (nat_lit 184, Obj.mk (Value.type "code") none (Data.fields #[Value.str (Str.ofString "square_or_end") 421, Value.str (Str.ofString "square_or_end") 422, Value.str (Str.ofString "/claim/cut.py") 423, Value.int 116 0, Value.int 2 0, Value.int 0 0, Value.int 0 0, Value.int 3 0, Value.ref 179, Value.bool true, Value.int 181 0, Value.ref 180, Value.none, Value.ref 181, Value.ref 182, Value.ref 183, Value.int 426 0, Value.int 116 0, Value.str (Str.ofString "/claim/cut.py") 427]) #[]) ::
    (nat_lit 186, Obj.mk (Value.type "tuple") none (Data.seq #[]) #[]) ::
    (nat_lit 188, Obj.mk (Value.type "tuple") none (Data.seq #[Value.str (Str.ofString "value") 434]) #[]) ::
    (nat_lit 189, Obj.mk (Value.type "tuple") none (Data.seq #[]) #[]) ::
    (nat_lit 191, Obj.mk (Value.type "code") none (Data.fields #[Value.str (Str.ofString "is_whole") 431, Value.str (Str.ofString "is_whole") 432, Value.str (Str.ofString "/claim/cut.py") 433, Value.int 119 0, Value.int 1 0, Value.int 0 0, Value.int 0 0, Value.int 3 0, Value.ref 186, Value.bool true, Value.int 181 0, Value.ref 187, Value.none, Value.ref 188, Value.ref 189, Value.ref 190, Value.int 435 0, Value.int 119 0, Value.str (Str.ofString "/claim/cut.py") 436]) #[]) ::
    (nat_lit 193, Obj.mk (Value.type "tuple") none (Data.seq #[]) #[]) ::
    (nat_lit 195, Obj.mk (Value.type "tuple") none (Data.seq #[Value.str (Str.ofString "number") 441, Value.str (Str.ofString "bits") 442, Value.str (Str.ofString "digits") 443]) #[]) ::
    (nat_lit 196, Obj.mk (Value.type "tuple") none (Data.seq #[]) #[]) ::
    (nat_lit 198, Obj.mk (Value.type "code") none (Data.fields #[Value.str (Str.ofString "settled") 438, Value.str (Str.ofString "settled") 439, Value.str (Str.ofString "/claim/cut.py") 440, Value.int 123 0, Value.int 3 0, Value.int 0 0, Value.int 0 0, Value.int 3 0, Value.ref 193, Value.bool true, Value.int 181 0, Value.ref 194, Value.none, Value.ref 195, Value.ref 196, Value.ref 197, Value.int 444 0, Value.int 123 0, Value.str (Str.ofString "/claim/cut.py") 445]) #[]) ::
    (nat_lit 200, Obj.mk (Value.type "tuple") none (Data.seq #[]) #[]) ::
    (nat_lit 202, Obj.mk (Value.type "tuple") none (Data.seq #[Value.str (Str.ofString "op") 450, Value.str (Str.ofString "a") 451, Value.str (Str.ofString "b") 452, Value.str (Str.ofString "bits") 453, Value.str (Str.ofString "digits") 454]) #[]) ::
    (nat_lit 203, Obj.mk (Value.type "tuple") none (Data.seq #[]) #[]) ::
    (nat_lit 205, Obj.mk (Value.type "code") none (Data.fields #[Value.str (Str.ofString "whole_reckoned") 447, Value.str (Str.ofString "whole_reckoned") 448, Value.str (Str.ofString "/claim/cut.py") 449, Value.int 125 0, Value.int 5 0, Value.int 0 0, Value.int 0 0, Value.int 3 0, Value.ref 200, Value.bool true, Value.int 181 0, Value.ref 201, Value.none, Value.ref 202, Value.ref 203, Value.ref 204, Value.int 455 0, Value.int 125 0, Value.str (Str.ofString "/claim/cut.py") 456]) #[]) ::
    (nat_lit 207, Obj.mk (Value.type "tuple") none (Data.seq #[]) #[]) ::
    (nat_lit 209, Obj.mk (Value.type "tuple") none (Data.seq #[Value.str (Str.ofString "a") 461, Value.str (Str.ofString "b") 462, Value.str (Str.ofString "found") 463]) #[]) ::
    (nat_lit 210, Obj.mk (Value.type "tuple") none (Data.seq #[]) #[]) ::
    (nat_lit 212, Obj.mk (Value.type "code") none (Data.fields #[Value.str (Str.ofString "cut_quotient") 458, Value.str (Str.ofString "cut_quotient") 459, Value.str (Str.ofString "/claim/cut.py") 460, Value.int 129 0, Value.int 2 0, Value.int 0 0, Value.int 0 0, Value.int 3 0, Value.ref 207, Value.bool true, Value.int 181 0, Value.ref 208, Value.none, Value.ref 209, Value.ref 210, Value.ref 211, Value.int 464 0, Value.int 129 0, Value.str (Str.ofString "/claim/cut.py") 465]) #[]) ::
    (nat_lit 214, Obj.mk (Value.type "tuple") none (Data.seq #[]) #[]) ::
    (nat_lit 216, Obj.mk (Value.type "tuple") none (Data.seq #[Value.str (Str.ofString "a") 470, Value.str (Str.ofString "b") 471]) #[]) ::
    (nat_lit 217, Obj.mk (Value.type "tuple") none (Data.seq #[]) #[]) ::
    (nat_lit 219, Obj.mk (Value.type "code") none (Data.fields #[Value.str (Str.ofString "cut_rest") 467, Value.str (Str.ofString "cut_rest") 468, Value.str (Str.ofString "/claim/cut.py") 469, Value.int 134 0, Value.int 2 0, Value.int 0 0, Value.int 0 0, Value.int 3 0, Value.ref 214, Value.bool true, Value.int 181 0, Value.ref 215, Value.none, Value.ref 216, Value.ref 217, Value.ref 218, Value.int 472 0, Value.int 134 0, Value.str (Str.ofString "/claim/cut.py") 473]) #[]) ::
    (nat_lit 221, Obj.mk (Value.type "tuple") none (Data.seq #[]) #[]) ::
    (nat_lit 223, Obj.mk (Value.type "tuple") none (Data.seq #[Value.str (Str.ofString "value") 478]) #[]) ::
    (nat_lit 224, Obj.mk (Value.type "tuple") none (Data.seq #[]) #[]) ::
    (nat_lit 226, Obj.mk (Value.type "code") none (Data.fields #[Value.str (Str.ofString "exponent_of") 475, Value.str (Str.ofString "exponent_of") 476, Value.str (Str.ofString "/claim/cut.py") 477, Value.int 136 0, Value.int 1 0, Value.int 0 0, Value.int 0 0, Value.int 3 0, Value.ref 221, Value.bool true, Value.int 181 0, Value.ref 222, Value.none, Value.ref 223, Value.ref 224, Value.ref 225, Value.int 479 0, Value.int 136 0, Value.str (Str.ofString "/claim/cut.py") 480]) #[]) ::
    (nat_lit 228, Obj.mk (Value.type "tuple") none (Data.seq #[]) #[]) ::
    (nat_lit 230, Obj.mk (Value.type "tuple") none (Data.seq #[Value.str (Str.ofString "a") 485, Value.str (Str.ofString "n") 486, Value.str (Str.ofString "bits") 487, Value.str (Str.ofString "digits") 488]) #[]) ::
    (nat_lit 231, Obj.mk (Value.type "tuple") none (Data.seq #[]) #[]) ::
    (nat_lit 233, Obj.mk (Value.type "code") none (Data.fields #[Value.str (Str.ofString "whole_power") 482, Value.str (Str.ofString "whole_power") 483, Value.str (Str.ofString "/claim/cut.py") 484, Value.int 142 0, Value.int 4 0, Value.int 0 0, Value.int 0 0, Value.int 3 0, Value.ref 228, Value.bool true, Value.int 181 0, Value.ref 229, Value.none, Value.ref 230, Value.ref 231, Value.ref 232, Value.int 489 0, Value.int 142 0, Value.str (Str.ofString "/claim/cut.py") 490]) #[]) ::
    (nat_lit 235, Obj.mk (Value.type "tuple") none (Data.seq #[]) #[]) ::
    (nat_lit 237, Obj.mk (Value.type "tuple") none (Data.seq #[Value.str (Str.ofString "a") 495, Value.str (Str.ofString "b") 496, Value.str (Str.ofString "bits") 497, Value.str (Str.ofString "digits") 498, Value.str (Str.ofString "n") 499]) #[]) ::
    (nat_lit 238, Obj.mk (Value.type "tuple") none (Data.seq #[]) #[]) ::
    (nat_lit 240, Obj.mk (Value.type "code") none (Data.fields #[Value.str (Str.ofString "raised") 492, Value.str (Str.ofString "raised") 493, Value.str (Str.ofString "/claim/cut.py") 494, Value.int 148 0, Value.int 4 0, Value.int 0 0, Value.int 0 0, Value.int 3 0, Value.ref 235, Value.bool true, Value.int 181 0, Value.ref 236, Value.none, Value.ref 237, Value.ref 238, Value.ref 239, Value.int 500 0, Value.int 148 0, Value.str (Str.ofString "/claim/cut.py") 501]) #[]) ::
    (nat_lit 242, Obj.mk (Value.type "tuple") none (Data.seq #[]) #[]) ::
    (nat_lit 244, Obj.mk (Value.type "tuple") none (Data.seq #[Value.str (Str.ofString "op") 506, Value.str (Str.ofString "a") 507, Value.str (Str.ofString "b") 508, Value.str (Str.ofString "bits") 509, Value.str (Str.ofString "digits") 510, Value.str (Str.ofString "is_first") 511, Value.str (Str.ofString "is_second") 512, Value.str (Str.ofString "work") 513, Value.str (Str.ofString "one") 514, Value.str (Str.ofString "other") 515]) #[]) ::
    (nat_lit 245, Obj.mk (Value.type "tuple") none (Data.seq #[]) #[]) ::
    (nat_lit 247, Obj.mk (Value.type "code") none (Data.fields #[Value.str (Str.ofString "reckoned") 503, Value.str (Str.ofString "reckoned") 504, Value.str (Str.ofString "/claim/cut.py") 505, Value.int 153 0, Value.int 5 0, Value.int 0 0, Value.int 0 0, Value.int 3 0, Value.ref 242, Value.bool true, Value.int 181 0, Value.ref 243, Value.none, Value.ref 244, Value.ref 245, Value.ref 246, Value.int 516 0, Value.int 153 0, Value.str (Str.ofString "/claim/cut.py") 517]) #[]) ::
    (nat_lit 249, Obj.mk (Value.type "tuple") none (Data.seq #[]) #[]) ::
    (nat_lit 251, Obj.mk (Value.type "tuple") none (Data.seq #[Value.str (Str.ofString "a") 522, Value.str (Str.ofString "b") 523]) #[]) ::
    (nat_lit 252, Obj.mk (Value.type "tuple") none (Data.seq #[]) #[]) ::
    (nat_lit 254, Obj.mk (Value.type "code") none (Data.fields #[Value.str (Str.ofString "order_of") 519, Value.str (Str.ofString "order_of") 520, Value.str (Str.ofString "/claim/cut.py") 521, Value.int 168 0, Value.int 2 0, Value.int 0 0, Value.int 0 0, Value.int 3 0, Value.ref 249, Value.bool true, Value.int 181 0, Value.ref 250, Value.none, Value.ref 251, Value.ref 252, Value.ref 253, Value.int 524 0, Value.int 168 0, Value.str (Str.ofString "/claim/cut.py") 525]) #[]) ::
    (nat_lit 256, Obj.mk (Value.type "tuple") none (Data.seq #[]) #[]) ::
    (nat_lit 258, Obj.mk (Value.type "tuple") none (Data.seq #[Value.str (Str.ofString "op") 530, Value.str (Str.ofString "a") 531, Value.str (Str.ofString "b") 532, Value.str (Str.ofString "bits") 533, Value.str (Str.ofString "one") 534, Value.str (Str.ofString "other") 535]) #[]) ::
    (nat_lit 259, Obj.mk (Value.type "tuple") none (Data.seq #[]) #[]) ::
    (nat_lit 261, Obj.mk (Value.type "code") none (Data.fields #[Value.str (Str.ofString "logic") 527, Value.str (Str.ofString "logic") 528, Value.str (Str.ofString "/claim/cut.py") 529, Value.int 174 0, Value.int 4 0, Value.int 0 0, Value.int 0 0, Value.int 3 0, Value.ref 256, Value.bool true, Value.int 181 0, Value.ref 257, Value.none, Value.ref 258, Value.ref 259, Value.ref 260, Value.int 536 0, Value.int 174 0, Value.str (Str.ofString "/claim/cut.py") 537]) #[]) ::
    (nat_lit 263, Obj.mk (Value.type "tuple") none (Data.seq #[Value.str (Str.ofString "AND") 541, Value.str (Str.ofString "OR") 542, Value.str (Str.ofString "XOR") 543, Value.str (Str.ofString "EQV") 544, Value.str (Str.ofString "IMP") 545]) #[]) ::
    (nat_lit 264, Obj.mk (Value.type "tuple") none (Data.seq #[Value.str (Str.ofString "=") 547, Value.str (Str.ofString "<>") 548, Value.str (Str.ofString "<") 549, Value.str (Str.ofString ">") 550, Value.str (Str.ofString "<=") 551, Value.str (Str.ofString ">=") 552]) #[]) ::
    (nat_lit 265, Obj.mk (Value.type "tuple") none (Data.seq #[]) #[]) ::
    (nat_lit 267, Obj.mk (Value.type "tuple") none (Data.seq #[Value.str (Str.ofString "one") 557, Value.str (Str.ofString "other") 558]) #[]) ::
    (nat_lit 268, Obj.mk (Value.type "tuple") none (Data.seq #[]) #[]) ::
    (nat_lit 270, Obj.mk (Value.type "code") none (Data.fields #[Value.str (Str.ofString "order_of_texts") 554, Value.str (Str.ofString "order_of_texts") 555, Value.str (Str.ofString "/claim/cut.py") 556, Value.int 186 0, Value.int 2 0, Value.int 0 0, Value.int 0 0, Value.int 3 0, Value.ref 265, Value.bool true, Value.int 181 0, Value.ref 266, Value.none, Value.ref 267, Value.ref 268, Value.ref 269, Value.int 559 0, Value.int 186 0, Value.str (Str.ofString "/claim/cut.py") 560]) #[]) ::
    (nat_lit 271, Obj.mk (Value.type "function") none (Data.func (FuncData.mk (Str.ofString "order_of_texts") (Str.ofString "order_of_texts") p4 (FuncBody.stmts b4) c4 3 [] Value.none Value.none Value.none (Value.str (Str.ofString "basicplus.worth") 539) none (Value.ref 270) Value.none 0)) #[]) ::
    (nat_lit 272, Obj.mk (Value.type "tuple") none (Data.seq #[]) #[]) ::
    (nat_lit 274, Obj.mk (Value.type "tuple") none (Data.seq #[Value.str (Str.ofString "op") 565, Value.str (Str.ofString "order") 566]) #[]) ::
    (nat_lit 275, Obj.mk (Value.type "tuple") none (Data.seq #[]) #[]) ::
    (nat_lit 277, Obj.mk (Value.type "code") none (Data.fields #[Value.str (Str.ofString "compared") 562, Value.str (Str.ofString "compared") 563, Value.str (Str.ofString "/claim/cut.py") 564, Value.int 188 0, Value.int 2 0, Value.int 0 0, Value.int 0 0, Value.int 3 0, Value.ref 272, Value.bool true, Value.int 181 0, Value.ref 273, Value.none, Value.ref 274, Value.ref 275, Value.ref 276, Value.int 567 0, Value.int 188 0, Value.str (Str.ofString "/claim/cut.py") 568]) #[]) ::
    (nat_lit 278, Obj.mk (Value.type "function") none (Data.func (FuncData.mk (Str.ofString "compared") (Str.ofString "compared") p5 (FuncBody.stmts b5) c5 3 [] Value.none Value.none Value.none (Value.str (Str.ofString "basicplus.worth") 539) none (Value.ref 277) Value.none 0)) #[]) ::
    (nat_lit 279, Obj.mk (Value.type "tuple") none (Data.seq #[]) #[]) ::
    (nat_lit 281, Obj.mk (Value.type "tuple") none (Data.seq #[Value.str (Str.ofString "op") 573, Value.str (Str.ofString "one") 574, Value.str (Str.ofString "other") 575]) #[]) ::
    (nat_lit 282, Obj.mk (Value.type "tuple") none (Data.seq #[]) #[]) ::
    (nat_lit 284, Obj.mk (Value.type "code") none (Data.fields #[Value.str (Str.ofString "worth_of_texts") 570, Value.str (Str.ofString "worth_of_texts") 571, Value.str (Str.ofString "/claim/cut.py") 572, Value.int 194 0, Value.int 3 0, Value.int 0 0, Value.int 0 0, Value.int 3 0, Value.ref 279, Value.bool true, Value.int 181 0, Value.ref 280, Value.none, Value.ref 281, Value.ref 282, Value.ref 283, Value.int 576 0, Value.int 194 0, Value.str (Str.ofString "/claim/cut.py") 577]) #[]) ::
    (nat_lit 285, Obj.mk (Value.type "function") none (Data.func (FuncData.mk (Str.ofString "worth_of_texts") (Str.ofString "worth_of_texts") p6 (FuncBody.stmts b6) c6 3 [] Value.none Value.none Value.none (Value.str (Str.ofString "basicplus.worth") 539) none (Value.ref 284) Value.none 0)) #[]) ::
    (nat_lit 286, Obj.mk (Value.type "tuple") none (Data.seq #[]) #[]) ::
    (nat_lit 289, Obj.mk (Value.type "code") none (Data.fields #[Value.str (Str.ofString "worth_of_two") 579, Value.str (Str.ofString "worth_of_two") 580, Value.str (Str.ofString "/claim/cut.py") 581, Value.int 200 0, Value.int 5 0, Value.int 0 0, Value.int 0 0, Value.int 3 0, Value.ref 286, Value.bool true, Value.int 181 0, Value.ref 287, Value.none, Value.none, Value.none, Value.ref 288, Value.int 582 0, Value.int 200 0, Value.str (Str.ofString "/claim/cut.py") 583]) #[]) ::
    (nat_lit 290, Obj.mk (Value.type "function") none (Data.func (FuncData.mk (Str.ofString "worth_of_two") (Str.ofString "worth_of_two") p7 (FuncBody.stmts b7) c7 3 [] Value.none Value.none Value.none (Value.str (Str.ofString "basicplus.worth") 539) none (Value.ref 289) Value.none 0)) #[]) ::
    (nat_lit 291, Obj.mk (Value.type "tuple") none (Data.seq #[]) #[]) ::
    (nat_lit 293, Obj.mk (Value.type "tuple") none (Data.seq #[Value.str (Str.ofString "value") 590, Value.str (Str.ofString "number") 591]) #[]) ::
    (nat_lit 294, Obj.mk (Value.type "tuple") none (Data.seq #[]) #[]) ::
    (nat_lit 296, Obj.mk (Value.type "code") none (Data.fields #[Value.str (Str.ofString "size_told") 587, Value.str (Str.ofString "size_told") 588, Value.str (Str.ofString "/claim/cut.py") 589, Value.int 212 0, Value.int 1 0, Value.int 0 0, Value.int 0 0, Value.int 3 0, Value.ref 291, Value.bool true, Value.int 181 0, Value.ref 292, Value.none, Value.ref 293, Value.ref 294, Value.ref 295, Value.int 592 0, Value.int 212 0, Value.str (Str.ofString "/claim/cut.py") 593]) #[]) ::
    (nat_lit 297, Obj.mk (Value.type "function") none (Data.func (FuncData.mk (Str.ofString "size_told") (Str.ofString "size_told") p8 (FuncBody.stmts b8) c8 3 [] Value.none Value.none Value.none (Value.str (Str.ofString "basicplus.textfns") 585) none (Value.ref 296) Value.none 0)) #[]) ::
    (nat_lit 298, Obj.mk (Value.type "tuple") none (Data.seq #[]) #[]) ::
    (nat_lit 300, Obj.mk (Value.type "tuple") none (Data.seq #[Value.str (Str.ofString "value") 598, Value.str (Str.ofString "number") 599]) #[]) ::
    (nat_lit 301, Obj.mk (Value.type "tuple") none (Data.seq #[]) #[]) ::
    (nat_lit 303, Obj.mk (Value.type "code") none (Data.fields #[Value.str (Str.ofString "place_told") 595, Value.str (Str.ofString "place_told") 596, Value.str (Str.ofString "/claim/cut.py") 597, Value.int 219 0, Value.int 1 0, Value.int 0 0, Value.int 0 0, Value.int 3 0, Value.ref 298, Value.bool true, Value.int 181 0, Value.ref 299, Value.none, Value.ref 300, Value.ref 301, Value.ref 302, Value.int 600 0, Value.int 219 0, Value.str (Str.ofString "/claim/cut.py") 601]) #[]) ::
    (nat_lit 304, Obj.mk (Value.type "function") none (Data.func (FuncData.mk (Str.ofString "place_told") (Str.ofString "place_told") p9 (FuncBody.stmts b9) c9 3 [] Value.none Value.none Value.none (Value.str (Str.ofString "basicplus.textfns") 585) none (Value.ref 303) Value.none 0)) #[]) ::
    (nat_lit 305, Obj.mk (Value.type "tuple") none (Data.seq #[]) #[]) ::
    (nat_lit 307, Obj.mk (Value.type "tuple") none (Data.seq #[Value.str (Str.ofString "world") 606, Value.str (Str.ofString "args") 607, Value.str (Str.ofString "text") 608]) #[]) ::
    (nat_lit 308, Obj.mk (Value.type "tuple") none (Data.seq #[]) #[]) ::
    (nat_lit 310, Obj.mk (Value.type "code") none (Data.fields #[Value.str (Str.ofString "text_left") 603, Value.str (Str.ofString "text_left") 604, Value.str (Str.ofString "/claim/cut.py") 605, Value.int 224 0, Value.int 2 0, Value.int 0 0, Value.int 0 0, Value.int 3 0, Value.ref 305, Value.bool true, Value.int 181 0, Value.ref 306, Value.none, Value.ref 307, Value.ref 308, Value.ref 309, Value.int 609 0, Value.int 224 0, Value.str (Str.ofString "/claim/cut.py") 610]) #[]) ::
    (nat_lit 311, Obj.mk (Value.type "function") none (Data.func (FuncData.mk (Str.ofString "text_left") (Str.ofString "text_left") p10 (FuncBody.stmts b10) c10 3 [] Value.none Value.none Value.none (Value.str (Str.ofString "basicplus.textfns") 585) none (Value.ref 310) Value.none 0)) #[]) ::
    (nat_lit 312, Obj.mk (Value.type "tuple") none (Data.seq #[]) #[]) ::
    (nat_lit 314, Obj.mk (Value.type "tuple") none (Data.seq #[Value.str (Str.ofString "world") 615, Value.str (Str.ofString "args") 616, Value.str (Str.ofString "text") 617, Value.str (Str.ofString "begin") 618, Value.str (Str.ofString "many") 619]) #[]) ::
    (nat_lit 315, Obj.mk (Value.type "tuple") none (Data.seq #[]) #[]) ::
    (nat_lit 317, Obj.mk (Value.type "code") none (Data.fields #[Value.str (Str.ofString "text_mid") 612, Value.str (Str.ofString "text_mid") 613, Value.str (Str.ofString "/claim/cut.py") 614, Value.int 227 0, Value.int 2 0, Value.int 0 0, Value.int 0 0, Value.int 3 0, Value.ref 312, Value.bool true, Value.int 181 0, Value.ref 313, Value.none, Value.ref 314, Value.ref 315, Value.ref 316, Value.int 620 0, Value.int 227 0, Value.str (Str.ofString "/claim/cut.py") 621]) #[]) ::
    (nat_lit 318, Obj.mk (Value.type "function") none (Data.func (FuncData.mk (Str.ofString "text_mid") (Str.ofString "text_mid") p11 (FuncBody.stmts b11) c11 3 [] Value.none Value.none Value.none (Value.str (Str.ofString "basicplus.textfns") 585) none (Value.ref 317) Value.none 0)) #[]) ::
    (nat_lit 319, Obj.mk (Value.type "tuple") none (Data.seq #[]) #[]) ::
    (nat_lit 321, Obj.mk (Value.type "tuple") none (Data.seq #[Value.str (Str.ofString "one") 626, Value.str (Str.ofString "other") 627]) #[]) ::
    (nat_lit 322, Obj.mk (Value.type "tuple") none (Data.seq #[]) #[]) ::
    (nat_lit 324, Obj.mk (Value.type "code") none (Data.fields #[Value.str (Str.ofString "text_joined") 623, Value.str (Str.ofString "text_joined") 624, Value.str (Str.ofString "/claim/cut.py") 625, Value.int 231 0, Value.int 2 0, Value.int 0 0, Value.int 0 0, Value.int 3 0, Value.ref 319, Value.bool true, Value.int 181 0, Value.ref 320, Value.none, Value.ref 321, Value.ref 322, Value.ref 323, Value.int 628 0, Value.int 231 0, Value.str (Str.ofString "/claim/cut.py") 629]) #[]) ::
    (nat_lit 325, Obj.mk (Value.type "function") none (Data.func (FuncData.mk (Str.ofString "text_joined") (Str.ofString "text_joined") p12 (FuncBody.stmts b12) c12 3 [] Value.none Value.none Value.none (Value.str (Str.ofString "basicplus.textfns") 585) none (Value.ref 324) Value.none 0)) #[]) ::
    (nat_lit 326, Obj.mk (Value.type "tuple") none (Data.seq #[]) #[]) ::
    (nat_lit 328, Obj.mk (Value.type "tuple") none (Data.seq #[Value.str (Str.ofString "bag") 636, Value.str (Str.ofString "below") 637, Value.str (Str.ofString "spot") 638]) #[]) ::
    (nat_lit 329, Obj.mk (Value.type "tuple") none (Data.seq #[]) #[]) ::
    (nat_lit 331, Obj.mk (Value.type "code") none (Data.fields #[Value.str (Str.ofString "_law_draw") 633, Value.str (Str.ofString "_law_draw") 634, Value.str (Str.ofString "/claim/cut.py") 635, Value.int 234 0, Value.int 2 0, Value.int 0 0, Value.int 0 0, Value.int 3 0, Value.ref 326, Value.bool true, Value.int 181 0, Value.ref 327, Value.none, Value.ref 328, Value.ref 329, Value.ref 330, Value.int 639 0, Value.int 234 0, Value.str (Str.ofString "/claim/cut.py") 640]) #[]) ::
    (nat_lit 332, Obj.mk (Value.type "function") none (Data.func (FuncData.mk (Str.ofString "_law_draw") (Str.ofString "_law_draw") p13 (FuncBody.stmts b13) c13 3 [] Value.none Value.none Value.none (Value.str (Str.ofString "law_xm0066_01") 631) none (Value.ref 331) Value.none 0)) #[]) ::
    (nat_lit 333, Obj.mk (Value.type "tuple") none (Data.seq #[]) #[]) ::
    (nat_lit 335, Obj.mk (Value.type "tuple") none (Data.seq #[Value.str (Str.ofString "text") 645, Value.str (Str.ofString "at") 646]) #[]) ::
    (nat_lit 336, Obj.mk (Value.type "tuple") none (Data.seq #[]) #[]) ::
    (nat_lit 338, Obj.mk (Value.type "code") none (Data.fields #[Value.str (Str.ofString "_law_sign") 642, Value.str (Str.ofString "_law_sign") 643, Value.str (Str.ofString "/claim/cut.py") 644, Value.int 238 0, Value.int 2 0, Value.int 0 0, Value.int 0 0, Value.int 3 0, Value.ref 333, Value.bool true, Value.int 181 0, Value.ref 334, Value.none, Value.ref 335, Value.ref 336, Value.ref 337, Value.int 647 0, Value.int 238 0, Value.str (Str.ofString "/claim/cut.py") 648]) #[]) ::
    (nat_lit 339, Obj.mk (Value.type "function") none (Data.func (FuncData.mk (Str.ofString "_law_sign") (Str.ofString "_law_sign") p14 (FuncBody.stmts b14) c14 3 [] Value.none Value.none Value.none (Value.str (Str.ofString "law_xm0066_01") 631) none (Value.ref 338) Value.none 0)) #[]) ::
    (nat_lit 340, Obj.mk (Value.type "tuple") none (Data.seq #[]) #[]) ::
    (nat_lit 342, Obj.mk (Value.type "tuple") none (Data.seq #[Value.str (Str.ofString "text") 653, Value.str (Str.ofString "at") 654, Value.str (Str.ofString "spot") 655]) #[]) ::
    (nat_lit 343, Obj.mk (Value.type "tuple") none (Data.seq #[]) #[]) ::
    (nat_lit 345, Obj.mk (Value.type "code") none (Data.fields #[Value.str (Str.ofString "_law_less") 650, Value.str (Str.ofString "_law_less") 651, Value.str (Str.ofString "/claim/cut.py") 652, Value.int 240 0, Value.int 3 0, Value.int 0 0, Value.int 0 0, Value.int 3 0, Value.ref 340, Value.bool true, Value.int 181 0, Value.ref 341, Value.none, Value.ref 342, Value.ref 343, Value.ref 344, Value.int 656 0, Value.int 240 0, Value.str (Str.ofString "/claim/cut.py") 657]) #[]) ::
    (nat_lit 346, Obj.mk (Value.type "function") none (Data.func (FuncData.mk (Str.ofString "_law_less") (Str.ofString "_law_less") p15 (FuncBody.stmts b15) c15 3 [] Value.none Value.none Value.none (Value.str (Str.ofString "law_xm0066_01") 631) none (Value.ref 345) Value.none 0)) #[]) ::
    (nat_lit 347, Obj.mk (Value.type "tuple") none (Data.seq #[]) #[]) ::
    (nat_lit 349, Obj.mk (Value.type "tuple") none (Data.seq #[Value.str (Str.ofString "text") 662, Value.str (Str.ofString "at") 663, Value.str (Str.ofString "sign") 664]) #[]) ::
    (nat_lit 350, Obj.mk (Value.type "tuple") none (Data.seq #[]) #[]) ::
    (nat_lit 352, Obj.mk (Value.type "code") none (Data.fields #[Value.str (Str.ofString "_law_put") 659, Value.str (Str.ofString "_law_put") 660, Value.str (Str.ofString "/claim/cut.py") 661, Value.int 242 0, Value.int 3 0, Value.int 0 0, Value.int 0 0, Value.int 3 0, Value.ref 347, Value.bool true, Value.int 181 0, Value.ref 348, Value.none, Value.ref 349, Value.ref 350, Value.ref 351, Value.int 665 0, Value.int 242 0, Value.str (Str.ofString "/claim/cut.py") 666]) #[]) ::
    (nat_lit 353, Obj.mk (Value.type "function") none (Data.func (FuncData.mk (Str.ofString "_law_put") (Str.ofString "_law_put") p16 (FuncBody.stmts b16) c16 3 [] Value.none Value.none Value.none (Value.str (Str.ofString "law_xm0066_01") 631) none (Value.ref 352) Value.none 0)) #[]) ::
    (nat_lit 354, Obj.mk (Value.type "tuple") none (Data.seq #[]) #[]) ::
    (nat_lit 356, Obj.mk (Value.type "tuple") none (Data.seq #[Value.str (Str.ofString "text") 671, Value.str (Str.ofString "at") 672, Value.str (Str.ofString "spot") 673]) #[]) ::
    (nat_lit 357, Obj.mk (Value.type "tuple") none (Data.seq #[]) #[]) ::
    (nat_lit 359, Obj.mk (Value.type "code") none (Data.fields #[Value.str (Str.ofString "_law_exchanged") 668, Value.str (Str.ofString "_law_exchanged") 669, Value.str (Str.ofString "/claim/cut.py") 670, Value.int 244 0, Value.int 3 0, Value.int 0 0, Value.int 0 0, Value.int 3 0, Value.ref 354, Value.bool true, Value.int 181 0, Value.ref 355, Value.none, Value.ref 356, Value.ref 357, Value.ref 358, Value.int 674 0, Value.int 244 0, Value.str (Str.ofString "/claim/cut.py") 675]) #[]) ::
    (nat_lit 360, Obj.mk (Value.type "function") none (Data.func (FuncData.mk (Str.ofString "_law_exchanged") (Str.ofString "_law_exchanged") p17 (FuncBody.stmts b17) c17 3 [] Value.none Value.none Value.none (Value.str (Str.ofString "law_xm0066_01") 631) none (Value.ref 359) Value.none 0)) #[]) ::
    (nat_lit 361, Obj.mk (Value.type "tuple") none (Data.seq #[]) #[]) ::
    (nat_lit 363, Obj.mk (Value.type "tuple") none (Data.seq #[Value.str (Str.ofString "text") 680, Value.str (Str.ofString "at") 681]) #[]) ::
    (nat_lit 364, Obj.mk (Value.type "tuple") none (Data.seq #[]) #[]) ::
    (nat_lit 366, Obj.mk (Value.type "code") none (Data.fields #[Value.str (Str.ofString "_law_up") 677, Value.str (Str.ofString "_law_up") 678, Value.str (Str.ofString "/claim/cut.py") 679, Value.int 246 0, Value.int 2 0, Value.int 0 0, Value.int 0 0, Value.int 3 0, Value.ref 361, Value.bool true, Value.int 181 0, Value.ref 362, Value.none, Value.ref 363, Value.ref 364, Value.ref 365, Value.int 682 0, Value.int 246 0, Value.str (Str.ofString "/claim/cut.py") 683]) #[]) ::
    (nat_lit 367, Obj.mk (Value.type "function") none (Data.func (FuncData.mk (Str.ofString "_law_up") (Str.ofString "_law_up") p18 (FuncBody.stmts b18) c18 3 [] Value.none Value.none Value.none (Value.str (Str.ofString "law_xm0066_01") 631) none (Value.ref 366) Value.none 0)) #[]) ::
    (nat_lit 368, Obj.mk (Value.type "tuple") none (Data.seq #[]) #[]) ::
    (nat_lit 370, Obj.mk (Value.type "tuple") none (Data.seq #[Value.str (Str.ofString "text") 688, Value.str (Str.ofString "at") 689, Value.str (Str.ofString "spot") 690]) #[]) ::
    (nat_lit 371, Obj.mk (Value.type "tuple") none (Data.seq #[]) #[]) ::
    (nat_lit 373, Obj.mk (Value.type "code") none (Data.fields #[Value.str (Str.ofString "_law_down") 685, Value.str (Str.ofString "_law_down") 686, Value.str (Str.ofString "/claim/cut.py") 687, Value.int 250 0, Value.int 2 0, Value.int 0 0, Value.int 0 0, Value.int 3 0, Value.ref 368, Value.bool true, Value.int 181 0, Value.ref 369, Value.none, Value.ref 370, Value.ref 371, Value.ref 372, Value.int 691 0, Value.int 250 0, Value.str (Str.ofString "/claim/cut.py") 692]) #[]) ::
    (nat_lit 374, Obj.mk (Value.type "function") none (Data.func (FuncData.mk (Str.ofString "_law_down") (Str.ofString "_law_down") p19 (FuncBody.stmts b19) c19 3 [] Value.none Value.none Value.none (Value.str (Str.ofString "law_xm0066_01") 631) none (Value.ref 373) Value.none 0)) #[]) ::
    (nat_lit 375, Obj.mk (Value.type "tuple") none (Data.seq #[]) #[]) ::
    (nat_lit 378, Obj.mk (Value.type "code") none (Data.fields #[Value.str (Str.ofString "_law_is_heap") 694, Value.str (Str.ofString "_law_is_heap") 695, Value.str (Str.ofString "/claim/cut.py") 696, Value.int 259 0, Value.int 2 0, Value.int 0 0, Value.int 0 0, Value.int 3 0, Value.ref 375, Value.bool true, Value.int 181 0, Value.ref 376, Value.none, Value.none, Value.none, Value.ref 377, Value.int 697 0, Value.int 259 0, Value.str (Str.ofString "/claim/cut.py") 698]) #[]) ::
    (nat_lit 379, Obj.mk (Value.type "function") none (Data.func (FuncData.mk (Str.ofString "_law_is_heap") (Str.ofString "_law_is_heap") p20 (FuncBody.stmts b20) c20 3 [] Value.none Value.none Value.none (Value.str (Str.ofString "law_xm0066_01") 631) none (Value.ref 378) Value.none 0)) #[]) ::
    (nat_lit 380, Obj.mk (Value.type "tuple") none (Data.seq #[]) #[]) ::
    (nat_lit 382, Obj.mk (Value.type "tuple") none (Data.seq #[Value.str (Str.ofString "text") 703, Value.str (Str.ofString "last") 704]) #[]) ::
    (nat_lit 383, Obj.mk (Value.type "tuple") none (Data.seq #[]) #[]) ::
    (nat_lit 385, Obj.mk (Value.type "code") none (Data.fields #[Value.str (Str.ofString "_law_taken") 700, Value.str (Str.ofString "_law_taken") 701, Value.str (Str.ofString "/claim/cut.py") 702, Value.int 261 0, Value.int 1 0, Value.int 0 0, Value.int 0 0, Value.int 3 0, Value.ref 380, Value.bool true, Value.int 181 0, Value.ref 381, Value.none, Value.ref 382, Value.ref 383, Value.ref 384, Value.int 705 0, Value.int 261 0, Value.str (Str.ofString "/claim/cut.py") 706]) #[]) ::
    (nat_lit 386, Obj.mk (Value.type "function") none (Data.func (FuncData.mk (Str.ofString "_law_taken") (Str.ofString "_law_taken") p21 (FuncBody.stmts b21) c21 3 [] Value.none Value.none Value.none (Value.str (Str.ofString "law_xm0066_01") 631) none (Value.ref 385) Value.none 0)) #[]) ::
    (nat_lit 387, Obj.mk (Value.type "tuple") none (Data.seq #[]) #[]) ::
    (nat_lit 390, Obj.mk (Value.type "code") none (Data.fields #[Value.str (Str.ofString "law") 708, Value.str (Str.ofString "law") 709, Value.str (Str.ofString "/claim/cut.py") 710, Value.int 265 0, Value.int 1 0, Value.int 0 0, Value.int 0 0, Value.int 3 0, Value.ref 387, Value.bool true, Value.int 181 0, Value.ref 388, Value.none, Value.none, Value.none, Value.ref 389, Value.int 711 0, Value.int 265 0, Value.str (Str.ofString "/claim/cut.py") 712]) #[]) ::
    (nat_lit 391, Obj.mk (Value.type "function") none (Data.func (FuncData.mk (Str.ofString "law") (Str.ofString "law") p22 (FuncBody.stmts b22) c22 3 [] Value.none Value.none Value.none (Value.str (Str.ofString "law_xm0066_01") 631) none (Value.ref 390) Value.none 0)) #[]) :: []
   : Frag)) _ _ _ rfl _ _ _ rfl _ _ _ rfl _ _ _ rfl _ _ _ rfl _ _ _ rfl _ _ _ rfl _ _ _ rfl _ _ _ rfl _ _ _ rfl _ _ _ rfl _ _ _ rfl _ _ _ rfl _ _ _ rfl _ _ _ rfl _ _ _ rfl _ _ _ rfl _ _ _ rfl _ _ _ rfl _ _ _ rfl _ _ _ rfl _ _ _ rfl _ _ _ rfl
abbrev KA : List Addr := [nat_lit 2, nat_lit 3, nat_lit 15, nat_lit 18, nat_lit 23, nat_lit 24, nat_lit 25, nat_lit 27, nat_lit 28, nat_lit 30, nat_lit 32, nat_lit 33, nat_lit 34, nat_lit 35, nat_lit 38, nat_lit 40, nat_lit 41, nat_lit 43, nat_lit 44, nat_lit 45, nat_lit 47, nat_lit 48, nat_lit 50, nat_lit 52, nat_lit 54, nat_lit 55, nat_lit 57, nat_lit 59, nat_lit 61, nat_lit 62, nat_lit 64, nat_lit 66, nat_lit 68, nat_lit 69, nat_lit 71, nat_lit 73, nat_lit 75, nat_lit 76, nat_lit 78, nat_lit 80, nat_lit 82, nat_lit 83, nat_lit 85, nat_lit 87, nat_lit 89, nat_lit 90, nat_lit 92, nat_lit 94, nat_lit 96, nat_lit 97, nat_lit 99, nat_lit 100, nat_lit 101, nat_lit 103, nat_lit 104, nat_lit 106, nat_lit 107, nat_lit 108, nat_lit 110, nat_lit 111, nat_lit 113, nat_lit 114, nat_lit 115, nat_lit 116, nat_lit 118, nat_lit 119, nat_lit 121, nat_lit 123, nat_lit 125, nat_lit 126, nat_lit 128, nat_lit 130, nat_lit 132, nat_lit 133, nat_lit 135, nat_lit 137, nat_lit 139, nat_lit 140, nat_lit 142, nat_lit 144, nat_lit 146, nat_lit 147, nat_lit 149, nat_lit 151, nat_lit 153, nat_lit 154, nat_lit 156, nat_lit 158, nat_lit 160, nat_lit 161, nat_lit 163, nat_lit 165, nat_lit 167, nat_lit 168, nat_lit 170, nat_lit 172, nat_lit 174, nat_lit 175, nat_lit 177, nat_lit 179, nat_lit 181, nat_lit 182, nat_lit 184, nat_lit 186, nat_lit 188, nat_lit 189, nat_lit 191, nat_lit 193, nat_lit 195, nat_lit 196, nat_lit 198, nat_lit 200, nat_lit 202, nat_lit 203, nat_lit 205, nat_lit 207, nat_lit 209, nat_lit 210, nat_lit 212, nat_lit 214, nat_lit 216, nat_lit 217, nat_lit 219, nat_lit 221, nat_lit 223, nat_lit 224, nat_lit 226, nat_lit 228, nat_lit 230, nat_lit 231, nat_lit 233, nat_lit 235, nat_lit 237, nat_lit 238, nat_lit 240, nat_lit 242, nat_lit 244, nat_lit 245, nat_lit 247, nat_lit 249, nat_lit 251, nat_lit 252, nat_lit 254, nat_lit 256, nat_lit 258, nat_lit 259, nat_lit 261, nat_lit 263, nat_lit 264, nat_lit 265, nat_lit 267, nat_lit 268, nat_lit 270, nat_lit 271, nat_lit 272, nat_lit 274, nat_lit 275, nat_lit 277, nat_lit 278, nat_lit 279, nat_lit 281, nat_lit 282, nat_lit 284, nat_lit 285, nat_lit 286, nat_lit 289, nat_lit 290, nat_lit 291, nat_lit 293, nat_lit 294, nat_lit 296, nat_lit 297, nat_lit 298, nat_lit 300, nat_lit 301, nat_lit 303, nat_lit 304, nat_lit 305, nat_lit 307, nat_lit 308, nat_lit 310, nat_lit 311, nat_lit 312, nat_lit 314, nat_lit 315, nat_lit 317, nat_lit 318, nat_lit 319, nat_lit 321, nat_lit 322, nat_lit 324, nat_lit 325, nat_lit 326, nat_lit 328, nat_lit 329, nat_lit 331, nat_lit 332, nat_lit 333, nat_lit 335, nat_lit 336, nat_lit 338, nat_lit 339, nat_lit 340, nat_lit 342, nat_lit 343, nat_lit 345, nat_lit 346, nat_lit 347, nat_lit 349, nat_lit 350, nat_lit 352, nat_lit 353, nat_lit 354, nat_lit 356, nat_lit 357, nat_lit 359, nat_lit 360, nat_lit 361, nat_lit 363, nat_lit 364, nat_lit 366, nat_lit 367, nat_lit 368, nat_lit 370, nat_lit 371, nat_lit 373, nat_lit 374, nat_lit 375, nat_lit 378, nat_lit 379, nat_lit 380, nat_lit 382, nat_lit 383, nat_lit 385, nat_lit 386, nat_lit 387, nat_lit 390, nat_lit 391]
theorem ka_eq : ∀ P, KA = (KF P).map (·.1) := fun _ => by kernel_rfl
/-- a def's parts, and the one method's, out of the program's constant -/
noncomputable def dF (n : Str) : Arguments × List Stmt × Scope := match PG.theDef n with
  | some x => x
  | none => (default, [], default)
noncomputable def iF : Arguments × List Stmt × Scope := match (PG.main.body.filterMap fun s => match s with | .ClassDef _ _ _ [.FunctionDef _ p b _ _ _ c _ _ _] _ _ _ _ _ _ _ => some (p, b, c) | _ => none) with
  | [x] => x
  | _ => (default, [], default)
/-- the heap that the top leaves, whole -/
noncomputable def H1 : PySem.Params → Heap := fun P => Heap.mk (Array.mk (
    (boot_o_0 P) ::
    (boot_o_1 P) ::
    (Obj.mk Value.none none (Data.dict #[DictEntry.mk (PyData.keyHash P (Str.ofString "type.__subclasses__.Exception.0")) (Value.str (Str.ofString "type.__subclasses__.Exception.0") 223) (Value.int 34 0), DictEntry.mk (PyData.keyHash P (Str.ofString "type.__subclasses__.Exception.n")) (Value.str (Str.ofString "type.__subclasses__.Exception.n") 224) (Value.int 1 0)] 2) #[]) ::
    (Obj.mk (Value.type "dict") none (Data.dict #[DictEntry.mk (PyData.keyHash P (Str.ofString "__name__")) (Value.str (Str.ofString "__name__") 165) (Value.str (Str.ofString "law_xm0066_01") 631), DictEntry.mk (PyData.keyHash P (Str.ofString "__doc__")) (Value.str (Str.ofString "__doc__") 166) Value.none, DictEntry.mk (PyData.keyHash P (Str.ofString "__package__")) (Value.str (Str.ofString "__package__") 167) Value.none, DictEntry.mk (PyData.keyHash P (Str.ofString "__loader__")) (Value.str (Str.ofString "__loader__") 168) (Value.builtin "__main__.__loader__#opaque"), DictEntry.mk (PyData.keyHash P (Str.ofString "__spec__")) (Value.str (Str.ofString "__spec__") 169) Value.none, DictEntry.mk (PyData.keyHash P (Str.ofString "__annotations__")) (Value.str (Str.ofString "__annotations__") 170) (Value.ref 6), DictEntry.mk (PyData.keyHash P (Str.ofString "__builtins__")) (Value.str (Str.ofString "__builtins__") 171) (Value.ref 4), DictEntry.mk (PyData.keyHash P (Str.ofString "__file__")) (Value.str (Str.ofString "__file__") 173) (Value.str (Str.ofString "/claim/cut.py") 172), DictEntry.mk (PyData.keyHash P (Str.ofString "__cached__")) (Value.str (Str.ofString "__cached__") 174) Value.none, DictEntry.mk (PyData.keyHash P (Str.ofString "MOST_TEXT")) (Value.str (Str.ofString "MOST_TEXT") 190) (Value.int 255 189), DictEntry.mk (PyData.keyHash P (Str.ofString "MOST_EXPONENT")) (Value.str (Str.ofString "MOST_EXPONENT") 192) (Value.int 99 191), DictEntry.mk (PyData.keyHash P (Str.ofString "BasicError")) (Value.str (Str.ofString "BasicError") 226) (Value.ref 34), DictEntry.mk (PyData.keyHash P (Str.ofString "kind_of")) (Value.str (Str.ofString "kind_of") 233) (Value.ref 44), DictEntry.mk (PyData.keyHash P (Str.ofString "figures_of")) (Value.str (Str.ofString "figures_of") 242) (Value.ref 51), DictEntry.mk (PyData.keyHash P (Str.ofString "rounded_by")) (Value.str (Str.ofString "rounded_by") 253) (Value.ref 58), DictEntry.mk (PyData.keyHash P (Str.ofString "made")) (Value.str (Str.ofString "made") 265) (Value.ref 65), DictEntry.mk (PyData.keyHash P (Str.ofString "whole_near")) (Value.str (Str.ofString "whole_near") 275) (Value.ref 72), DictEntry.mk (PyData.keyHash P (Str.ofString "fits")) (Value.str (Str.ofString "fits") 283) (Value.ref 79), DictEntry.mk (PyData.keyHash P (Str.ofString "whole_of")) (Value.str (Str.ofString "whole_of") 292) (Value.ref 86), DictEntry.mk (PyData.keyHash P (Str.ofString "decimal_of")) (Value.str (Str.ofString "decimal_of") 300) (Value.ref 93), DictEntry.mk (PyData.keyHash P (Str.ofString "text_of")) (Value.str (Str.ofString "text_of") 307) (Value.ref 100), DictEntry.mk (PyData.keyHash P (Str.ofString "checked_text")) (Value.str (Str.ofString "checked_text") 314) (Value.ref 107), DictEntry.mk (PyData.keyHash P (Str.ofString "truth")) (Value.str (Str.ofString "truth") 321) (Value.ref 114), DictEntry.mk (PyData.keyHash P (Str.ofString "ONE")) (Value.str (Str.ofString "ONE") 326) (Value.ref 115), DictEntry.mk (PyData.keyHash P (Str.ofString "MOST_POWER")) (Value.str (Str.ofString "MOST_POWER") 328) (Value.int 9999 327), DictEntry.mk (PyData.keyHash P (Str.ofString "d_negated")) (Value.str (Str.ofString "d_negated") 335) (Value.ref 122), DictEntry.mk (PyData.keyHash P (Str.ofString "alike")) (Value.str (Str.ofString "alike") 344) (Value.ref 129), DictEntry.mk (PyData.keyHash P (Str.ofString "d_add")) (Value.str (Str.ofString "d_add") 356) (Value.ref 136), DictEntry.mk (PyData.keyHash P (Str.ofString "d_sub")) (Value.str (Str.ofString "d_sub") 365) (Value.ref 143), DictEntry.mk (PyData.keyHash P (Str.ofString "d_mul")) (Value.str (Str.ofString "d_mul") 374) (Value.ref 150), DictEntry.mk (PyData.keyHash P (Str.ofString "with_rest")) (Value.str (Str.ofString "with_rest") 383) (Value.ref 157), DictEntry.mk (PyData.keyHash P (Str.ofString "d_div")) (Value.str (Str.ofString "d_div") 397) (Value.ref 164), DictEntry.mk (PyData.keyHash P (Str.ofString "d_compare")) (Value.str (Str.ofString "d_compare") 408) (Value.ref 171), DictEntry.mk (PyData.keyHash P (Str.ofString "d_power")) (Value.str (Str.ofString "d_power") 420) (Value.ref 178), DictEntry.mk (PyData.keyHash P (Str.ofString "square_or_end")) (Value.str (Str.ofString "square_or_end") 428) (Value.ref 185), DictEntry.mk (PyData.keyHash P (Str.ofString "is_whole")) (Value.str (Str.ofString "is_whole") 437) (Value.ref 192), DictEntry.mk (PyData.keyHash P (Str.ofString "settled")) (Value.str (Str.ofString "settled") 446) (Value.ref 199), DictEntry.mk (PyData.keyHash P (Str.ofString "whole_reckoned")) (Value.str (Str.ofString "whole_reckoned") 457) (Value.ref 206), DictEntry.mk (PyData.keyHash P (Str.ofString "cut_quotient")) (Value.str (Str.ofString "cut_quotient") 466) (Value.ref 213), DictEntry.mk (PyData.keyHash P (Str.ofString "cut_rest")) (Value.str (Str.ofString "cut_rest") 474) (Value.ref 220), DictEntry.mk (PyData.keyHash P (Str.ofString "exponent_of")) (Value.str (Str.ofString "exponent_of") 481) (Value.ref 227), DictEntry.mk (PyData.keyHash P (Str.ofString "whole_power")) (Value.str (Str.ofString "whole_power") 491) (Value.ref 234), DictEntry.mk (PyData.keyHash P (Str.ofString "raised")) (Value.str (Str.ofString "raised") 502) (Value.ref 241), DictEntry.mk (PyData.keyHash P (Str.ofString "reckoned")) (Value.str (Str.ofString "reckoned") 518) (Value.ref 248), DictEntry.mk (PyData.keyHash P (Str.ofString "order_of")) (Value.str (Str.ofString "order_of") 526) (Value.ref 255), DictEntry.mk (PyData.keyHash P (Str.ofString "logic")) (Value.str (Str.ofString "logic") 538) (Value.ref 262), DictEntry.mk (PyData.keyHash P (Str.ofString "LOGIC")) (Value.str (Str.ofString "LOGIC") 546) (Value.ref 263), DictEntry.mk (PyData.keyHash P (Str.ofString "COMPARISONS")) (Value.str (Str.ofString "COMPARISONS") 553) (Value.ref 264), DictEntry.mk (PyData.keyHash P (Str.ofString "order_of_texts")) (Value.str (Str.ofString "order_of_texts") 561) (Value.ref 271), DictEntry.mk (PyData.keyHash P (Str.ofString "compared")) (Value.str (Str.ofString "compared") 569) (Value.ref 278), DictEntry.mk (PyData.keyHash P (Str.ofString "worth_of_texts")) (Value.str (Str.ofString "worth_of_texts") 578) (Value.ref 285), DictEntry.mk (PyData.keyHash P (Str.ofString "worth_of_two")) (Value.str (Str.ofString "worth_of_two") 584) (Value.ref 290), DictEntry.mk (PyData.keyHash P (Str.ofString "size_told")) (Value.str (Str.ofString "size_told") 594) (Value.ref 297), DictEntry.mk (PyData.keyHash P (Str.ofString "place_told")) (Value.str (Str.ofString "place_told") 602) (Value.ref 304), DictEntry.mk (PyData.keyHash P (Str.ofString "text_left")) (Value.str (Str.ofString "text_left") 611) (Value.ref 311), DictEntry.mk (PyData.keyHash P (Str.ofString "text_mid")) (Value.str (Str.ofString "text_mid") 622) (Value.ref 318), DictEntry.mk (PyData.keyHash P (Str.ofString "text_joined")) (Value.str (Str.ofString "text_joined") 630) (Value.ref 325), DictEntry.mk (PyData.keyHash P (Str.ofString "_law_draw")) (Value.str (Str.ofString "_law_draw") 641) (Value.ref 332), DictEntry.mk (PyData.keyHash P (Str.ofString "_law_sign")) (Value.str (Str.ofString "_law_sign") 649) (Value.ref 339), DictEntry.mk (PyData.keyHash P (Str.ofString "_law_less")) (Value.str (Str.ofString "_law_less") 658) (Value.ref 346), DictEntry.mk (PyData.keyHash P (Str.ofString "_law_put")) (Value.str (Str.ofString "_law_put") 667) (Value.ref 353), DictEntry.mk (PyData.keyHash P (Str.ofString "_law_exchanged")) (Value.str (Str.ofString "_law_exchanged") 676) (Value.ref 360), DictEntry.mk (PyData.keyHash P (Str.ofString "_law_up")) (Value.str (Str.ofString "_law_up") 684) (Value.ref 367), DictEntry.mk (PyData.keyHash P (Str.ofString "_law_down")) (Value.str (Str.ofString "_law_down") 693) (Value.ref 374), DictEntry.mk (PyData.keyHash P (Str.ofString "_law_is_heap")) (Value.str (Str.ofString "_law_is_heap") 699) (Value.ref 379), DictEntry.mk (PyData.keyHash P (Str.ofString "_law_taken")) (Value.str (Str.ofString "_law_taken") 707) (Value.ref 386), DictEntry.mk (PyData.keyHash P (Str.ofString "law")) (Value.str (Str.ofString "law") 713) (Value.ref 391)] 67) #[]) ::
    (boot_o_4 P) ::
    (boot_o_5 P) ::
    (boot_o_6 P) ::
    (boot_o_7 P) ::
    (boot_o_8 P) ::
    (boot_o_9 P) ::
    (boot_o_10 P) ::
    (Obj.mk (Value.type "tuple") none (Data.seq #[]) #[]) ::
    (Obj.mk Value.none none (Data.fields #[Value.int 4 0, Value.int 0 0, Value.ref 21, Value.int 10 0, Value.int 0 0, Value.ref 43, Value.int 14 0, Value.int 0 0, Value.ref 50, Value.int 20 0, Value.int 0 0, Value.ref 57, Value.int 30 0, Value.int 0 0, Value.ref 64, Value.int 45 0, Value.int 0 0, Value.ref 71, Value.int 51 0, Value.int 0 0, Value.ref 78, Value.int 53 0, Value.int 0 0, Value.ref 85, Value.int 60 0, Value.int 0 0, Value.ref 92, Value.int 64 0, Value.int 0 0, Value.ref 99, Value.int 68 0, Value.int 0 0, Value.ref 106, Value.int 72 0, Value.int 0 0, Value.ref 113, Value.int 77 0, Value.int 0 0, Value.ref 121, Value.int 79 0, Value.int 0 0, Value.ref 128, Value.int 82 0, Value.int 0 0, Value.ref 135, Value.int 85 0, Value.int 0 0, Value.ref 142, Value.int 87 0, Value.int 0 0, Value.ref 149, Value.int 89 0, Value.int 0 0, Value.ref 156, Value.int 91 0, Value.int 0 0, Value.ref 163, Value.int 99 0, Value.int 0 0, Value.ref 170, Value.int 102 0, Value.int 0 0, Value.ref 177, Value.int 116 0, Value.int 0 0, Value.ref 184, Value.int 119 0, Value.int 0 0, Value.ref 191, Value.int 123 0, Value.int 0 0, Value.ref 198, Value.int 125 0, Value.int 0 0, Value.ref 205, Value.int 129 0, Value.int 0 0, Value.ref 212, Value.int 134 0, Value.int 0 0, Value.ref 219, Value.int 136 0, Value.int 0 0, Value.ref 226, Value.int 142 0, Value.int 0 0, Value.ref 233, Value.int 148 0, Value.int 0 0, Value.ref 240, Value.int 153 0, Value.int 0 0, Value.ref 247, Value.int 168 0, Value.int 0 0, Value.ref 254, Value.int 174 0, Value.int 0 0, Value.ref 261, Value.int 186 0, Value.int 0 0, Value.ref 270, Value.int 188 0, Value.int 0 0, Value.ref 277, Value.int 194 0, Value.int 0 0, Value.ref 284, Value.int 200 0, Value.int 0 0, Value.ref 289, Value.int 212 0, Value.int 0 0, Value.ref 296, Value.int 219 0, Value.int 0 0, Value.ref 303, Value.int 224 0, Value.int 0 0, Value.ref 310, Value.int 227 0, Value.int 0 0, Value.ref 317, Value.int 231 0, Value.int 0 0, Value.ref 324, Value.int 234 0, Value.int 0 0, Value.ref 331, Value.int 238 0, Value.int 0 0, Value.ref 338, Value.int 240 0, Value.int 0 0, Value.ref 345, Value.int 242 0, Value.int 0 0, Value.ref 352, Value.int 244 0, Value.int 0 0, Value.ref 359, Value.int 246 0, Value.int 0 0, Value.ref 366, Value.int 250 0, Value.int 0 0, Value.ref 373, Value.int 259 0, Value.int 0 0, Value.ref 378, Value.int 261 0, Value.int 0 0, Value.ref 385, Value.int 265 0, Value.int 0 0, Value.ref 390]) #[]) ::
    (Obj.mk (Value.type "code") none (Data.fields #[Value.str (Str.ofString "<module>") 182, Value.str (Str.ofString "<module>") 183, Value.str (Str.ofString "/claim/cut.py") 184, Value.int 1 0, Value.int 0 0, Value.int 0 0, Value.int 0 0, Value.int 0 0, Value.ref 11, Value.bool false, Value.int 181 0, Value.ref 12, Value.none, Value.none, Value.none, Value.none, Value.int 185 0, Value.int 1 0, Value.str (Str.ofString "/claim/cut.py") 186]) #[]) ::
    (Obj.mk (Value.type "frame") none Data.plain #[some (Value.ref 13), some (Value.ref 3), some (Value.ref 3), none, some (Value.str (Str.ofString "__main__") 164), none, some (Value.ref 0)]) ::
    (Obj.mk (Value.type "tuple") none (Data.seq #[Value.type "Exception"]) #[]) ::
    (Obj.mk (Value.type "builtin_function_or_method") none (Data.fields #[Value.builtin "type.__prepare__", Value.type "type"]) #[]) ::
    (Obj.mk (Value.type "dict") none (Data.dict #[DictEntry.mk (PyData.keyHash P (Str.ofString "__module__")) (Value.str (Str.ofString "__module__") 200) (Value.str (Str.ofString "basicplus.values") 187), DictEntry.mk (PyData.keyHash P (Str.ofString "__qualname__")) (Value.str (Str.ofString "__qualname__") 202) (Value.str (Str.ofString "BasicError") 201), DictEntry.mk (PyData.keyHash P (Str.ofString "__firstlineno__")) (Value.str (Str.ofString "__firstlineno__") 204) (Value.int 4 203), DictEntry.mk (PyData.keyHash P (Str.ofString "__init__")) (Value.str (Str.ofString "__init__") 215) (Value.ref 31), DictEntry.mk (PyData.keyHash P (Str.ofString "__static_attributes__")) (Value.str (Str.ofString "__static_attributes__") 218) (Value.ref 32), DictEntry.mk (PyData.keyHash P (Str.ofString "__classcell__")) (Value.str (Str.ofString "__classcell__") 219) (Value.ref 18)] 6) #[]) ::
    (Obj.mk (Value.type "cell") none (Data.cell (some (Value.ref 34))) #[]) ::
    (Obj.mk (Value.type "tuple") none (Data.seq #[]) #[]) ::
    (Obj.mk Value.none none (Data.fields #[Value.int 6 0, Value.int 4 0, Value.ref 30]) #[]) ::
    (Obj.mk (Value.type "code") none (Data.fields #[Value.str (Str.ofString "BasicError") 195, Value.str (Str.ofString "BasicError") 196, Value.str (Str.ofString "/claim/cut.py") 197, Value.int 4 0, Value.int 0 0, Value.int 0 0, Value.int 0 0, Value.int 0 0, Value.ref 19, Value.bool false, Value.int 181 0, Value.ref 20, Value.none, Value.none, Value.none, Value.none, Value.int 198 0, Value.int 4 0, Value.str (Str.ofString "/claim/cut.py") 199]) #[]) ::
    (Obj.mk (Value.type "frame") none Data.plain #[some (Value.ref 21), some (Value.ref 3), some (Value.ref 17), none, some (Value.str (Str.ofString "basicplus.values") 187), none, some (Value.ref 0)]) ::
    (Obj.mk (Value.type "tuple") none (Data.seq #[Value.str (Str.ofString "") 205]) #[]) ::
    (Obj.mk (Value.type "tuple") none (Data.seq #[Value.ref 18]) #[]) ::
    (Obj.mk (Value.type "tuple") none (Data.seq #[Value.str (Str.ofString "__class__") 209]) #[]) ::
    (Obj.mk Value.none none (Data.fields #[]) #[]) ::
    (Obj.mk (Value.type "tuple") none (Data.seq #[Value.str (Str.ofString "self") 210, Value.str (Str.ofString "code") 211, Value.str (Str.ofString "told") 212]) #[]) ::
    (Obj.mk (Value.type "tuple") none (Data.seq #[]) #[]) ::
    (Obj.mk Value.none none (Data.func (FuncData.mk (Str.ofString "__init__") (Str.ofString "BasicError.__init__") iF.1 (FuncBody.stmts iF.2.1) iF.2.2 0 [] Value.none Value.none Value.none Value.none none Value.none Value.none 0)) #[]) ::
    (Obj.mk (Value.type "code") none (Data.fields #[Value.str (Str.ofString "__init__") 206, Value.str (Str.ofString "BasicError.__init__") 207, Value.str (Str.ofString "/claim/cut.py") 208, Value.int 6 0, Value.int 3 0, Value.int 0 0, Value.int 0 0, Value.int 3 0, Value.ref 25, Value.bool true, Value.int 181 0, Value.ref 26, Value.none, Value.ref 27, Value.ref 28, Value.ref 29, Value.int 213 0, Value.int 6 0, Value.str (Str.ofString "/claim/cut.py") 214]) #[]) ::
    (Obj.mk (Value.type "function") none (Data.func (FuncData.mk (Str.ofString "__init__") (Str.ofString "BasicError.__init__") iF.1 (FuncBody.stmts iF.2.1) iF.2.2 3 [(Str.ofString "__class__", 18)] (Value.ref 23) Value.none Value.none (Value.str (Str.ofString "basicplus.values") 187) none (Value.ref 30) (Value.ref 24) 0)) #[]) ::
    (Obj.mk (Value.type "tuple") none (Data.seq #[Value.str (Str.ofString "code") 216, Value.str (Str.ofString "told") 217]) #[]) ::
    (Obj.mk (Value.type "dict") none (Data.dict #[DictEntry.mk (PyData.keyHash P (Str.ofString "__module__")) (Value.str (Str.ofString "__module__") 200) (Value.str (Str.ofString "basicplus.values") 187), DictEntry.mk (PyData.keyHash P (Str.ofString "__firstlineno__")) (Value.str (Str.ofString "__firstlineno__") 204) (Value.int 4 203), DictEntry.mk (PyData.keyHash P (Str.ofString "__init__")) (Value.str (Str.ofString "__init__") 215) (Value.ref 31), DictEntry.mk (PyData.keyHash P (Str.ofString "__static_attributes__")) (Value.str (Str.ofString "__static_attributes__") 218) (Value.ref 32), DictEntry.mk (PyData.keyHash P (Str.ofString "__weakref__")) (Value.str (Str.ofString "__weakref__") 221) (Value.ref 35), DictEntry.mk (PyData.keyHash P (Str.ofString "__doc__")) (Value.str (Str.ofString "__doc__") 222) Value.none] 4) #[]) ::
    (Obj.mk (Value.type "type") none (Data.cls (ClassData.mk (Str.ofString "BasicError") [Value.type "Exception"] [Value.ref 34, Value.type "Exception", Value.type "BaseException", Value.type "object"] 33 (Str.ofString "BasicError") true [] [] false none false)) #[some (Value.ref 15), none, some (Value.str (Str.ofString "BasicError") 193), some (Value.str (Str.ofString "BasicError") 201), some (Value.builtin "Exception.__new__"), some (Value.bool true)]) ::
    (Obj.mk (Value.type "getset_descriptor") none (Data.fields #[Value.str (Str.ofString "__weakref__") 220, Value.ref 34, Value.builtin "ExceptionGroup.__weakref__", Value.none]) #[]) ::
    (Obj.mk (Value.type "super") none (Data.fields #[Value.ref 34, Value.ref 34, Value.ref 34]) #[]) ::
    (Obj.mk (Value.type "builtin_function_or_method") none (Data.fields #[Value.builtin "object.__init_subclass__", Value.ref 34]) #[]) ::
    (Obj.mk (Value.type "tuple") none (Data.seq #[]) #[]) ::
    (Obj.mk Value.none none (Data.fields #[]) #[]) ::
    (Obj.mk (Value.type "tuple") none (Data.seq #[Value.str (Str.ofString "value") 230]) #[]) ::
    (Obj.mk (Value.type "tuple") none (Data.seq #[]) #[]) ::
    (Obj.mk Value.none none (Data.func (FuncData.mk (Str.ofString "kind_of") (Str.ofString "kind_of") (dF (Str.ofString "kind_of")).1 (FuncBody.stmts (dF (Str.ofString "kind_of")).2.1) (dF (Str.ofString "kind_of")).2.2 0 [] Value.none Value.none Value.none Value.none none Value.none Value.none 0)) #[]) ::
    (Obj.mk (Value.type "code") none (Data.fields #[Value.str (Str.ofString "kind_of") 227, Value.str (Str.ofString "kind_of") 228, Value.str (Str.ofString "/claim/cut.py") 229, Value.int 10 0, Value.int 1 0, Value.int 0 0, Value.int 0 0, Value.int 3 0, Value.ref 38, Value.bool true, Value.int 181 0, Value.ref 39, Value.none, Value.ref 40, Value.ref 41, Value.ref 42, Value.int 231 0, Value.int 10 0, Value.str (Str.ofString "/claim/cut.py") 232]) #[]) ::
    (Obj.mk (Value.type "function") none (Data.func (FuncData.mk (Str.ofString "kind_of") (Str.ofString "kind_of") (dF (Str.ofString "kind_of")).1 (FuncBody.stmts (dF (Str.ofString "kind_of")).2.1) (dF (Str.ofString "kind_of")).2.2 3 [] Value.none Value.none Value.none (Value.str (Str.ofString "basicplus.values") 187) none (Value.ref 43) Value.none 0)) #[]) ::
    (Obj.mk (Value.type "tuple") none (Data.seq #[]) #[]) ::
    (Obj.mk Value.none none (Data.fields #[]) #[]) ::
    (Obj.mk (Value.type "tuple") none (Data.seq #[Value.str (Str.ofString "number") 237, Value.str (Str.ofString "many") 238, Value.str (Str.ofString "bound") 239]) #[]) ::
    (Obj.mk (Value.type "tuple") none (Data.seq #[]) #[]) ::
    (Obj.mk Value.none none (Data.func (FuncData.mk (Str.ofString "figures_of") (Str.ofString "figures_of") (dF (Str.ofString "figures_of")).1 (FuncBody.stmts (dF (Str.ofString "figures_of")).2.1) (dF (Str.ofString "figures_of")).2.2 0 [] Value.none Value.none Value.none Value.none none Value.none Value.none 0)) #[]) ::
    (Obj.mk (Value.type "code") none (Data.fields #[Value.str (Str.ofString "figures_of") 234, Value.str (Str.ofString "figures_of") 235, Value.str (Str.ofString "/claim/cut.py") 236, Value.int 14 0, Value.int 1 0, Value.int 0 0, Value.int 0 0, Value.int 3 0, Value.ref 45, Value.bool true, Value.int 181 0, Value.ref 46, Value.none, Value.ref 47, Value.ref 48, Value.ref 49, Value.int 240 0, Value.int 14 0, Value.str (Str.ofString "/claim/cut.py") 241]) #[]) ::
    (Obj.mk (Value.type "function") none (Data.func (FuncData.mk (Str.ofString "figures_of") (Str.ofString "figures_of") (dF (Str.ofString "figures_of")).1 (FuncBody.stmts (dF (Str.ofString "figures_of")).2.1) (dF (Str.ofString "figures_of")).2.2 3 [] Value.none Value.none Value.none (Value.str (Str.ofString "basicplus.values") 187) none (Value.ref 50) Value.none 0)) #[]) ::
    (Obj.mk (Value.type "tuple") none (Data.seq #[]) #[]) ::
    (Obj.mk Value.none none (Data.fields #[]) #[]) ::
    (Obj.mk (Value.type "tuple") none (Data.seq #[Value.str (Str.ofString "number") 246, Value.str (Str.ofString "places") 247, Value.str (Str.ofString "unit") 248, Value.str (Str.ofString "found") 249, Value.str (Str.ofString "rest") 250]) #[]) ::
    (Obj.mk (Value.type "tuple") none (Data.seq #[]) #[]) ::
    (Obj.mk Value.none none (Data.func (FuncData.mk (Str.ofString "rounded_by") (Str.ofString "rounded_by") (dF (Str.ofString "rounded_by")).1 (FuncBody.stmts (dF (Str.ofString "rounded_by")).2.1) (dF (Str.ofString "rounded_by")).2.2 0 [] Value.none Value.none Value.none Value.none none Value.none Value.none 0)) #[]) ::
    (Obj.mk (Value.type "code") none (Data.fields #[Value.str (Str.ofString "rounded_by") 243, Value.str (Str.ofString "rounded_by") 244, Value.str (Str.ofString "/claim/cut.py") 245, Value.int 20 0, Value.int 2 0, Value.int 0 0, Value.int 0 0, Value.int 3 0, Value.ref 52, Value.bool true, Value.int 181 0, Value.ref 53, Value.none, Value.ref 54, Value.ref 55, Value.ref 56, Value.int 251 0, Value.int 20 0, Value.str (Str.ofString "/claim/cut.py") 252]) #[]) ::
    (Obj.mk (Value.type "function") none (Data.func (FuncData.mk (Str.ofString "rounded_by") (Str.ofString "rounded_by") (dF (Str.ofString "rounded_by")).1 (FuncBody.stmts (dF (Str.ofString "rounded_by")).2.1) (dF (Str.ofString "rounded_by")).2.2 3 [] Value.none Value.none Value.none (Value.str (Str.ofString "basicplus.values") 187) none (Value.ref 57) Value.none 0)) #[]) ::
    (Obj.mk (Value.type "tuple") none (Data.seq #[]) #[]) ::
    (Obj.mk Value.none none (Data.fields #[]) #[]) ::
    (Obj.mk (Value.type "tuple") none (Data.seq #[Value.str (Str.ofString "coefficient") 257, Value.str (Str.ofString "exponent") 258, Value.str (Str.ofString "digits") 259, Value.str (Str.ofString "size") 260, Value.str (Str.ofString "more") 261, Value.str (Str.ofString "first") 262]) #[]) ::
    (Obj.mk (Value.type "tuple") none (Data.seq #[]) #[]) ::
    (Obj.mk Value.none none (Data.func (FuncData.mk (Str.ofString "made") (Str.ofString "made") (dF (Str.ofString "made")).1 (FuncBody.stmts (dF (Str.ofString "made")).2.1) (dF (Str.ofString "made")).2.2 0 [] Value.none Value.none Value.none Value.none none Value.none Value.none 0)) #[]) ::
    (Obj.mk (Value.type "code") none (Data.fields #[Value.str (Str.ofString "made") 254, Value.str (Str.ofString "made") 255, Value.str (Str.ofString "/claim/cut.py") 256, Value.int 30 0, Value.int 3 0, Value.int 0 0, Value.int 0 0, Value.int 3 0, Value.ref 59, Value.bool true, Value.int 181 0, Value.ref 60, Value.none, Value.ref 61, Value.ref 62, Value.ref 63, Value.int 263 0, Value.int 30 0, Value.str (Str.ofString "/claim/cut.py") 264]) #[]) ::
    (Obj.mk (Value.type "function") none (Data.func (FuncData.mk (Str.ofString "made") (Str.ofString "made") (dF (Str.ofString "made")).1 (FuncBody.stmts (dF (Str.ofString "made")).2.1) (dF (Str.ofString "made")).2.2 3 [] Value.none Value.none Value.none (Value.str (Str.ofString "basicplus.values") 187) none (Value.ref 64) Value.none 0)) #[]) ::
    (Obj.mk (Value.type "tuple") none (Data.seq #[]) #[]) ::
    (Obj.mk Value.none none (Data.fields #[]) #[]) ::
    (Obj.mk (Value.type "tuple") none (Data.seq #[Value.str (Str.ofString "value") 269, Value.str (Str.ofString "coefficient") 270, Value.str (Str.ofString "exponent") 271, Value.str (Str.ofString "size") 272]) #[]) ::
    (Obj.mk (Value.type "tuple") none (Data.seq #[]) #[]) ::
    (Obj.mk Value.none none (Data.func (FuncData.mk (Str.ofString "whole_near") (Str.ofString "whole_near") (dF (Str.ofString "whole_near")).1 (FuncBody.stmts (dF (Str.ofString "whole_near")).2.1) (dF (Str.ofString "whole_near")).2.2 0 [] Value.none Value.none Value.none Value.none none Value.none Value.none 0)) #[]) ::
    (Obj.mk (Value.type "code") none (Data.fields #[Value.str (Str.ofString "whole_near") 266, Value.str (Str.ofString "whole_near") 267, Value.str (Str.ofString "/claim/cut.py") 268, Value.int 45 0, Value.int 1 0, Value.int 0 0, Value.int 0 0, Value.int 3 0, Value.ref 66, Value.bool true, Value.int 181 0, Value.ref 67, Value.none, Value.ref 68, Value.ref 69, Value.ref 70, Value.int 273 0, Value.int 45 0, Value.str (Str.ofString "/claim/cut.py") 274]) #[]) ::
    (Obj.mk (Value.type "function") none (Data.func (FuncData.mk (Str.ofString "whole_near") (Str.ofString "whole_near") (dF (Str.ofString "whole_near")).1 (FuncBody.stmts (dF (Str.ofString "whole_near")).2.1) (dF (Str.ofString "whole_near")).2.2 3 [] Value.none Value.none Value.none (Value.str (Str.ofString "basicplus.values") 187) none (Value.ref 71) Value.none 0)) #[]) ::
    (Obj.mk (Value.type "tuple") none (Data.seq #[]) #[]) ::
    (Obj.mk Value.none none (Data.fields #[]) #[]) ::
    (Obj.mk (Value.type "tuple") none (Data.seq #[Value.str (Str.ofString "number") 279, Value.str (Str.ofString "bits") 280]) #[]) ::
    (Obj.mk (Value.type "tuple") none (Data.seq #[]) #[]) ::
    (Obj.mk Value.none none (Data.func (FuncData.mk (Str.ofString "fits") (Str.ofString "fits") (dF (Str.ofString "fits")).1 (FuncBody.stmts (dF (Str.ofString "fits")).2.1) (dF (Str.ofString "fits")).2.2 0 [] Value.none Value.none Value.none Value.none none Value.none Value.none 0)) #[]) ::
    (Obj.mk (Value.type "code") none (Data.fields #[Value.str (Str.ofString "fits") 276, Value.str (Str.ofString "fits") 277, Value.str (Str.ofString "/claim/cut.py") 278, Value.int 51 0, Value.int 2 0, Value.int 0 0, Value.int 0 0, Value.int 3 0, Value.ref 73, Value.bool true, Value.int 181 0, Value.ref 74, Value.none, Value.ref 75, Value.ref 76, Value.ref 77, Value.int 281 0, Value.int 51 0, Value.str (Str.ofString "/claim/cut.py") 282]) #[]) ::
    (Obj.mk (Value.type "function") none (Data.func (FuncData.mk (Str.ofString "fits") (Str.ofString "fits") (dF (Str.ofString "fits")).1 (FuncBody.stmts (dF (Str.ofString "fits")).2.1) (dF (Str.ofString "fits")).2.2 3 [] Value.none Value.none Value.none (Value.str (Str.ofString "basicplus.values") 187) none (Value.ref 78) Value.none 0)) #[]) ::
    (Obj.mk (Value.type "tuple") none (Data.seq #[]) #[]) ::
    (Obj.mk Value.none none (Data.fields #[]) #[]) ::
    (Obj.mk (Value.type "tuple") none (Data.seq #[Value.str (Str.ofString "value") 287, Value.str (Str.ofString "bits") 288, Value.str (Str.ofString "number") 289]) #[]) ::
    (Obj.mk (Value.type "tuple") none (Data.seq #[]) #[]) ::
    (Obj.mk Value.none none (Data.func (FuncData.mk (Str.ofString "whole_of") (Str.ofString "whole_of") (dF (Str.ofString "whole_of")).1 (FuncBody.stmts (dF (Str.ofString "whole_of")).2.1) (dF (Str.ofString "whole_of")).2.2 0 [] Value.none Value.none Value.none Value.none none Value.none Value.none 0)) #[]) ::
    (Obj.mk (Value.type "code") none (Data.fields #[Value.str (Str.ofString "whole_of") 284, Value.str (Str.ofString "whole_of") 285, Value.str (Str.ofString "/claim/cut.py") 286, Value.int 53 0, Value.int 2 0, Value.int 0 0, Value.int 0 0, Value.int 3 0, Value.ref 80, Value.bool true, Value.int 181 0, Value.ref 81, Value.none, Value.ref 82, Value.ref 83, Value.ref 84, Value.int 290 0, Value.int 53 0, Value.str (Str.ofString "/claim/cut.py") 291]) #[]) ::
    (Obj.mk (Value.type "function") none (Data.func (FuncData.mk (Str.ofString "whole_of") (Str.ofString "whole_of") (dF (Str.ofString "whole_of")).1 (FuncBody.stmts (dF (Str.ofString "whole_of")).2.1) (dF (Str.ofString "whole_of")).2.2 3 [] Value.none Value.none Value.none (Value.str (Str.ofString "basicplus.values") 187) none (Value.ref 85) Value.none 0)) #[]) ::
    (Obj.mk (Value.type "tuple") none (Data.seq #[]) #[]) ::
    (Obj.mk Value.none none (Data.fields #[]) #[]) ::
    (Obj.mk (Value.type "tuple") none (Data.seq #[Value.str (Str.ofString "value") 296, Value.str (Str.ofString "digits") 297]) #[]) ::
    (Obj.mk (Value.type "tuple") none (Data.seq #[]) #[]) ::
    (Obj.mk Value.none none (Data.func (FuncData.mk (Str.ofString "decimal_of") (Str.ofString "decimal_of") (dF (Str.ofString "decimal_of")).1 (FuncBody.stmts (dF (Str.ofString "decimal_of")).2.1) (dF (Str.ofString "decimal_of")).2.2 0 [] Value.none Value.none Value.none Value.none none Value.none Value.none 0)) #[]) ::
    (Obj.mk (Value.type "code") none (Data.fields #[Value.str (Str.ofString "decimal_of") 293, Value.str (Str.ofString "decimal_of") 294, Value.str (Str.ofString "/claim/cut.py") 295, Value.int 60 0, Value.int 2 0, Value.int 0 0, Value.int 0 0, Value.int 3 0, Value.ref 87, Value.bool true, Value.int 181 0, Value.ref 88, Value.none, Value.ref 89, Value.ref 90, Value.ref 91, Value.int 298 0, Value.int 60 0, Value.str (Str.ofString "/claim/cut.py") 299]) #[]) ::
    (Obj.mk (Value.type "function") none (Data.func (FuncData.mk (Str.ofString "decimal_of") (Str.ofString "decimal_of") (dF (Str.ofString "decimal_of")).1 (FuncBody.stmts (dF (Str.ofString "decimal_of")).2.1) (dF (Str.ofString "decimal_of")).2.2 3 [] Value.none Value.none Value.none (Value.str (Str.ofString "basicplus.values") 187) none (Value.ref 92) Value.none 0)) #[]) ::
    (Obj.mk (Value.type "tuple") none (Data.seq #[]) #[]) ::
    (Obj.mk Value.none none (Data.fields #[]) #[]) ::
    (Obj.mk (Value.type "tuple") none (Data.seq #[Value.str (Str.ofString "value") 304]) #[]) ::
    (Obj.mk (Value.type "tuple") none (Data.seq #[]) #[]) ::
    (Obj.mk Value.none none (Data.func (FuncData.mk (Str.ofString "text_of") (Str.ofString "text_of") (dF (Str.ofString "text_of")).1 (FuncBody.stmts (dF (Str.ofString "text_of")).2.1) (dF (Str.ofString "text_of")).2.2 0 [] Value.none Value.none Value.none Value.none none Value.none Value.none 0)) #[]) ::
    (Obj.mk (Value.type "code") none (Data.fields #[Value.str (Str.ofString "text_of") 301, Value.str (Str.ofString "text_of") 302, Value.str (Str.ofString "/claim/cut.py") 303, Value.int 64 0, Value.int 1 0, Value.int 0 0, Value.int 0 0, Value.int 3 0, Value.ref 94, Value.bool true, Value.int 181 0, Value.ref 95, Value.none, Value.ref 96, Value.ref 97, Value.ref 98, Value.int 305 0, Value.int 64 0, Value.str (Str.ofString "/claim/cut.py") 306]) #[]) ::
    (Obj.mk (Value.type "function") none (Data.func (FuncData.mk (Str.ofString "text_of") (Str.ofString "text_of") (dF (Str.ofString "text_of")).1 (FuncBody.stmts (dF (Str.ofString "text_of")).2.1) (dF (Str.ofString "text_of")).2.2 3 [] Value.none Value.none Value.none (Value.str (Str.ofString "basicplus.values") 187) none (Value.ref 99) Value.none 0)) #[]) ::
    (Obj.mk (Value.type "tuple") none (Data.seq #[]) #[]) ::
    (Obj.mk Value.none none (Data.fields #[]) #[]) ::
    (Obj.mk (Value.type "tuple") none (Data.seq #[Value.str (Str.ofString "text") 311]) #[]) ::
    (Obj.mk (Value.type "tuple") none (Data.seq #[]) #[]) ::
    (Obj.mk Value.none none (Data.func (FuncData.mk (Str.ofString "checked_text") (Str.ofString "checked_text") (dF (Str.ofString "checked_text")).1 (FuncBody.stmts (dF (Str.ofString "checked_text")).2.1) (dF (Str.ofString "checked_text")).2.2 0 [] Value.none Value.none Value.none Value.none none Value.none Value.none 0)) #[]) ::
    (Obj.mk (Value.type "code") none (Data.fields #[Value.str (Str.ofString "checked_text") 308, Value.str (Str.ofString "checked_text") 309, Value.str (Str.ofString "/claim/cut.py") 310, Value.int 68 0, Value.int 1 0, Value.int 0 0, Value.int 0 0, Value.int 3 0, Value.ref 101, Value.bool true, Value.int 181 0, Value.ref 102, Value.none, Value.ref 103, Value.ref 104, Value.ref 105, Value.int 312 0, Value.int 68 0, Value.str (Str.ofString "/claim/cut.py") 313]) #[]) ::
    (Obj.mk (Value.type "function") none (Data.func (FuncData.mk (Str.ofString "checked_text") (Str.ofString "checked_text") (dF (Str.ofString "checked_text")).1 (FuncBody.stmts (dF (Str.ofString "checked_text")).2.1) (dF (Str.ofString "checked_text")).2.2 3 [] Value.none Value.none Value.none (Value.str (Str.ofString "basicplus.values") 187) none (Value.ref 106) Value.none 0)) #[]) ::
    (Obj.mk (Value.type "tuple") none (Data.seq #[]) #[]) ::
    (Obj.mk Value.none none (Data.fields #[]) #[]) ::
    (Obj.mk (Value.type "tuple") none (Data.seq #[Value.str (Str.ofString "is_so") 318]) #[]) ::
    (Obj.mk (Value.type "tuple") none (Data.seq #[]) #[]) ::
    (Obj.mk Value.none none (Data.func (FuncData.mk (Str.ofString "truth") (Str.ofString "truth") (dF (Str.ofString "truth")).1 (FuncBody.stmts (dF (Str.ofString "truth")).2.1) (dF (Str.ofString "truth")).2.2 0 [] Value.none Value.none Value.none Value.none none Value.none Value.none 0)) #[]) ::
    (Obj.mk (Value.type "code") none (Data.fields #[Value.str (Str.ofString "truth") 315, Value.str (Str.ofString "truth") 316, Value.str (Str.ofString "/claim/cut.py") 317, Value.int 72 0, Value.int 1 0, Value.int 0 0, Value.int 0 0, Value.int 3 0, Value.ref 108, Value.bool true, Value.int 181 0, Value.ref 109, Value.none, Value.ref 110, Value.ref 111, Value.ref 112, Value.int 319 0, Value.int 72 0, Value.str (Str.ofString "/claim/cut.py") 320]) #[]) ::
    (Obj.mk (Value.type "function") none (Data.func (FuncData.mk (Str.ofString "truth") (Str.ofString "truth") (dF (Str.ofString "truth")).1 (FuncBody.stmts (dF (Str.ofString "truth")).2.1) (dF (Str.ofString "truth")).2.2 3 [] Value.none Value.none Value.none (Value.str (Str.ofString "basicplus.values") 187) none (Value.ref 113) Value.none 0)) #[]) ::
    (Obj.mk (Value.type "tuple") none (Data.seq #[Value.int 1 324, Value.int 0 325]) #[]) ::
    (Obj.mk (Value.type "tuple") none (Data.seq #[]) #[]) ::
    (Obj.mk Value.none none (Data.fields #[]) #[]) ::
    (Obj.mk (Value.type "tuple") none (Data.seq #[Value.str (Str.ofString "a") 332]) #[]) ::
    (Obj.mk (Value.type "tuple") none (Data.seq #[]) #[]) ::
    (Obj.mk Value.none none (Data.func (FuncData.mk (Str.ofString "d_negated") (Str.ofString "d_negated") (dF (Str.ofString "d_negated")).1 (FuncBody.stmts (dF (Str.ofString "d_negated")).2.1) (dF (Str.ofString "d_negated")).2.2 0 [] Value.none Value.none Value.none Value.none none Value.none Value.none 0)) #[]) ::
    (Obj.mk (Value.type "code") none (Data.fields #[Value.str (Str.ofString "d_negated") 329, Value.str (Str.ofString "d_negated") 330, Value.str (Str.ofString "/claim/cut.py") 331, Value.int 77 0, Value.int 1 0, Value.int 0 0, Value.int 0 0, Value.int 3 0, Value.ref 116, Value.bool true, Value.int 181 0, Value.ref 117, Value.none, Value.ref 118, Value.ref 119, Value.ref 120, Value.int 333 0, Value.int 77 0, Value.str (Str.ofString "/claim/cut.py") 334]) #[]) ::
    (Obj.mk (Value.type "function") none (Data.func (FuncData.mk (Str.ofString "d_negated") (Str.ofString "d_negated") (dF (Str.ofString "d_negated")).1 (FuncBody.stmts (dF (Str.ofString "d_negated")).2.1) (dF (Str.ofString "d_negated")).2.2 3 [] Value.none Value.none Value.none (Value.str (Str.ofString "basicplus.decimals") 322) none (Value.ref 121) Value.none 0)) #[]) ::
    (Obj.mk (Value.type "tuple") none (Data.seq #[]) #[]) ::
    (Obj.mk Value.none none (Data.fields #[]) #[]) ::
    (Obj.mk (Value.type "tuple") none (Data.seq #[Value.str (Str.ofString "a") 339, Value.str (Str.ofString "b") 340, Value.str (Str.ofString "least") 341]) #[]) ::
    (Obj.mk (Value.type "tuple") none (Data.seq #[]) #[]) ::
    (Obj.mk Value.none none (Data.func (FuncData.mk (Str.ofString "alike") (Str.ofString "alike") (dF (Str.ofString "alike")).1 (FuncBody.stmts (dF (Str.ofString "alike")).2.1) (dF (Str.ofString "alike")).2.2 0 [] Value.none Value.none Value.none Value.none none Value.none Value.none 0)) #[]) ::
    (Obj.mk (Value.type "code") none (Data.fields #[Value.str (Str.ofString "alike") 336, Value.str (Str.ofString "alike") 337, Value.str (Str.ofString "/claim/cut.py") 338, Value.int 79 0, Value.int 2 0, Value.int 0 0, Value.int 0 0, Value.int 3 0, Value.ref 123, Value.bool true, Value.int 181 0, Value.ref 124, Value.none, Value.ref 125, Value.ref 126, Value.ref 127, Value.int 342 0, Value.int 79 0, Value.str (Str.ofString "/claim/cut.py") 343]) #[]) ::
    (Obj.mk (Value.type "function") none (Data.func (FuncData.mk (Str.ofString "alike") (Str.ofString "alike") (dF (Str.ofString "alike")).1 (FuncBody.stmts (dF (Str.ofString "alike")).2.1) (dF (Str.ofString "alike")).2.2 3 [] Value.none Value.none Value.none (Value.str (Str.ofString "basicplus.decimals") 322) none (Value.ref 128) Value.none 0)) #[]) ::
    (Obj.mk (Value.type "tuple") none (Data.seq #[]) #[]) ::
    (Obj.mk Value.none none (Data.fields #[]) #[]) ::
    (Obj.mk (Value.type "tuple") none (Data.seq #[Value.str (Str.ofString "a") 348, Value.str (Str.ofString "b") 349, Value.str (Str.ofString "digits") 350, Value.str (Str.ofString "one") 351, Value.str (Str.ofString "other") 352, Value.str (Str.ofString "exponent") 353]) #[]) ::
    (Obj.mk (Value.type "tuple") none (Data.seq #[]) #[]) ::
    (Obj.mk Value.none none (Data.func (FuncData.mk (Str.ofString "d_add") (Str.ofString "d_add") (dF (Str.ofString "d_add")).1 (FuncBody.stmts (dF (Str.ofString "d_add")).2.1) (dF (Str.ofString "d_add")).2.2 0 [] Value.none Value.none Value.none Value.none none Value.none Value.none 0)) #[]) ::
    (Obj.mk (Value.type "code") none (Data.fields #[Value.str (Str.ofString "d_add") 345, Value.str (Str.ofString "d_add") 346, Value.str (Str.ofString "/claim/cut.py") 347, Value.int 82 0, Value.int 3 0, Value.int 0 0, Value.int 0 0, Value.int 3 0, Value.ref 130, Value.bool true, Value.int 181 0, Value.ref 131, Value.none, Value.ref 132, Value.ref 133, Value.ref 134, Value.int 354 0, Value.int 82 0, Value.str (Str.ofString "/claim/cut.py") 355]) #[]) ::
    (Obj.mk (Value.type "function") none (Data.func (FuncData.mk (Str.ofString "d_add") (Str.ofString "d_add") (dF (Str.ofString "d_add")).1 (FuncBody.stmts (dF (Str.ofString "d_add")).2.1) (dF (Str.ofString "d_add")).2.2 3 [] Value.none Value.none Value.none (Value.str (Str.ofString "basicplus.decimals") 322) none (Value.ref 135) Value.none 0)) #[]) ::
    (Obj.mk (Value.type "tuple") none (Data.seq #[]) #[]) ::
    (Obj.mk Value.none none (Data.fields #[]) #[]) ::
    (Obj.mk (Value.type "tuple") none (Data.seq #[Value.str (Str.ofString "a") 360, Value.str (Str.ofString "b") 361, Value.str (Str.ofString "digits") 362]) #[]) ::
    (Obj.mk (Value.type "tuple") none (Data.seq #[]) #[]) ::
    (Obj.mk Value.none none (Data.func (FuncData.mk (Str.ofString "d_sub") (Str.ofString "d_sub") (dF (Str.ofString "d_sub")).1 (FuncBody.stmts (dF (Str.ofString "d_sub")).2.1) (dF (Str.ofString "d_sub")).2.2 0 [] Value.none Value.none Value.none Value.none none Value.none Value.none 0)) #[]) ::
    (Obj.mk (Value.type "code") none (Data.fields #[Value.str (Str.ofString "d_sub") 357, Value.str (Str.ofString "d_sub") 358, Value.str (Str.ofString "/claim/cut.py") 359, Value.int 85 0, Value.int 3 0, Value.int 0 0, Value.int 0 0, Value.int 3 0, Value.ref 137, Value.bool true, Value.int 181 0, Value.ref 138, Value.none, Value.ref 139, Value.ref 140, Value.ref 141, Value.int 363 0, Value.int 85 0, Value.str (Str.ofString "/claim/cut.py") 364]) #[]) ::
    (Obj.mk (Value.type "function") none (Data.func (FuncData.mk (Str.ofString "d_sub") (Str.ofString "d_sub") (dF (Str.ofString "d_sub")).1 (FuncBody.stmts (dF (Str.ofString "d_sub")).2.1) (dF (Str.ofString "d_sub")).2.2 3 [] Value.none Value.none Value.none (Value.str (Str.ofString "basicplus.decimals") 322) none (Value.ref 142) Value.none 0)) #[]) ::
    (Obj.mk (Value.type "tuple") none (Data.seq #[]) #[]) ::
    (Obj.mk Value.none none (Data.fields #[]) #[]) ::
    (Obj.mk (Value.type "tuple") none (Data.seq #[Value.str (Str.ofString "a") 369, Value.str (Str.ofString "b") 370, Value.str (Str.ofString "digits") 371]) #[]) ::
    (Obj.mk (Value.type "tuple") none (Data.seq #[]) #[]) ::
    (Obj.mk Value.none none (Data.func (FuncData.mk (Str.ofString "d_mul") (Str.ofString "d_mul") (dF (Str.ofString "d_mul")).1 (FuncBody.stmts (dF (Str.ofString "d_mul")).2.1) (dF (Str.ofString "d_mul")).2.2 0 [] Value.none Value.none Value.none Value.none none Value.none Value.none 0)) #[]) ::
    (Obj.mk (Value.type "code") none (Data.fields #[Value.str (Str.ofString "d_mul") 366, Value.str (Str.ofString "d_mul") 367, Value.str (Str.ofString "/claim/cut.py") 368, Value.int 87 0, Value.int 3 0, Value.int 0 0, Value.int 0 0, Value.int 3 0, Value.ref 144, Value.bool true, Value.int 181 0, Value.ref 145, Value.none, Value.ref 146, Value.ref 147, Value.ref 148, Value.int 372 0, Value.int 87 0, Value.str (Str.ofString "/claim/cut.py") 373]) #[]) ::
    (Obj.mk (Value.type "function") none (Data.func (FuncData.mk (Str.ofString "d_mul") (Str.ofString "d_mul") (dF (Str.ofString "d_mul")).1 (FuncBody.stmts (dF (Str.ofString "d_mul")).2.1) (dF (Str.ofString "d_mul")).2.2 3 [] Value.none Value.none Value.none (Value.str (Str.ofString "basicplus.decimals") 322) none (Value.ref 149) Value.none 0)) #[]) ::
    (Obj.mk (Value.type "tuple") none (Data.seq #[]) #[]) ::
    (Obj.mk Value.none none (Data.fields #[]) #[]) ::
    (Obj.mk (Value.type "tuple") none (Data.seq #[Value.str (Str.ofString "whole") 378, Value.str (Str.ofString "rest") 379, Value.str (Str.ofString "exponent") 380]) #[]) ::
    (Obj.mk (Value.type "tuple") none (Data.seq #[]) #[]) ::
    (Obj.mk Value.none none (Data.func (FuncData.mk (Str.ofString "with_rest") (Str.ofString "with_rest") (dF (Str.ofString "with_rest")).1 (FuncBody.stmts (dF (Str.ofString "with_rest")).2.1) (dF (Str.ofString "with_rest")).2.2 0 [] Value.none Value.none Value.none Value.none none Value.none Value.none 0)) #[]) ::
    (Obj.mk (Value.type "code") none (Data.fields #[Value.str (Str.ofString "with_rest") 375, Value.str (Str.ofString "with_rest") 376, Value.str (Str.ofString "/claim/cut.py") 377, Value.int 89 0, Value.int 3 0, Value.int 0 0, Value.int 0 0, Value.int 3 0, Value.ref 151, Value.bool true, Value.int 181 0, Value.ref 152, Value.none, Value.ref 153, Value.ref 154, Value.ref 155, Value.int 381 0, Value.int 89 0, Value.str (Str.ofString "/claim/cut.py") 382]) #[]) ::
    (Obj.mk (Value.type "function") none (Data.func (FuncData.mk (Str.ofString "with_rest") (Str.ofString "with_rest") (dF (Str.ofString "with_rest")).1 (FuncBody.stmts (dF (Str.ofString "with_rest")).2.1) (dF (Str.ofString "with_rest")).2.2 3 [] Value.none Value.none Value.none (Value.str (Str.ofString "basicplus.decimals") 322) none (Value.ref 156) Value.none 0)) #[]) ::
    (Obj.mk (Value.type "tuple") none (Data.seq #[]) #[]) ::
    (Obj.mk Value.none none (Data.fields #[]) #[]) ::
    (Obj.mk (Value.type "tuple") none (Data.seq #[Value.str (Str.ofString "a") 387, Value.str (Str.ofString "b") 388, Value.str (Str.ofString "digits") 389, Value.str (Str.ofString "size") 390, Value.str (Str.ofString "below") 391, Value.str (Str.ofString "places") 392, Value.str (Str.ofString "whole") 393, Value.str (Str.ofString "exponent") 394]) #[]) ::
    (Obj.mk (Value.type "tuple") none (Data.seq #[]) #[]) ::
    (Obj.mk Value.none none (Data.func (FuncData.mk (Str.ofString "d_div") (Str.ofString "d_div") (dF (Str.ofString "d_div")).1 (FuncBody.stmts (dF (Str.ofString "d_div")).2.1) (dF (Str.ofString "d_div")).2.2 0 [] Value.none Value.none Value.none Value.none none Value.none Value.none 0)) #[]) ::
    (Obj.mk (Value.type "code") none (Data.fields #[Value.str (Str.ofString "d_div") 384, Value.str (Str.ofString "d_div") 385, Value.str (Str.ofString "/claim/cut.py") 386, Value.int 91 0, Value.int 3 0, Value.int 0 0, Value.int 0 0, Value.int 3 0, Value.ref 158, Value.bool true, Value.int 181 0, Value.ref 159, Value.none, Value.ref 160, Value.ref 161, Value.ref 162, Value.int 395 0, Value.int 91 0, Value.str (Str.ofString "/claim/cut.py") 396]) #[]) ::
    (Obj.mk (Value.type "function") none (Data.func (FuncData.mk (Str.ofString "d_div") (Str.ofString "d_div") (dF (Str.ofString "d_div")).1 (FuncBody.stmts (dF (Str.ofString "d_div")).2.1) (dF (Str.ofString "d_div")).2.2 3 [] Value.none Value.none Value.none (Value.str (Str.ofString "basicplus.decimals") 322) none (Value.ref 163) Value.none 0)) #[]) ::
    (Obj.mk (Value.type "tuple") none (Data.seq #[]) #[]) ::
    (Obj.mk Value.none none (Data.fields #[]) #[]) ::
    (Obj.mk (Value.type "tuple") none (Data.seq #[Value.str (Str.ofString "a") 401, Value.str (Str.ofString "b") 402, Value.str (Str.ofString "one") 403, Value.str (Str.ofString "other") 404, Value.str (Str.ofString "exponent") 405]) #[]) ::
    (Obj.mk (Value.type "tuple") none (Data.seq #[]) #[]) ::
    (Obj.mk Value.none none (Data.func (FuncData.mk (Str.ofString "d_compare") (Str.ofString "d_compare") (dF (Str.ofString "d_compare")).1 (FuncBody.stmts (dF (Str.ofString "d_compare")).2.1) (dF (Str.ofString "d_compare")).2.2 0 [] Value.none Value.none Value.none Value.none none Value.none Value.none 0)) #[]) ::
    (Obj.mk (Value.type "code") none (Data.fields #[Value.str (Str.ofString "d_compare") 398, Value.str (Str.ofString "d_compare") 399, Value.str (Str.ofString "/claim/cut.py") 400, Value.int 99 0, Value.int 2 0, Value.int 0 0, Value.int 0 0, Value.int 3 0, Value.ref 165, Value.bool true, Value.int 181 0, Value.ref 166, Value.none, Value.ref 167, Value.ref 168, Value.ref 169, Value.int 406 0, Value.int 99 0, Value.str (Str.ofString "/claim/cut.py") 407]) #[]) ::
    (Obj.mk (Value.type "function") none (Data.func (FuncData.mk (Str.ofString "d_compare") (Str.ofString "d_compare") (dF (Str.ofString "d_compare")).1 (FuncBody.stmts (dF (Str.ofString "d_compare")).2.1) (dF (Str.ofString "d_compare")).2.2 3 [] Value.none Value.none Value.none (Value.str (Str.ofString "basicplus.decimals") 322) none (Value.ref 170) Value.none 0)) #[]) ::
    (Obj.mk (Value.type "tuple") none (Data.seq #[]) #[]) ::
    (Obj.mk Value.none none (Data.fields #[]) #[]) ::
    (Obj.mk (Value.type "tuple") none (Data.seq #[Value.str (Str.ofString "a") 412, Value.str (Str.ofString "n") 413, Value.str (Str.ofString "digits") 414, Value.str (Str.ofString "work") 415, Value.str (Str.ofString "found") 416, Value.str (Str.ofString "left") 417]) #[]) ::
    (Obj.mk (Value.type "tuple") none (Data.seq #[]) #[]) ::
    (Obj.mk Value.none none (Data.func (FuncData.mk (Str.ofString "d_power") (Str.ofString "d_power") (dF (Str.ofString "d_power")).1 (FuncBody.stmts (dF (Str.ofString "d_power")).2.1) (dF (Str.ofString "d_power")).2.2 0 [] Value.none Value.none Value.none Value.none none Value.none Value.none 0)) #[]) ::
    (Obj.mk (Value.type "code") none (Data.fields #[Value.str (Str.ofString "d_power") 409, Value.str (Str.ofString "d_power") 410, Value.str (Str.ofString "/claim/cut.py") 411, Value.int 102 0, Value.int 3 0, Value.int 0 0, Value.int 0 0, Value.int 3 0, Value.ref 172, Value.bool true, Value.int 181 0, Value.ref 173, Value.none, Value.ref 174, Value.ref 175, Value.ref 176, Value.int 418 0, Value.int 102 0, Value.str (Str.ofString "/claim/cut.py") 419]) #[]) ::
    (Obj.mk (Value.type "function") none (Data.func (FuncData.mk (Str.ofString "d_power") (Str.ofString "d_power") (dF (Str.ofString "d_power")).1 (FuncBody.stmts (dF (Str.ofString "d_power")).2.1) (dF (Str.ofString "d_power")).2.2 3 [] Value.none Value.none Value.none (Value.str (Str.ofString "basicplus.decimals") 322) none (Value.ref 177) Value.none 0)) #[]) ::
    (Obj.mk (Value.type "tuple") none (Data.seq #[]) #[]) ::
    (Obj.mk Value.none none (Data.fields #[]) #[]) ::
    (Obj.mk (Value.type "tuple") none (Data.seq #[Value.str (Str.ofString "a") 424, Value.str (Str.ofString "work") 425]) #[]) ::
    (Obj.mk (Value.type "tuple") none (Data.seq #[]) #[]) ::
    (Obj.mk Value.none none (Data.func (FuncData.mk (Str.ofString "square_or_end") (Str.ofString "square_or_end") (dF (Str.ofString "square_or_end")).1 (FuncBody.stmts (dF (Str.ofString "square_or_end")).2.1) (dF (Str.ofString "square_or_end")).2.2 0 [] Value.none Value.none Value.none Value.none none Value.none Value.none 0)) #[]) ::
    (Obj.mk (Value.type "code") none (Data.fields #[Value.str (Str.ofString "square_or_end") 421, Value.str (Str.ofString "square_or_end") 422, Value.str (Str.ofString "/claim/cut.py") 423, Value.int 116 0, Value.int 2 0, Value.int 0 0, Value.int 0 0, Value.int 3 0, Value.ref 179, Value.bool true, Value.int 181 0, Value.ref 180, Value.none, Value.ref 181, Value.ref 182, Value.ref 183, Value.int 426 0, Value.int 116 0, Value.str (Str.ofString "/claim/cut.py") 427]) #[]) ::
    (Obj.mk (Value.type "function") none (Data.func (FuncData.mk (Str.ofString "square_or_end") (Str.ofString "square_or_end") (dF (Str.ofString "square_or_end")).1 (FuncBody.stmts (dF (Str.ofString "square_or_end")).2.1) (dF (Str.ofString "square_or_end")).2.2 3 [] Value.none Value.none Value.none (Value.str (Str.ofString "basicplus.decimals") 322) none (Value.ref 184) Value.none 0)) #[]) ::
    (Obj.mk (Value.type "tuple") none (Data.seq #[]) #[]) ::
    (Obj.mk Value.none none (Data.fields #[]) #[]) ::
    (Obj.mk (Value.type "tuple") none (Data.seq #[Value.str (Str.ofString "value") 434]) #[]) ::
    (Obj.mk (Value.type "tuple") none (Data.seq #[]) #[]) ::
    (Obj.mk Value.none none (Data.func (FuncData.mk (Str.ofString "is_whole") (Str.ofString "is_whole") (dF (Str.ofString "is_whole")).1 (FuncBody.stmts (dF (Str.ofString "is_whole")).2.1) (dF (Str.ofString "is_whole")).2.2 0 [] Value.none Value.none Value.none Value.none none Value.none Value.none 0)) #[]) ::
    (Obj.mk (Value.type "code") none (Data.fields #[Value.str (Str.ofString "is_whole") 431, Value.str (Str.ofString "is_whole") 432, Value.str (Str.ofString "/claim/cut.py") 433, Value.int 119 0, Value.int 1 0, Value.int 0 0, Value.int 0 0, Value.int 3 0, Value.ref 186, Value.bool true, Value.int 181 0, Value.ref 187, Value.none, Value.ref 188, Value.ref 189, Value.ref 190, Value.int 435 0, Value.int 119 0, Value.str (Str.ofString "/claim/cut.py") 436]) #[]) ::
    (Obj.mk (Value.type "function") none (Data.func (FuncData.mk (Str.ofString "is_whole") (Str.ofString "is_whole") (dF (Str.ofString "is_whole")).1 (FuncBody.stmts (dF (Str.ofString "is_whole")).2.1) (dF (Str.ofString "is_whole")).2.2 3 [] Value.none Value.none Value.none (Value.str (Str.ofString "basicplus.arith") 429) none (Value.ref 191) Value.none 0)) #[]) ::
    (Obj.mk (Value.type "tuple") none (Data.seq #[]) #[]) ::
    (Obj.mk Value.none none (Data.fields #[]) #[]) ::
    (Obj.mk (Value.type "tuple") none (Data.seq #[Value.str (Str.ofString "number") 441, Value.str (Str.ofString "bits") 442, Value.str (Str.ofString "digits") 443]) #[]) ::
    (Obj.mk (Value.type "tuple") none (Data.seq #[]) #[]) ::
    (Obj.mk Value.none none (Data.func (FuncData.mk (Str.ofString "settled") (Str.ofString "settled") (dF (Str.ofString "settled")).1 (FuncBody.stmts (dF (Str.ofString "settled")).2.1) (dF (Str.ofString "settled")).2.2 0 [] Value.none Value.none Value.none Value.none none Value.none Value.none 0)) #[]) ::
    (Obj.mk (Value.type "code") none (Data.fields #[Value.str (Str.ofString "settled") 438, Value.str (Str.ofString "settled") 439, Value.str (Str.ofString "/claim/cut.py") 440, Value.int 123 0, Value.int 3 0, Value.int 0 0, Value.int 0 0, Value.int 3 0, Value.ref 193, Value.bool true, Value.int 181 0, Value.ref 194, Value.none, Value.ref 195, Value.ref 196, Value.ref 197, Value.int 444 0, Value.int 123 0, Value.str (Str.ofString "/claim/cut.py") 445]) #[]) ::
    (Obj.mk (Value.type "function") none (Data.func (FuncData.mk (Str.ofString "settled") (Str.ofString "settled") (dF (Str.ofString "settled")).1 (FuncBody.stmts (dF (Str.ofString "settled")).2.1) (dF (Str.ofString "settled")).2.2 3 [] Value.none Value.none Value.none (Value.str (Str.ofString "basicplus.arith") 429) none (Value.ref 198) Value.none 0)) #[]) ::
    (Obj.mk (Value.type "tuple") none (Data.seq #[]) #[]) ::
    (Obj.mk Value.none none (Data.fields #[]) #[]) ::
    (Obj.mk (Value.type "tuple") none (Data.seq #[Value.str (Str.ofString "op") 450, Value.str (Str.ofString "a") 451, Value.str (Str.ofString "b") 452, Value.str (Str.ofString "bits") 453, Value.str (Str.ofString "digits") 454]) #[]) ::
    (Obj.mk (Value.type "tuple") none (Data.seq #[]) #[]) ::
    (Obj.mk Value.none none (Data.func (FuncData.mk (Str.ofString "whole_reckoned") (Str.ofString "whole_reckoned") (dF (Str.ofString "whole_reckoned")).1 (FuncBody.stmts (dF (Str.ofString "whole_reckoned")).2.1) (dF (Str.ofString "whole_reckoned")).2.2 0 [] Value.none Value.none Value.none Value.none none Value.none Value.none 0)) #[]) ::
    (Obj.mk (Value.type "code") none (Data.fields #[Value.str (Str.ofString "whole_reckoned") 447, Value.str (Str.ofString "whole_reckoned") 448, Value.str (Str.ofString "/claim/cut.py") 449, Value.int 125 0, Value.int 5 0, Value.int 0 0, Value.int 0 0, Value.int 3 0, Value.ref 200, Value.bool true, Value.int 181 0, Value.ref 201, Value.none, Value.ref 202, Value.ref 203, Value.ref 204, Value.int 455 0, Value.int 125 0, Value.str (Str.ofString "/claim/cut.py") 456]) #[]) ::
    (Obj.mk (Value.type "function") none (Data.func (FuncData.mk (Str.ofString "whole_reckoned") (Str.ofString "whole_reckoned") (dF (Str.ofString "whole_reckoned")).1 (FuncBody.stmts (dF (Str.ofString "whole_reckoned")).2.1) (dF (Str.ofString "whole_reckoned")).2.2 3 [] Value.none Value.none Value.none (Value.str (Str.ofString "basicplus.arith") 429) none (Value.ref 205) Value.none 0)) #[]) ::
    (Obj.mk (Value.type "tuple") none (Data.seq #[]) #[]) ::
    (Obj.mk Value.none none (Data.fields #[]) #[]) ::
    (Obj.mk (Value.type "tuple") none (Data.seq #[Value.str (Str.ofString "a") 461, Value.str (Str.ofString "b") 462, Value.str (Str.ofString "found") 463]) #[]) ::
    (Obj.mk (Value.type "tuple") none (Data.seq #[]) #[]) ::
    (Obj.mk Value.none none (Data.func (FuncData.mk (Str.ofString "cut_quotient") (Str.ofString "cut_quotient") (dF (Str.ofString "cut_quotient")).1 (FuncBody.stmts (dF (Str.ofString "cut_quotient")).2.1) (dF (Str.ofString "cut_quotient")).2.2 0 [] Value.none Value.none Value.none Value.none none Value.none Value.none 0)) #[]) ::
    (Obj.mk (Value.type "code") none (Data.fields #[Value.str (Str.ofString "cut_quotient") 458, Value.str (Str.ofString "cut_quotient") 459, Value.str (Str.ofString "/claim/cut.py") 460, Value.int 129 0, Value.int 2 0, Value.int 0 0, Value.int 0 0, Value.int 3 0, Value.ref 207, Value.bool true, Value.int 181 0, Value.ref 208, Value.none, Value.ref 209, Value.ref 210, Value.ref 211, Value.int 464 0, Value.int 129 0, Value.str (Str.ofString "/claim/cut.py") 465]) #[]) ::
    (Obj.mk (Value.type "function") none (Data.func (FuncData.mk (Str.ofString "cut_quotient") (Str.ofString "cut_quotient") (dF (Str.ofString "cut_quotient")).1 (FuncBody.stmts (dF (Str.ofString "cut_quotient")).2.1) (dF (Str.ofString "cut_quotient")).2.2 3 [] Value.none Value.none Value.none (Value.str (Str.ofString "basicplus.arith") 429) none (Value.ref 212) Value.none 0)) #[]) ::
    (Obj.mk (Value.type "tuple") none (Data.seq #[]) #[]) ::
    (Obj.mk Value.none none (Data.fields #[]) #[]) ::
    (Obj.mk (Value.type "tuple") none (Data.seq #[Value.str (Str.ofString "a") 470, Value.str (Str.ofString "b") 471]) #[]) ::
    (Obj.mk (Value.type "tuple") none (Data.seq #[]) #[]) ::
    (Obj.mk Value.none none (Data.func (FuncData.mk (Str.ofString "cut_rest") (Str.ofString "cut_rest") (dF (Str.ofString "cut_rest")).1 (FuncBody.stmts (dF (Str.ofString "cut_rest")).2.1) (dF (Str.ofString "cut_rest")).2.2 0 [] Value.none Value.none Value.none Value.none none Value.none Value.none 0)) #[]) ::
    (Obj.mk (Value.type "code") none (Data.fields #[Value.str (Str.ofString "cut_rest") 467, Value.str (Str.ofString "cut_rest") 468, Value.str (Str.ofString "/claim/cut.py") 469, Value.int 134 0, Value.int 2 0, Value.int 0 0, Value.int 0 0, Value.int 3 0, Value.ref 214, Value.bool true, Value.int 181 0, Value.ref 215, Value.none, Value.ref 216, Value.ref 217, Value.ref 218, Value.int 472 0, Value.int 134 0, Value.str (Str.ofString "/claim/cut.py") 473]) #[]) ::
    (Obj.mk (Value.type "function") none (Data.func (FuncData.mk (Str.ofString "cut_rest") (Str.ofString "cut_rest") (dF (Str.ofString "cut_rest")).1 (FuncBody.stmts (dF (Str.ofString "cut_rest")).2.1) (dF (Str.ofString "cut_rest")).2.2 3 [] Value.none Value.none Value.none (Value.str (Str.ofString "basicplus.arith") 429) none (Value.ref 219) Value.none 0)) #[]) ::
    (Obj.mk (Value.type "tuple") none (Data.seq #[]) #[]) ::
    (Obj.mk Value.none none (Data.fields #[]) #[]) ::
    (Obj.mk (Value.type "tuple") none (Data.seq #[Value.str (Str.ofString "value") 478]) #[]) ::
    (Obj.mk (Value.type "tuple") none (Data.seq #[]) #[]) ::
    (Obj.mk Value.none none (Data.func (FuncData.mk (Str.ofString "exponent_of") (Str.ofString "exponent_of") (dF (Str.ofString "exponent_of")).1 (FuncBody.stmts (dF (Str.ofString "exponent_of")).2.1) (dF (Str.ofString "exponent_of")).2.2 0 [] Value.none Value.none Value.none Value.none none Value.none Value.none 0)) #[]) ::
    (Obj.mk (Value.type "code") none (Data.fields #[Value.str (Str.ofString "exponent_of") 475, Value.str (Str.ofString "exponent_of") 476, Value.str (Str.ofString "/claim/cut.py") 477, Value.int 136 0, Value.int 1 0, Value.int 0 0, Value.int 0 0, Value.int 3 0, Value.ref 221, Value.bool true, Value.int 181 0, Value.ref 222, Value.none, Value.ref 223, Value.ref 224, Value.ref 225, Value.int 479 0, Value.int 136 0, Value.str (Str.ofString "/claim/cut.py") 480]) #[]) ::
    (Obj.mk (Value.type "function") none (Data.func (FuncData.mk (Str.ofString "exponent_of") (Str.ofString "exponent_of") (dF (Str.ofString "exponent_of")).1 (FuncBody.stmts (dF (Str.ofString "exponent_of")).2.1) (dF (Str.ofString "exponent_of")).2.2 3 [] Value.none Value.none Value.none (Value.str (Str.ofString "basicplus.arith") 429) none (Value.ref 226) Value.none 0)) #[]) ::
    (Obj.mk (Value.type "tuple") none (Data.seq #[]) #[]) ::
    (Obj.mk Value.none none (Data.fields #[]) #[]) ::
    (Obj.mk (Value.type "tuple") none (Data.seq #[Value.str (Str.ofString "a") 485, Value.str (Str.ofString "n") 486, Value.str (Str.ofString "bits") 487, Value.str (Str.ofString "digits") 488]) #[]) ::
    (Obj.mk (Value.type "tuple") none (Data.seq #[]) #[]) ::
    (Obj.mk Value.none none (Data.func (FuncData.mk (Str.ofString "whole_power") (Str.ofString "whole_power") (dF (Str.ofString "whole_power")).1 (FuncBody.stmts (dF (Str.ofString "whole_power")).2.1) (dF (Str.ofString "whole_power")).2.2 0 [] Value.none Value.none Value.none Value.none none Value.none Value.none 0)) #[]) ::
    (Obj.mk (Value.type "code") none (Data.fields #[Value.str (Str.ofString "whole_power") 482, Value.str (Str.ofString "whole_power") 483, Value.str (Str.ofString "/claim/cut.py") 484, Value.int 142 0, Value.int 4 0, Value.int 0 0, Value.int 0 0, Value.int 3 0, Value.ref 228, Value.bool true, Value.int 181 0, Value.ref 229, Value.none, Value.ref 230, Value.ref 231, Value.ref 232, Value.int 489 0, Value.int 142 0, Value.str (Str.ofString "/claim/cut.py") 490]) #[]) ::
    (Obj.mk (Value.type "function") none (Data.func (FuncData.mk (Str.ofString "whole_power") (Str.ofString "whole_power") (dF (Str.ofString "whole_power")).1 (FuncBody.stmts (dF (Str.ofString "whole_power")).2.1) (dF (Str.ofString "whole_power")).2.2 3 [] Value.none Value.none Value.none (Value.str (Str.ofString "basicplus.arith") 429) none (Value.ref 233) Value.none 0)) #[]) ::
    (Obj.mk (Value.type "tuple") none (Data.seq #[]) #[]) ::
    (Obj.mk Value.none none (Data.fields #[]) #[]) ::
    (Obj.mk (Value.type "tuple") none (Data.seq #[Value.str (Str.ofString "a") 495, Value.str (Str.ofString "b") 496, Value.str (Str.ofString "bits") 497, Value.str (Str.ofString "digits") 498, Value.str (Str.ofString "n") 499]) #[]) ::
    (Obj.mk (Value.type "tuple") none (Data.seq #[]) #[]) ::
    (Obj.mk Value.none none (Data.func (FuncData.mk (Str.ofString "raised") (Str.ofString "raised") (dF (Str.ofString "raised")).1 (FuncBody.stmts (dF (Str.ofString "raised")).2.1) (dF (Str.ofString "raised")).2.2 0 [] Value.none Value.none Value.none Value.none none Value.none Value.none 0)) #[]) ::
    (Obj.mk (Value.type "code") none (Data.fields #[Value.str (Str.ofString "raised") 492, Value.str (Str.ofString "raised") 493, Value.str (Str.ofString "/claim/cut.py") 494, Value.int 148 0, Value.int 4 0, Value.int 0 0, Value.int 0 0, Value.int 3 0, Value.ref 235, Value.bool true, Value.int 181 0, Value.ref 236, Value.none, Value.ref 237, Value.ref 238, Value.ref 239, Value.int 500 0, Value.int 148 0, Value.str (Str.ofString "/claim/cut.py") 501]) #[]) ::
    (Obj.mk (Value.type "function") none (Data.func (FuncData.mk (Str.ofString "raised") (Str.ofString "raised") (dF (Str.ofString "raised")).1 (FuncBody.stmts (dF (Str.ofString "raised")).2.1) (dF (Str.ofString "raised")).2.2 3 [] Value.none Value.none Value.none (Value.str (Str.ofString "basicplus.arith") 429) none (Value.ref 240) Value.none 0)) #[]) ::
    (Obj.mk (Value.type "tuple") none (Data.seq #[]) #[]) ::
    (Obj.mk Value.none none (Data.fields #[]) #[]) ::
    (Obj.mk (Value.type "tuple") none (Data.seq #[Value.str (Str.ofString "op") 506, Value.str (Str.ofString "a") 507, Value.str (Str.ofString "b") 508, Value.str (Str.ofString "bits") 509, Value.str (Str.ofString "digits") 510, Value.str (Str.ofString "is_first") 511, Value.str (Str.ofString "is_second") 512, Value.str (Str.ofString "work") 513, Value.str (Str.ofString "one") 514, Value.str (Str.ofString "other") 515]) #[]) ::
    (Obj.mk (Value.type "tuple") none (Data.seq #[]) #[]) ::
    (Obj.mk Value.none none (Data.func (FuncData.mk (Str.ofString "reckoned") (Str.ofString "reckoned") (dF (Str.ofString "reckoned")).1 (FuncBody.stmts (dF (Str.ofString "reckoned")).2.1) (dF (Str.ofString "reckoned")).2.2 0 [] Value.none Value.none Value.none Value.none none Value.none Value.none 0)) #[]) ::
    (Obj.mk (Value.type "code") none (Data.fields #[Value.str (Str.ofString "reckoned") 503, Value.str (Str.ofString "reckoned") 504, Value.str (Str.ofString "/claim/cut.py") 505, Value.int 153 0, Value.int 5 0, Value.int 0 0, Value.int 0 0, Value.int 3 0, Value.ref 242, Value.bool true, Value.int 181 0, Value.ref 243, Value.none, Value.ref 244, Value.ref 245, Value.ref 246, Value.int 516 0, Value.int 153 0, Value.str (Str.ofString "/claim/cut.py") 517]) #[]) ::
    (Obj.mk (Value.type "function") none (Data.func (FuncData.mk (Str.ofString "reckoned") (Str.ofString "reckoned") (dF (Str.ofString "reckoned")).1 (FuncBody.stmts (dF (Str.ofString "reckoned")).2.1) (dF (Str.ofString "reckoned")).2.2 3 [] Value.none Value.none Value.none (Value.str (Str.ofString "basicplus.arith") 429) none (Value.ref 247) Value.none 0)) #[]) ::
    (Obj.mk (Value.type "tuple") none (Data.seq #[]) #[]) ::
    (Obj.mk Value.none none (Data.fields #[]) #[]) ::
    (Obj.mk (Value.type "tuple") none (Data.seq #[Value.str (Str.ofString "a") 522, Value.str (Str.ofString "b") 523]) #[]) ::
    (Obj.mk (Value.type "tuple") none (Data.seq #[]) #[]) ::
    (Obj.mk Value.none none (Data.func (FuncData.mk (Str.ofString "order_of") (Str.ofString "order_of") (dF (Str.ofString "order_of")).1 (FuncBody.stmts (dF (Str.ofString "order_of")).2.1) (dF (Str.ofString "order_of")).2.2 0 [] Value.none Value.none Value.none Value.none none Value.none Value.none 0)) #[]) ::
    (Obj.mk (Value.type "code") none (Data.fields #[Value.str (Str.ofString "order_of") 519, Value.str (Str.ofString "order_of") 520, Value.str (Str.ofString "/claim/cut.py") 521, Value.int 168 0, Value.int 2 0, Value.int 0 0, Value.int 0 0, Value.int 3 0, Value.ref 249, Value.bool true, Value.int 181 0, Value.ref 250, Value.none, Value.ref 251, Value.ref 252, Value.ref 253, Value.int 524 0, Value.int 168 0, Value.str (Str.ofString "/claim/cut.py") 525]) #[]) ::
    (Obj.mk (Value.type "function") none (Data.func (FuncData.mk (Str.ofString "order_of") (Str.ofString "order_of") (dF (Str.ofString "order_of")).1 (FuncBody.stmts (dF (Str.ofString "order_of")).2.1) (dF (Str.ofString "order_of")).2.2 3 [] Value.none Value.none Value.none (Value.str (Str.ofString "basicplus.arith") 429) none (Value.ref 254) Value.none 0)) #[]) ::
    (Obj.mk (Value.type "tuple") none (Data.seq #[]) #[]) ::
    (Obj.mk Value.none none (Data.fields #[]) #[]) ::
    (Obj.mk (Value.type "tuple") none (Data.seq #[Value.str (Str.ofString "op") 530, Value.str (Str.ofString "a") 531, Value.str (Str.ofString "b") 532, Value.str (Str.ofString "bits") 533, Value.str (Str.ofString "one") 534, Value.str (Str.ofString "other") 535]) #[]) ::
    (Obj.mk (Value.type "tuple") none (Data.seq #[]) #[]) ::
    (Obj.mk Value.none none (Data.func (FuncData.mk (Str.ofString "logic") (Str.ofString "logic") (dF (Str.ofString "logic")).1 (FuncBody.stmts (dF (Str.ofString "logic")).2.1) (dF (Str.ofString "logic")).2.2 0 [] Value.none Value.none Value.none Value.none none Value.none Value.none 0)) #[]) ::
    (Obj.mk (Value.type "code") none (Data.fields #[Value.str (Str.ofString "logic") 527, Value.str (Str.ofString "logic") 528, Value.str (Str.ofString "/claim/cut.py") 529, Value.int 174 0, Value.int 4 0, Value.int 0 0, Value.int 0 0, Value.int 3 0, Value.ref 256, Value.bool true, Value.int 181 0, Value.ref 257, Value.none, Value.ref 258, Value.ref 259, Value.ref 260, Value.int 536 0, Value.int 174 0, Value.str (Str.ofString "/claim/cut.py") 537]) #[]) ::
    (Obj.mk (Value.type "function") none (Data.func (FuncData.mk (Str.ofString "logic") (Str.ofString "logic") (dF (Str.ofString "logic")).1 (FuncBody.stmts (dF (Str.ofString "logic")).2.1) (dF (Str.ofString "logic")).2.2 3 [] Value.none Value.none Value.none (Value.str (Str.ofString "basicplus.arith") 429) none (Value.ref 261) Value.none 0)) #[]) ::
    (Obj.mk (Value.type "tuple") none (Data.seq #[Value.str (Str.ofString "AND") 541, Value.str (Str.ofString "OR") 542, Value.str (Str.ofString "XOR") 543, Value.str (Str.ofString "EQV") 544, Value.str (Str.ofString "IMP") 545]) #[]) ::
    (Obj.mk (Value.type "tuple") none (Data.seq #[Value.str (Str.ofString "=") 547, Value.str (Str.ofString "<>") 548, Value.str (Str.ofString "<") 549, Value.str (Str.ofString ">") 550, Value.str (Str.ofString "<=") 551, Value.str (Str.ofString ">=") 552]) #[]) ::
    (Obj.mk (Value.type "tuple") none (Data.seq #[]) #[]) ::
    (Obj.mk Value.none none (Data.fields #[]) #[]) ::
    (Obj.mk (Value.type "tuple") none (Data.seq #[Value.str (Str.ofString "one") 557, Value.str (Str.ofString "other") 558]) #[]) ::
    (Obj.mk (Value.type "tuple") none (Data.seq #[]) #[]) ::
    (Obj.mk Value.none none (Data.func (FuncData.mk (Str.ofString "order_of_texts") (Str.ofString "order_of_texts") (dF (Str.ofString "order_of_texts")).1 (FuncBody.stmts (dF (Str.ofString "order_of_texts")).2.1) (dF (Str.ofString "order_of_texts")).2.2 0 [] Value.none Value.none Value.none Value.none none Value.none Value.none 0)) #[]) ::
    (Obj.mk (Value.type "code") none (Data.fields #[Value.str (Str.ofString "order_of_texts") 554, Value.str (Str.ofString "order_of_texts") 555, Value.str (Str.ofString "/claim/cut.py") 556, Value.int 186 0, Value.int 2 0, Value.int 0 0, Value.int 0 0, Value.int 3 0, Value.ref 265, Value.bool true, Value.int 181 0, Value.ref 266, Value.none, Value.ref 267, Value.ref 268, Value.ref 269, Value.int 559 0, Value.int 186 0, Value.str (Str.ofString "/claim/cut.py") 560]) #[]) ::
    (Obj.mk (Value.type "function") none (Data.func (FuncData.mk (Str.ofString "order_of_texts") (Str.ofString "order_of_texts") (dF (Str.ofString "order_of_texts")).1 (FuncBody.stmts (dF (Str.ofString "order_of_texts")).2.1) (dF (Str.ofString "order_of_texts")).2.2 3 [] Value.none Value.none Value.none (Value.str (Str.ofString "basicplus.worth") 539) none (Value.ref 270) Value.none 0)) #[]) ::
    (Obj.mk (Value.type "tuple") none (Data.seq #[]) #[]) ::
    (Obj.mk Value.none none (Data.fields #[]) #[]) ::
    (Obj.mk (Value.type "tuple") none (Data.seq #[Value.str (Str.ofString "op") 565, Value.str (Str.ofString "order") 566]) #[]) ::
    (Obj.mk (Value.type "tuple") none (Data.seq #[]) #[]) ::
    (Obj.mk Value.none none (Data.func (FuncData.mk (Str.ofString "compared") (Str.ofString "compared") (dF (Str.ofString "compared")).1 (FuncBody.stmts (dF (Str.ofString "compared")).2.1) (dF (Str.ofString "compared")).2.2 0 [] Value.none Value.none Value.none Value.none none Value.none Value.none 0)) #[]) ::
    (Obj.mk (Value.type "code") none (Data.fields #[Value.str (Str.ofString "compared") 562, Value.str (Str.ofString "compared") 563, Value.str (Str.ofString "/claim/cut.py") 564, Value.int 188 0, Value.int 2 0, Value.int 0 0, Value.int 0 0, Value.int 3 0, Value.ref 272, Value.bool true, Value.int 181 0, Value.ref 273, Value.none, Value.ref 274, Value.ref 275, Value.ref 276, Value.int 567 0, Value.int 188 0, Value.str (Str.ofString "/claim/cut.py") 568]) #[]) ::
    (Obj.mk (Value.type "function") none (Data.func (FuncData.mk (Str.ofString "compared") (Str.ofString "compared") (dF (Str.ofString "compared")).1 (FuncBody.stmts (dF (Str.ofString "compared")).2.1) (dF (Str.ofString "compared")).2.2 3 [] Value.none Value.none Value.none (Value.str (Str.ofString "basicplus.worth") 539) none (Value.ref 277) Value.none 0)) #[]) ::
    (Obj.mk (Value.type "tuple") none (Data.seq #[]) #[]) ::
    (Obj.mk Value.none none (Data.fields #[]) #[]) ::
    (Obj.mk (Value.type "tuple") none (Data.seq #[Value.str (Str.ofString "op") 573, Value.str (Str.ofString "one") 574, Value.str (Str.ofString "other") 575]) #[]) ::
    (Obj.mk (Value.type "tuple") none (Data.seq #[]) #[]) ::
    (Obj.mk Value.none none (Data.func (FuncData.mk (Str.ofString "worth_of_texts") (Str.ofString "worth_of_texts") (dF (Str.ofString "worth_of_texts")).1 (FuncBody.stmts (dF (Str.ofString "worth_of_texts")).2.1) (dF (Str.ofString "worth_of_texts")).2.2 0 [] Value.none Value.none Value.none Value.none none Value.none Value.none 0)) #[]) ::
    (Obj.mk (Value.type "code") none (Data.fields #[Value.str (Str.ofString "worth_of_texts") 570, Value.str (Str.ofString "worth_of_texts") 571, Value.str (Str.ofString "/claim/cut.py") 572, Value.int 194 0, Value.int 3 0, Value.int 0 0, Value.int 0 0, Value.int 3 0, Value.ref 279, Value.bool true, Value.int 181 0, Value.ref 280, Value.none, Value.ref 281, Value.ref 282, Value.ref 283, Value.int 576 0, Value.int 194 0, Value.str (Str.ofString "/claim/cut.py") 577]) #[]) ::
    (Obj.mk (Value.type "function") none (Data.func (FuncData.mk (Str.ofString "worth_of_texts") (Str.ofString "worth_of_texts") (dF (Str.ofString "worth_of_texts")).1 (FuncBody.stmts (dF (Str.ofString "worth_of_texts")).2.1) (dF (Str.ofString "worth_of_texts")).2.2 3 [] Value.none Value.none Value.none (Value.str (Str.ofString "basicplus.worth") 539) none (Value.ref 284) Value.none 0)) #[]) ::
    (Obj.mk (Value.type "tuple") none (Data.seq #[]) #[]) ::
    (Obj.mk Value.none none (Data.fields #[]) #[]) ::
    (Obj.mk Value.none none (Data.func (FuncData.mk (Str.ofString "worth_of_two") (Str.ofString "worth_of_two") (dF (Str.ofString "worth_of_two")).1 (FuncBody.stmts (dF (Str.ofString "worth_of_two")).2.1) (dF (Str.ofString "worth_of_two")).2.2 0 [] Value.none Value.none Value.none Value.none none Value.none Value.none 0)) #[]) ::
    (Obj.mk (Value.type "code") none (Data.fields #[Value.str (Str.ofString "worth_of_two") 579, Value.str (Str.ofString "worth_of_two") 580, Value.str (Str.ofString "/claim/cut.py") 581, Value.int 200 0, Value.int 5 0, Value.int 0 0, Value.int 0 0, Value.int 3 0, Value.ref 286, Value.bool true, Value.int 181 0, Value.ref 287, Value.none, Value.none, Value.none, Value.ref 288, Value.int 582 0, Value.int 200 0, Value.str (Str.ofString "/claim/cut.py") 583]) #[]) ::
    (Obj.mk (Value.type "function") none (Data.func (FuncData.mk (Str.ofString "worth_of_two") (Str.ofString "worth_of_two") (dF (Str.ofString "worth_of_two")).1 (FuncBody.stmts (dF (Str.ofString "worth_of_two")).2.1) (dF (Str.ofString "worth_of_two")).2.2 3 [] Value.none Value.none Value.none (Value.str (Str.ofString "basicplus.worth") 539) none (Value.ref 289) Value.none 0)) #[]) ::
    (Obj.mk (Value.type "tuple") none (Data.seq #[]) #[]) ::
    (Obj.mk Value.none none (Data.fields #[]) #[]) ::
    (Obj.mk (Value.type "tuple") none (Data.seq #[Value.str (Str.ofString "value") 590, Value.str (Str.ofString "number") 591]) #[]) ::
    (Obj.mk (Value.type "tuple") none (Data.seq #[]) #[]) ::
    (Obj.mk Value.none none (Data.func (FuncData.mk (Str.ofString "size_told") (Str.ofString "size_told") (dF (Str.ofString "size_told")).1 (FuncBody.stmts (dF (Str.ofString "size_told")).2.1) (dF (Str.ofString "size_told")).2.2 0 [] Value.none Value.none Value.none Value.none none Value.none Value.none 0)) #[]) ::
    (Obj.mk (Value.type "code") none (Data.fields #[Value.str (Str.ofString "size_told") 587, Value.str (Str.ofString "size_told") 588, Value.str (Str.ofString "/claim/cut.py") 589, Value.int 212 0, Value.int 1 0, Value.int 0 0, Value.int 0 0, Value.int 3 0, Value.ref 291, Value.bool true, Value.int 181 0, Value.ref 292, Value.none, Value.ref 293, Value.ref 294, Value.ref 295, Value.int 592 0, Value.int 212 0, Value.str (Str.ofString "/claim/cut.py") 593]) #[]) ::
    (Obj.mk (Value.type "function") none (Data.func (FuncData.mk (Str.ofString "size_told") (Str.ofString "size_told") (dF (Str.ofString "size_told")).1 (FuncBody.stmts (dF (Str.ofString "size_told")).2.1) (dF (Str.ofString "size_told")).2.2 3 [] Value.none Value.none Value.none (Value.str (Str.ofString "basicplus.textfns") 585) none (Value.ref 296) Value.none 0)) #[]) ::
    (Obj.mk (Value.type "tuple") none (Data.seq #[]) #[]) ::
    (Obj.mk Value.none none (Data.fields #[]) #[]) ::
    (Obj.mk (Value.type "tuple") none (Data.seq #[Value.str (Str.ofString "value") 598, Value.str (Str.ofString "number") 599]) #[]) ::
    (Obj.mk (Value.type "tuple") none (Data.seq #[]) #[]) ::
    (Obj.mk Value.none none (Data.func (FuncData.mk (Str.ofString "place_told") (Str.ofString "place_told") (dF (Str.ofString "place_told")).1 (FuncBody.stmts (dF (Str.ofString "place_told")).2.1) (dF (Str.ofString "place_told")).2.2 0 [] Value.none Value.none Value.none Value.none none Value.none Value.none 0)) #[]) ::
    (Obj.mk (Value.type "code") none (Data.fields #[Value.str (Str.ofString "place_told") 595, Value.str (Str.ofString "place_told") 596, Value.str (Str.ofString "/claim/cut.py") 597, Value.int 219 0, Value.int 1 0, Value.int 0 0, Value.int 0 0, Value.int 3 0, Value.ref 298, Value.bool true, Value.int 181 0, Value.ref 299, Value.none, Value.ref 300, Value.ref 301, Value.ref 302, Value.int 600 0, Value.int 219 0, Value.str (Str.ofString "/claim/cut.py") 601]) #[]) ::
    (Obj.mk (Value.type "function") none (Data.func (FuncData.mk (Str.ofString "place_told") (Str.ofString "place_told") (dF (Str.ofString "place_told")).1 (FuncBody.stmts (dF (Str.ofString "place_told")).2.1) (dF (Str.ofString "place_told")).2.2 3 [] Value.none Value.none Value.none (Value.str (Str.ofString "basicplus.textfns") 585) none (Value.ref 303) Value.none 0)) #[]) ::
    (Obj.mk (Value.type "tuple") none (Data.seq #[]) #[]) ::
    (Obj.mk Value.none none (Data.fields #[]) #[]) ::
    (Obj.mk (Value.type "tuple") none (Data.seq #[Value.str (Str.ofString "world") 606, Value.str (Str.ofString "args") 607, Value.str (Str.ofString "text") 608]) #[]) ::
    (Obj.mk (Value.type "tuple") none (Data.seq #[]) #[]) ::
    (Obj.mk Value.none none (Data.func (FuncData.mk (Str.ofString "text_left") (Str.ofString "text_left") (dF (Str.ofString "text_left")).1 (FuncBody.stmts (dF (Str.ofString "text_left")).2.1) (dF (Str.ofString "text_left")).2.2 0 [] Value.none Value.none Value.none Value.none none Value.none Value.none 0)) #[]) ::
    (Obj.mk (Value.type "code") none (Data.fields #[Value.str (Str.ofString "text_left") 603, Value.str (Str.ofString "text_left") 604, Value.str (Str.ofString "/claim/cut.py") 605, Value.int 224 0, Value.int 2 0, Value.int 0 0, Value.int 0 0, Value.int 3 0, Value.ref 305, Value.bool true, Value.int 181 0, Value.ref 306, Value.none, Value.ref 307, Value.ref 308, Value.ref 309, Value.int 609 0, Value.int 224 0, Value.str (Str.ofString "/claim/cut.py") 610]) #[]) ::
    (Obj.mk (Value.type "function") none (Data.func (FuncData.mk (Str.ofString "text_left") (Str.ofString "text_left") (dF (Str.ofString "text_left")).1 (FuncBody.stmts (dF (Str.ofString "text_left")).2.1) (dF (Str.ofString "text_left")).2.2 3 [] Value.none Value.none Value.none (Value.str (Str.ofString "basicplus.textfns") 585) none (Value.ref 310) Value.none 0)) #[]) ::
    (Obj.mk (Value.type "tuple") none (Data.seq #[]) #[]) ::
    (Obj.mk Value.none none (Data.fields #[]) #[]) ::
    (Obj.mk (Value.type "tuple") none (Data.seq #[Value.str (Str.ofString "world") 615, Value.str (Str.ofString "args") 616, Value.str (Str.ofString "text") 617, Value.str (Str.ofString "begin") 618, Value.str (Str.ofString "many") 619]) #[]) ::
    (Obj.mk (Value.type "tuple") none (Data.seq #[]) #[]) ::
    (Obj.mk Value.none none (Data.func (FuncData.mk (Str.ofString "text_mid") (Str.ofString "text_mid") (dF (Str.ofString "text_mid")).1 (FuncBody.stmts (dF (Str.ofString "text_mid")).2.1) (dF (Str.ofString "text_mid")).2.2 0 [] Value.none Value.none Value.none Value.none none Value.none Value.none 0)) #[]) ::
    (Obj.mk (Value.type "code") none (Data.fields #[Value.str (Str.ofString "text_mid") 612, Value.str (Str.ofString "text_mid") 613, Value.str (Str.ofString "/claim/cut.py") 614, Value.int 227 0, Value.int 2 0, Value.int 0 0, Value.int 0 0, Value.int 3 0, Value.ref 312, Value.bool true, Value.int 181 0, Value.ref 313, Value.none, Value.ref 314, Value.ref 315, Value.ref 316, Value.int 620 0, Value.int 227 0, Value.str (Str.ofString "/claim/cut.py") 621]) #[]) ::
    (Obj.mk (Value.type "function") none (Data.func (FuncData.mk (Str.ofString "text_mid") (Str.ofString "text_mid") (dF (Str.ofString "text_mid")).1 (FuncBody.stmts (dF (Str.ofString "text_mid")).2.1) (dF (Str.ofString "text_mid")).2.2 3 [] Value.none Value.none Value.none (Value.str (Str.ofString "basicplus.textfns") 585) none (Value.ref 317) Value.none 0)) #[]) ::
    (Obj.mk (Value.type "tuple") none (Data.seq #[]) #[]) ::
    (Obj.mk Value.none none (Data.fields #[]) #[]) ::
    (Obj.mk (Value.type "tuple") none (Data.seq #[Value.str (Str.ofString "one") 626, Value.str (Str.ofString "other") 627]) #[]) ::
    (Obj.mk (Value.type "tuple") none (Data.seq #[]) #[]) ::
    (Obj.mk Value.none none (Data.func (FuncData.mk (Str.ofString "text_joined") (Str.ofString "text_joined") (dF (Str.ofString "text_joined")).1 (FuncBody.stmts (dF (Str.ofString "text_joined")).2.1) (dF (Str.ofString "text_joined")).2.2 0 [] Value.none Value.none Value.none Value.none none Value.none Value.none 0)) #[]) ::
    (Obj.mk (Value.type "code") none (Data.fields #[Value.str (Str.ofString "text_joined") 623, Value.str (Str.ofString "text_joined") 624, Value.str (Str.ofString "/claim/cut.py") 625, Value.int 231 0, Value.int 2 0, Value.int 0 0, Value.int 0 0, Value.int 3 0, Value.ref 319, Value.bool true, Value.int 181 0, Value.ref 320, Value.none, Value.ref 321, Value.ref 322, Value.ref 323, Value.int 628 0, Value.int 231 0, Value.str (Str.ofString "/claim/cut.py") 629]) #[]) ::
    (Obj.mk (Value.type "function") none (Data.func (FuncData.mk (Str.ofString "text_joined") (Str.ofString "text_joined") (dF (Str.ofString "text_joined")).1 (FuncBody.stmts (dF (Str.ofString "text_joined")).2.1) (dF (Str.ofString "text_joined")).2.2 3 [] Value.none Value.none Value.none (Value.str (Str.ofString "basicplus.textfns") 585) none (Value.ref 324) Value.none 0)) #[]) ::
    (Obj.mk (Value.type "tuple") none (Data.seq #[]) #[]) ::
    (Obj.mk Value.none none (Data.fields #[]) #[]) ::
    (Obj.mk (Value.type "tuple") none (Data.seq #[Value.str (Str.ofString "bag") 636, Value.str (Str.ofString "below") 637, Value.str (Str.ofString "spot") 638]) #[]) ::
    (Obj.mk (Value.type "tuple") none (Data.seq #[]) #[]) ::
    (Obj.mk Value.none none (Data.func (FuncData.mk (Str.ofString "_law_draw") (Str.ofString "_law_draw") (dF (Str.ofString "_law_draw")).1 (FuncBody.stmts (dF (Str.ofString "_law_draw")).2.1) (dF (Str.ofString "_law_draw")).2.2 0 [] Value.none Value.none Value.none Value.none none Value.none Value.none 0)) #[]) ::
    (Obj.mk (Value.type "code") none (Data.fields #[Value.str (Str.ofString "_law_draw") 633, Value.str (Str.ofString "_law_draw") 634, Value.str (Str.ofString "/claim/cut.py") 635, Value.int 234 0, Value.int 2 0, Value.int 0 0, Value.int 0 0, Value.int 3 0, Value.ref 326, Value.bool true, Value.int 181 0, Value.ref 327, Value.none, Value.ref 328, Value.ref 329, Value.ref 330, Value.int 639 0, Value.int 234 0, Value.str (Str.ofString "/claim/cut.py") 640]) #[]) ::
    (Obj.mk (Value.type "function") none (Data.func (FuncData.mk (Str.ofString "_law_draw") (Str.ofString "_law_draw") (dF (Str.ofString "_law_draw")).1 (FuncBody.stmts (dF (Str.ofString "_law_draw")).2.1) (dF (Str.ofString "_law_draw")).2.2 3 [] Value.none Value.none Value.none (Value.str (Str.ofString "law_xm0066_01") 631) none (Value.ref 331) Value.none 0)) #[]) ::
    (Obj.mk (Value.type "tuple") none (Data.seq #[]) #[]) ::
    (Obj.mk Value.none none (Data.fields #[]) #[]) ::
    (Obj.mk (Value.type "tuple") none (Data.seq #[Value.str (Str.ofString "text") 645, Value.str (Str.ofString "at") 646]) #[]) ::
    (Obj.mk (Value.type "tuple") none (Data.seq #[]) #[]) ::
    (Obj.mk Value.none none (Data.func (FuncData.mk (Str.ofString "_law_sign") (Str.ofString "_law_sign") (dF (Str.ofString "_law_sign")).1 (FuncBody.stmts (dF (Str.ofString "_law_sign")).2.1) (dF (Str.ofString "_law_sign")).2.2 0 [] Value.none Value.none Value.none Value.none none Value.none Value.none 0)) #[]) ::
    (Obj.mk (Value.type "code") none (Data.fields #[Value.str (Str.ofString "_law_sign") 642, Value.str (Str.ofString "_law_sign") 643, Value.str (Str.ofString "/claim/cut.py") 644, Value.int 238 0, Value.int 2 0, Value.int 0 0, Value.int 0 0, Value.int 3 0, Value.ref 333, Value.bool true, Value.int 181 0, Value.ref 334, Value.none, Value.ref 335, Value.ref 336, Value.ref 337, Value.int 647 0, Value.int 238 0, Value.str (Str.ofString "/claim/cut.py") 648]) #[]) ::
    (Obj.mk (Value.type "function") none (Data.func (FuncData.mk (Str.ofString "_law_sign") (Str.ofString "_law_sign") (dF (Str.ofString "_law_sign")).1 (FuncBody.stmts (dF (Str.ofString "_law_sign")).2.1) (dF (Str.ofString "_law_sign")).2.2 3 [] Value.none Value.none Value.none (Value.str (Str.ofString "law_xm0066_01") 631) none (Value.ref 338) Value.none 0)) #[]) ::
    (Obj.mk (Value.type "tuple") none (Data.seq #[]) #[]) ::
    (Obj.mk Value.none none (Data.fields #[]) #[]) ::
    (Obj.mk (Value.type "tuple") none (Data.seq #[Value.str (Str.ofString "text") 653, Value.str (Str.ofString "at") 654, Value.str (Str.ofString "spot") 655]) #[]) ::
    (Obj.mk (Value.type "tuple") none (Data.seq #[]) #[]) ::
    (Obj.mk Value.none none (Data.func (FuncData.mk (Str.ofString "_law_less") (Str.ofString "_law_less") (dF (Str.ofString "_law_less")).1 (FuncBody.stmts (dF (Str.ofString "_law_less")).2.1) (dF (Str.ofString "_law_less")).2.2 0 [] Value.none Value.none Value.none Value.none none Value.none Value.none 0)) #[]) ::
    (Obj.mk (Value.type "code") none (Data.fields #[Value.str (Str.ofString "_law_less") 650, Value.str (Str.ofString "_law_less") 651, Value.str (Str.ofString "/claim/cut.py") 652, Value.int 240 0, Value.int 3 0, Value.int 0 0, Value.int 0 0, Value.int 3 0, Value.ref 340, Value.bool true, Value.int 181 0, Value.ref 341, Value.none, Value.ref 342, Value.ref 343, Value.ref 344, Value.int 656 0, Value.int 240 0, Value.str (Str.ofString "/claim/cut.py") 657]) #[]) ::
    (Obj.mk (Value.type "function") none (Data.func (FuncData.mk (Str.ofString "_law_less") (Str.ofString "_law_less") (dF (Str.ofString "_law_less")).1 (FuncBody.stmts (dF (Str.ofString "_law_less")).2.1) (dF (Str.ofString "_law_less")).2.2 3 [] Value.none Value.none Value.none (Value.str (Str.ofString "law_xm0066_01") 631) none (Value.ref 345) Value.none 0)) #[]) ::
    (Obj.mk (Value.type "tuple") none (Data.seq #[]) #[]) ::
    (Obj.mk Value.none none (Data.fields #[]) #[]) ::
    (Obj.mk (Value.type "tuple") none (Data.seq #[Value.str (Str.ofString "text") 662, Value.str (Str.ofString "at") 663, Value.str (Str.ofString "sign") 664]) #[]) ::
    (Obj.mk (Value.type "tuple") none (Data.seq #[]) #[]) ::
    (Obj.mk Value.none none (Data.func (FuncData.mk (Str.ofString "_law_put") (Str.ofString "_law_put") (dF (Str.ofString "_law_put")).1 (FuncBody.stmts (dF (Str.ofString "_law_put")).2.1) (dF (Str.ofString "_law_put")).2.2 0 [] Value.none Value.none Value.none Value.none none Value.none Value.none 0)) #[]) ::
    (Obj.mk (Value.type "code") none (Data.fields #[Value.str (Str.ofString "_law_put") 659, Value.str (Str.ofString "_law_put") 660, Value.str (Str.ofString "/claim/cut.py") 661, Value.int 242 0, Value.int 3 0, Value.int 0 0, Value.int 0 0, Value.int 3 0, Value.ref 347, Value.bool true, Value.int 181 0, Value.ref 348, Value.none, Value.ref 349, Value.ref 350, Value.ref 351, Value.int 665 0, Value.int 242 0, Value.str (Str.ofString "/claim/cut.py") 666]) #[]) ::
    (Obj.mk (Value.type "function") none (Data.func (FuncData.mk (Str.ofString "_law_put") (Str.ofString "_law_put") (dF (Str.ofString "_law_put")).1 (FuncBody.stmts (dF (Str.ofString "_law_put")).2.1) (dF (Str.ofString "_law_put")).2.2 3 [] Value.none Value.none Value.none (Value.str (Str.ofString "law_xm0066_01") 631) none (Value.ref 352) Value.none 0)) #[]) ::
    (Obj.mk (Value.type "tuple") none (Data.seq #[]) #[]) ::
    (Obj.mk Value.none none (Data.fields #[]) #[]) ::
    (Obj.mk (Value.type "tuple") none (Data.seq #[Value.str (Str.ofString "text") 671, Value.str (Str.ofString "at") 672, Value.str (Str.ofString "spot") 673]) #[]) ::
    (Obj.mk (Value.type "tuple") none (Data.seq #[]) #[]) ::
    (Obj.mk Value.none none (Data.func (FuncData.mk (Str.ofString "_law_exchanged") (Str.ofString "_law_exchanged") (dF (Str.ofString "_law_exchanged")).1 (FuncBody.stmts (dF (Str.ofString "_law_exchanged")).2.1) (dF (Str.ofString "_law_exchanged")).2.2 0 [] Value.none Value.none Value.none Value.none none Value.none Value.none 0)) #[]) ::
    (Obj.mk (Value.type "code") none (Data.fields #[Value.str (Str.ofString "_law_exchanged") 668, Value.str (Str.ofString "_law_exchanged") 669, Value.str (Str.ofString "/claim/cut.py") 670, Value.int 244 0, Value.int 3 0, Value.int 0 0, Value.int 0 0, Value.int 3 0, Value.ref 354, Value.bool true, Value.int 181 0, Value.ref 355, Value.none, Value.ref 356, Value.ref 357, Value.ref 358, Value.int 674 0, Value.int 244 0, Value.str (Str.ofString "/claim/cut.py") 675]) #[]) ::
    (Obj.mk (Value.type "function") none (Data.func (FuncData.mk (Str.ofString "_law_exchanged") (Str.ofString "_law_exchanged") (dF (Str.ofString "_law_exchanged")).1 (FuncBody.stmts (dF (Str.ofString "_law_exchanged")).2.1) (dF (Str.ofString "_law_exchanged")).2.2 3 [] Value.none Value.none Value.none (Value.str (Str.ofString "law_xm0066_01") 631) none (Value.ref 359) Value.none 0)) #[]) ::
    (Obj.mk (Value.type "tuple") none (Data.seq #[]) #[]) ::
    (Obj.mk Value.none none (Data.fields #[]) #[]) ::
    (Obj.mk (Value.type "tuple") none (Data.seq #[Value.str (Str.ofString "text") 680, Value.str (Str.ofString "at") 681]) #[]) ::
    (Obj.mk (Value.type "tuple") none (Data.seq #[]) #[]) ::
    (Obj.mk Value.none none (Data.func (FuncData.mk (Str.ofString "_law_up") (Str.ofString "_law_up") (dF (Str.ofString "_law_up")).1 (FuncBody.stmts (dF (Str.ofString "_law_up")).2.1) (dF (Str.ofString "_law_up")).2.2 0 [] Value.none Value.none Value.none Value.none none Value.none Value.none 0)) #[]) ::
    (Obj.mk (Value.type "code") none (Data.fields #[Value.str (Str.ofString "_law_up") 677, Value.str (Str.ofString "_law_up") 678, Value.str (Str.ofString "/claim/cut.py") 679, Value.int 246 0, Value.int 2 0, Value.int 0 0, Value.int 0 0, Value.int 3 0, Value.ref 361, Value.bool true, Value.int 181 0, Value.ref 362, Value.none, Value.ref 363, Value.ref 364, Value.ref 365, Value.int 682 0, Value.int 246 0, Value.str (Str.ofString "/claim/cut.py") 683]) #[]) ::
    (Obj.mk (Value.type "function") none (Data.func (FuncData.mk (Str.ofString "_law_up") (Str.ofString "_law_up") (dF (Str.ofString "_law_up")).1 (FuncBody.stmts (dF (Str.ofString "_law_up")).2.1) (dF (Str.ofString "_law_up")).2.2 3 [] Value.none Value.none Value.none (Value.str (Str.ofString "law_xm0066_01") 631) none (Value.ref 366) Value.none 0)) #[]) ::
    (Obj.mk (Value.type "tuple") none (Data.seq #[]) #[]) ::
    (Obj.mk Value.none none (Data.fields #[]) #[]) ::
    (Obj.mk (Value.type "tuple") none (Data.seq #[Value.str (Str.ofString "text") 688, Value.str (Str.ofString "at") 689, Value.str (Str.ofString "spot") 690]) #[]) ::
    (Obj.mk (Value.type "tuple") none (Data.seq #[]) #[]) ::
    (Obj.mk Value.none none (Data.func (FuncData.mk (Str.ofString "_law_down") (Str.ofString "_law_down") (dF (Str.ofString "_law_down")).1 (FuncBody.stmts (dF (Str.ofString "_law_down")).2.1) (dF (Str.ofString "_law_down")).2.2 0 [] Value.none Value.none Value.none Value.none none Value.none Value.none 0)) #[]) ::
    (Obj.mk (Value.type "code") none (Data.fields #[Value.str (Str.ofString "_law_down") 685, Value.str (Str.ofString "_law_down") 686, Value.str (Str.ofString "/claim/cut.py") 687, Value.int 250 0, Value.int 2 0, Value.int 0 0, Value.int 0 0, Value.int 3 0, Value.ref 368, Value.bool true, Value.int 181 0, Value.ref 369, Value.none, Value.ref 370, Value.ref 371, Value.ref 372, Value.int 691 0, Value.int 250 0, Value.str (Str.ofString "/claim/cut.py") 692]) #[]) ::
    (Obj.mk (Value.type "function") none (Data.func (FuncData.mk (Str.ofString "_law_down") (Str.ofString "_law_down") (dF (Str.ofString "_law_down")).1 (FuncBody.stmts (dF (Str.ofString "_law_down")).2.1) (dF (Str.ofString "_law_down")).2.2 3 [] Value.none Value.none Value.none (Value.str (Str.ofString "law_xm0066_01") 631) none (Value.ref 373) Value.none 0)) #[]) ::
    (Obj.mk (Value.type "tuple") none (Data.seq #[]) #[]) ::
    (Obj.mk Value.none none (Data.fields #[]) #[]) ::
    (Obj.mk Value.none none (Data.func (FuncData.mk (Str.ofString "_law_is_heap") (Str.ofString "_law_is_heap") (dF (Str.ofString "_law_is_heap")).1 (FuncBody.stmts (dF (Str.ofString "_law_is_heap")).2.1) (dF (Str.ofString "_law_is_heap")).2.2 0 [] Value.none Value.none Value.none Value.none none Value.none Value.none 0)) #[]) ::
    (Obj.mk (Value.type "code") none (Data.fields #[Value.str (Str.ofString "_law_is_heap") 694, Value.str (Str.ofString "_law_is_heap") 695, Value.str (Str.ofString "/claim/cut.py") 696, Value.int 259 0, Value.int 2 0, Value.int 0 0, Value.int 0 0, Value.int 3 0, Value.ref 375, Value.bool true, Value.int 181 0, Value.ref 376, Value.none, Value.none, Value.none, Value.ref 377, Value.int 697 0, Value.int 259 0, Value.str (Str.ofString "/claim/cut.py") 698]) #[]) ::
    (Obj.mk (Value.type "function") none (Data.func (FuncData.mk (Str.ofString "_law_is_heap") (Str.ofString "_law_is_heap") (dF (Str.ofString "_law_is_heap")).1 (FuncBody.stmts (dF (Str.ofString "_law_is_heap")).2.1) (dF (Str.ofString "_law_is_heap")).2.2 3 [] Value.none Value.none Value.none (Value.str (Str.ofString "law_xm0066_01") 631) none (Value.ref 378) Value.none 0)) #[]) ::
    (Obj.mk (Value.type "tuple") none (Data.seq #[]) #[]) ::
    (Obj.mk Value.none none (Data.fields #[]) #[]) ::
    (Obj.mk (Value.type "tuple") none (Data.seq #[Value.str (Str.ofString "text") 703, Value.str (Str.ofString "last") 704]) #[]) ::
    (Obj.mk (Value.type "tuple") none (Data.seq #[]) #[]) ::
    (Obj.mk Value.none none (Data.func (FuncData.mk (Str.ofString "_law_taken") (Str.ofString "_law_taken") (dF (Str.ofString "_law_taken")).1 (FuncBody.stmts (dF (Str.ofString "_law_taken")).2.1) (dF (Str.ofString "_law_taken")).2.2 0 [] Value.none Value.none Value.none Value.none none Value.none Value.none 0)) #[]) ::
    (Obj.mk (Value.type "code") none (Data.fields #[Value.str (Str.ofString "_law_taken") 700, Value.str (Str.ofString "_law_taken") 701, Value.str (Str.ofString "/claim/cut.py") 702, Value.int 261 0, Value.int 1 0, Value.int 0 0, Value.int 0 0, Value.int 3 0, Value.ref 380, Value.bool true, Value.int 181 0, Value.ref 381, Value.none, Value.ref 382, Value.ref 383, Value.ref 384, Value.int 705 0, Value.int 261 0, Value.str (Str.ofString "/claim/cut.py") 706]) #[]) ::
    (Obj.mk (Value.type "function") none (Data.func (FuncData.mk (Str.ofString "_law_taken") (Str.ofString "_law_taken") (dF (Str.ofString "_law_taken")).1 (FuncBody.stmts (dF (Str.ofString "_law_taken")).2.1) (dF (Str.ofString "_law_taken")).2.2 3 [] Value.none Value.none Value.none (Value.str (Str.ofString "law_xm0066_01") 631) none (Value.ref 385) Value.none 0)) #[]) ::
    (Obj.mk (Value.type "tuple") none (Data.seq #[]) #[]) ::
    (Obj.mk Value.none none (Data.fields #[]) #[]) ::
    (Obj.mk Value.none none (Data.func (FuncData.mk (Str.ofString "law") (Str.ofString "law") (dF (Str.ofString "law")).1 (FuncBody.stmts (dF (Str.ofString "law")).2.1) (dF (Str.ofString "law")).2.2 0 [] Value.none Value.none Value.none Value.none none Value.none Value.none 0)) #[]) ::
    (Obj.mk (Value.type "code") none (Data.fields #[Value.str (Str.ofString "law") 708, Value.str (Str.ofString "law") 709, Value.str (Str.ofString "/claim/cut.py") 710, Value.int 265 0, Value.int 1 0, Value.int 0 0, Value.int 0 0, Value.int 3 0, Value.ref 387, Value.bool true, Value.int 181 0, Value.ref 388, Value.none, Value.none, Value.none, Value.ref 389, Value.int 711 0, Value.int 265 0, Value.str (Str.ofString "/claim/cut.py") 712]) #[]) ::
    (Obj.mk (Value.type "function") none (Data.func (FuncData.mk (Str.ofString "law") (Str.ofString "law") (dF (Str.ofString "law")).1 (FuncBody.stmts (dF (Str.ofString "law")).2.1) (dF (Str.ofString "law")).2.2 3 [] Value.none Value.none Value.none (Value.str (Str.ofString "law_xm0066_01") 631) none (Value.ref 390) Value.none 0)) #[]) :: []))
  (Life.mk [] [] [] 0 [] [] false #[] [] 0 false false false 0 [2000, 10, 10] false 0 true [] [] 0 false)
theorem run0 : ∀ (w : World) (os : OsState), topRun treeTable PySem.Challenge.rw_xm0066_01.row.prog w 11 (some (Value.ref 6)) 2000 ⟨boot_heap w.params, Array.mk [], boot_drawn, boot_toks, os⟩ (topStub PySem.Challenge.rw_xm0066_01.row.prog) = some ⟨H1 w.params, Array.mk [], {}, 714, os⟩ := fun w os => by
  simp only [PySem.W.Fast.te14082659384304107361, PySem.W.Fast.te14364793385576792824]
  kernel_rfl
theorem la1 : ∀ (w : World) (os : OsState), staticsOk (importedModules (PySem.Challenge.rw_xm0066_01.row.prog).main.body) (boot_heap w.params) (H1 w.params) = true := fun w os => by kernel_rfl
theorem la2 : ∀ (w : World) (os : OsState), namesBound PySem.Challenge.rw_xm0066_01.row.prog (H1 w.params) = true := fun w os => by kernel_rfl
theorem la3 : ∀ (w : World) (os : OsState), gensDone (⟨H1 w.params, Array.mk [], {}, 714, os⟩ : Shared) = true := fun w os => by kernel_rfl
theorem la4 : ∀ (w : World) (os : OsState), laidKept (boot_heap w.params) (H1 w.params) = true := fun w os => by kernel_rfl
theorem lb0 : ∀ (w : World) (os : OsState), seen ((recsOf VF).map (·.name)) (ownsOf VF) [] { (⟨H1 w.params, Array.mk [], {}, 714, os⟩ : Shared) with gens := #[] } = expectedOf VF := fun w os => by kernel_rfl
theorem lb1 : ∀ (w : World) (os : OsState), ((⟨H1 w.params, Array.mk [], {}, 714, os⟩ : Shared)).heap.bltView = bltViewBooted := fun w os => by kernel_rfl
theorem lb2 : ∀ (w : World) (os : OsState), ((⟨H1 w.params, Array.mk [], {}, 714, os⟩ : Shared)).heap.keysOk (looseW VF [Str.ofString "BasicError"]) ((recsOf VF).map (·.name)) ((litsOf VF).map (·.1)) ((clssOf VF (looseW VF [Str.ofString "BasicError"])).map (·.name)) = true := fun w os => by simp only [PySem.W.Fast.te10880121769531294198, PySem.W.Fast.te821141287760084731, PySem.W.Fast.te3399658132070893891, PySem.W.Fast.te7409074990110511671, PySem.W.Fast.te13664370479719496447]; kernel_rfl
theorem lb3 : ∀ (w : World) (os : OsState), ((⟨H1 w.params, Array.mk [], {}, 714, os⟩ : Shared)).heap.accountedOkI (importedModules (PySem.Challenge.rw_xm0066_01.row.prog).main.body) = true := fun w os => by kernel_rfl
theorem lb4 : ∀ (w : World) (os : OsState), ((⟨H1 w.params, Array.mk [], {}, 714, os⟩ : Shared)).heap.isNs mainGlobals = true := fun w os => by kernel_rfl
theorem lb5 : ∀ (w : World) (os : OsState), ((⟨H1 w.params, Array.mk [], {}, 714, os⟩ : Shared)).heap.isNs builtinsNs = true := fun w os => by kernel_rfl
theorem lb6 : ∀ (w : World) (os : OsState), tablesOk VF ((⟨H1 w.params, Array.mk [], {}, 714, os⟩ : Shared)).heap = true := fun w os => by kernel_rfl
theorem lb7 : ∀ (w : World) (os : OsState), (fun s => xlAt VF [] s && recOk (RowW.records PySem.Challenge.rw_xm0066_01.row.toRowW) s) (⟨H1 w.params, Array.mk [], {}, 714, os⟩ : Shared) = true := fun w os => by kernel_rfl
theorem lb8 : ∀ (w : World) (os : OsState), tabsOk VF (⟨H1 w.params, Array.mk [], {}, 714, os⟩ : Shared) = true := fun w os => by simp only [PySem.W.Fast.te479339242167458305]; kernel_rfl
theorem lb9 : ∀ (w : World) (os : OsState), pinSeenD VF (drecsOf VF) (⟨H1 w.params, Array.mk [], {}, 714, os⟩ : Shared) = pinGoodD (drecsOf VF) := fun w os => by simp only [PySem.W.Fast.te16090120013241838585, PySem.W.Fast.te3247288618530077131]; kernel_rfl
theorem lb10 : ∀ (w : World) (os : OsState), plainSeenE VF (looseW VF [Str.ofString "BasicError"]) (⟨H1 w.params, Array.mk [], {}, 714, os⟩ : Shared) = plainGoodE VF (looseW VF [Str.ofString "BasicError"]) := fun w os => by kernel_rfl
theorem lb11 : ∀ (w : World) (os : OsState), plainSeenD VF [Str.ofString "BasicError"] (⟨H1 w.params, Array.mk [], {}, 714, os⟩ : Shared) = plainGoodD VF [Str.ofString "BasicError"] := fun w os => by kernel_rfl
theorem lb12 : ∀ (w : World) (os : OsState), wideSeen VF (⟨H1 w.params, Array.mk [], {}, 714, os⟩ : Shared) = wideGood VF := fun w os => by simp only [PySem.W.Fast.te7317090234206586261]; kernel_rfl
theorem lb13 : ∀ (w : World) (os : OsState), clsSeenW VF [Str.ofString "BasicError"] (⟨H1 w.params, Array.mk [], {}, 714, os⟩ : Shared) = clsGoodW VF [Str.ofString "BasicError"] := fun w os => by kernel_rfl
theorem lc0 : ∀ (w : World) (os : OsState), (Hook.obs (kHook KF KA ka_eq)) (⟨H1 w.params, Array.mk [], {}, 714, os⟩ : Shared) = (Hook.val (kHook KF KA ka_eq)) w := fun w os => by kernel_rfl
theorem and_all {a b : Bool} (h1 : a = true) (h2 : b = true) : (a && b) = true := by subst h1; subst h2; rfl
theorem tup3 {α β γ : Type} {a a' : α} {b b' : β} {c c' : γ} (h1 : a = a') (h2 : b = b') (h3 : c = c') : (a, b, c) = (a', b', c') := by subst h1; subst h2; subst h3; rfl
theorem tup9 {A B C D E F G H I : Type} {a a' : A} {b b' : B} {c c' : C} {d d' : D} {e e' : E} {f f' : F} {g g' : G} {h h' : H} {i i' : I} (h1 : a = a') (h2 : b = b') (h3 : c = c') (h4 : d = d') (h5 : e = e') (h6 : f = f') (h7 : g = g') (h8 : h = h') (h9 : i = i') :
    (a, b, c, d, e, f, g, h, i) = (a', b', c', d', e', f', g', h', i') := by subst h1; subst h2; subst h3; subst h4; subst h5; subst h6; subst h7; subst h8; subst h9; rfl
theorem seen0 (w : World) (os : OsState) : openSeen VF [Str.ofString "BasicError"] (importedModules (PySem.Challenge.rw_xm0066_01.row.prog).main.body) (fun s => xlAt VF [] s && recOk (RowW.records PySem.Challenge.rw_xm0066_01.row.toRowW) s) true (⟨H1 w.params, Array.mk [], {}, 714, os⟩ : Shared) = openGood VF [Str.ofString "BasicError"] :=
  tup9 (lb0 w os) (lb1 w os) (and_all (and_all (and_all (and_all (and_all (and_all (lb2 w os) (lb3 w os)) (lb4 w os)) (lb5 w os)) (lb6 w os)) (lb7 w os)) rfl) (lb8 w os) (lb9 w os) (lb10 w os) (lb11 w os) (lb12 w os) (lb13 w os)
theorem looks0 : ∀ w : World, (fun os => ((staticsOk (importedModules (PySem.Challenge.rw_xm0066_01.row.prog).main.body) (boot_heap w.params) (H1 w.params) && namesBound PySem.Challenge.rw_xm0066_01.row.prog (H1 w.params) && gensDone ⟨H1 w.params, Array.mk [], {}, 714, os⟩ && laidKept (boot_heap w.params) (H1 w.params)),
    openSeen VF [Str.ofString "BasicError"] (importedModules (PySem.Challenge.rw_xm0066_01.row.prog).main.body) (fun s => xlAt VF [] s && recOk (RowW.records PySem.Challenge.rw_xm0066_01.row.toRowW) s) true ⟨H1 w.params, Array.mk [], {}, 714, os⟩, (Hook.obs (kHook KF KA ka_eq)) ⟨H1 w.params, Array.mk [], {}, 714, os⟩)) = fun _ => (true, openGood VF [Str.ofString "BasicError"], (Hook.val (kHook KF KA ka_eq)) w) :=
  fun w => funext fun os => tup3 (and_all (and_all (and_all (la1 w os) (la2 w os)) (la3 w os)) (la4 w os)) (seen0 w os) (lc0 w os)
theorem left0 : LeftO PySem.Challenge.rw_xm0066_01.row.prog VF [Str.ofString "BasicError"] (fun s => xlAt VF [] s && recOk (RowW.records PySem.Challenge.rw_xm0066_01.row.toRowW) s) (Hook.obs (kHook KF KA ka_eq)) (Hook.val (kHook KF KA ka_eq)) 4020 := LeftO.of_pieces (boot_open (by kernel_rfl) (by rfl) (fun s => by kernel_rfl)) (fun w => by kernel_rfl) run0 (by rfl) looks0
end

section
open PySem PySem.W PyProof.Rows
noncomputable abbrev PR : Program := PySem.Challenge.rw_xm0066_01.row.prog
noncomputable abbrev VW : Program := VF
noncomputable abbrev LO : List Str := looseW VF [Str.ofString "BasicError"]
/-- my contract: the call of f on vs gives R x t with Post x; the frame and the ledger stand; d: the frames that it wants -/
abbrev Gives (w : World) (mean : ExcName → Option Value) (mg mb : Str → Option Value) (f : Addr) (d : Nat) (news : List (Addr × Obj)) (pre : Prop) (vs : List Value) {X : Type} (R : X → Tok → Value) (Post : X → Prop) : Prop :=
  ∀ (dp un : Nat) (gd : Option (List Code)) (cn : Str) (cs : Scope) (a : Addr) (ccd : Value) (cl : List (Str × Addr)) (outer : List Env) (A₀ : Around) (base h₀ : Heap) (L : Addr) (m : Str → Option Value) (s : Shared) (Q E : Value → Shared → Prop),
    Below A₀ base outer h₀ → Fr h₀ L s.heap m → (KF w.params).In h₀ → News h₀ L s.heap news → Top VW LO mean mg mb h₀ → cs.kind = .function →
    pre → dp + d < recursionLimit → un + 8 * d < cLine →
    (∀ (x : X) (t : Tok) (h' : Heap) (tk' : Nat), Post x → Fr h₀ L h' m → News h₀ L h' news → Q (R x t) { s with heap := h', toks := tk' }) →
      wpAny (model PR w) (ktrTop dp un gd cn cs L a ccd cl outer) (call (.ref f) vs) Q E s
/-- as Gives; the ledger stands as NX x behind it -/
abbrev GivesN (w : World) (mean : ExcName → Option Value) (mg mb : Str → Option Value) (f : Addr) (d : Nat) (news : List (Addr × Obj)) (pre : Prop) (vs : List Value) {X : Type} (R : X → Tok → Value) (Post : X → Prop) (NX : X → List (Addr × Obj)) : Prop :=
  ∀ (dp un : Nat) (gd : Option (List Code)) (cn : Str) (cs : Scope) (a : Addr) (ccd : Value) (cl : List (Str × Addr)) (outer : List Env) (A₀ : Around) (base h₀ : Heap) (L : Addr) (m : Str → Option Value) (s : Shared) (Q E : Value → Shared → Prop),
    Below A₀ base outer h₀ → Fr h₀ L s.heap m → (KF w.params).In h₀ → News h₀ L s.heap news → Top VW LO mean mg mb h₀ → cs.kind = .function →
    pre → dp + d < recursionLimit → un + 8 * d < cLine →
    (∀ (x : X) (t : Tok) (h' : Heap) (tk' : Nat), Post x → Fr h₀ L h' m → News h₀ L h' (NX x) → Q (R x t) { s with heap := h', toks := tk' }) →
      wpAny (model PR w) (ktrTop dp un gd cn cs L a ccd cl outer) (call (.ref f) vs) Q E s
theorem fill {P : Prop} (h : PySem.Challenge.rw_xm0066_01 = PySem.Challenge.rw_xm0066_01 ∧ P) : P := h.2
theorem drop_news {h₀ h : Heap} {L : Addr} {news news' : List (Addr × Obj)} (N : News h₀ L h news') (hs : ∀ p ∈ news, p ∈ news') : News h₀ L h news := fun p hp => N p (hs p hp)
theorem mem0 {α : Type} {l : List α} : ∀ p ∈ l, p ∈ l := fun _ h => h
theorem mem1 {α : Type} {a : α} {l : List α} : ∀ p ∈ l, p ∈ a :: l := fun _ h => .tail _ h
theorem mem2 {α : Type} {a b : α} {l : List α} : ∀ p ∈ l, p ∈ a :: b :: l := fun _ h => .tail _ (.tail _ h)
theorem mem3 {α : Type} {a b c : α} {l : List α} : ∀ p ∈ l, p ∈ a :: b :: c :: l := fun _ h => .tail _ (.tail _ (.tail _ h))
theorem mem4 {α : Type} {a b c d : α} {l : List α} : ∀ p ∈ l, p ∈ a :: b :: c :: d :: l := fun _ h => .tail _ (.tail _ (.tail _ (.tail _ h)))
end

section
open PySem PySem.W PyProof.Rows PySem.Builtin PySem.Builtin.Str
/-- the signs' numbers -/
abbrev toL (t : Str) : List Nat := t.cps.toList
theorem toL_len (t : Str) : (toL t).length = t.length := by simp [toL, Str.length]
theorem str_eq {a b : Str} (h : toL a = toL b) : a = b := Str.ext' (Array.toList_inj.mp h)
theorem idx_clip (i j len : Nat) : strSliceIndices (some (i : Int)) (some (j : Int)) 1 len = strSliceIndices (some ((min i len : Nat) : Int)) (some ((min j len : Nat) : Int)) 1 len := by
  have h1 : ¬ ((i : Int) < 0) := by omega
  have h2 : ¬ ((j : Int) < 0) := by omega
  have h3 : ¬ (((min i len : Nat) : Int) < 0) := by omega
  have h4 : ¬ (((min j len : Nat) : Int) < 0) := by omega
  have e1 : max (0 : Int) (min (i : Int) (len : Int)) = max (0 : Int) (min (((min i len : Nat) : Int)) (len : Int)) := by omega
  have e2 : max (0 : Int) (min (j : Int) (len : Int)) = max (0 : Int) (min (((min j len : Nat) : Int)) (len : Int)) := by omega
  simp only [strSliceIndices, h1, h2, h3, h4, if_false, show ((1 : Int) > 0) = True from by simp, if_true]
  rw [e1, e2]
theorem idx_none (j len : Nat) : strSliceIndices none (some (j : Int)) 1 len = strSliceIndices (some ((0 : Nat) : Int)) (some (j : Int)) 1 len := by
  have h2 : ¬ ((j : Int) < 0) := by omega
  have e1 : max (0 : Int) (min ((0 : Nat) : Int) (len : Int)) = 0 := by omega
  simp only [strSliceIndices, h2, if_false, show ((1 : Int) > 0) = True from by simp, if_true]
  rw [if_neg (by omega), e1]
theorem picked {α : Type} {x : List α} {l : List Nat} {y : List α} (h : l.filterMap (x[·]?) = y) (hl : l.length = x.length) (hy : y.length ≤ x.length) (hp : ∃ n m, y = (x.drop n).take m) (hz : y.length = x.length) : y = x := by
  obtain ⟨n, m, rfl⟩ := hp
  simp only [List.length_take, List.length_drop] at hz
  by_cases h0 : x.length = 0
  · have : x = [] := List.length_eq_zero_iff.mp h0
    subst this; simp
  · have e1 : n = 0 := by omega
    subst e1
    rw [List.drop_zero]
    exact List.take_of_length_le (by omega)
theorem slice_ss (t : Str) (i j : Nat) (h : i ≤ j) : toL (Txt.slice t (some (i : Int)) (some (j : Int))) = ((toL t).drop i).take (j - i) := by
  have key : (strSliceIndices (some (i : Int)) (some (j : Int)) 1 t.length).filterMap (t.cps[·]?) = ((toL t).drop i).take (j - i) := by
    rw [idx_clip, StrLaws.sliced_plain t (a := min i t.length) (b := min j t.length) (by omega) (by omega)]
    have hl := toL_len t
    apply List.ext_getElem?
    intro k
    simp only [List.getElem?_take, List.getElem?_drop]
    by_cases hk : k < j - i
    · rw [if_pos hk]
      by_cases hk2 : k < min j t.length - min i t.length
      · rw [if_pos hk2]
        by_cases hi : i ≤ t.length
        · rw [Nat.min_eq_left hi]
        · omega
      · rw [if_neg hk2, List.getElem?_eq_none (by omega)]
    · rw [if_neg hk, if_neg (by omega)]
  have klen : (strSliceIndices (some (i : Int)) (some (j : Int)) 1 t.length).length = min j t.length - min i t.length := by
    rw [idx_clip, StrLaws.strSliceIndices_plain (by omega) (by omega)]
    simp
  unfold Txt.slice
  split
  · rename_i hc
    simp only [beq_self_eq_true, Bool.true_and, beq_iff_eq] at hc
    rw [klen] at hc
    have hl := toL_len t
    by_cases h0 : t.length = 0
    · have : toL t = [] := List.length_eq_zero_iff.mp (by omega)
      rw [this]; simp
    · have e1 : i = 0 := by omega
      subst e1
      rw [List.drop_zero, List.take_of_length_le (by omega)]
  · show ((strSliceIndices (some (i : Int)) (some (j : Int)) 1 t.length).filterMap (t.cps[·]?)).toArray.toList = _
    rw [key]
theorem slice_ns (t : Str) (j : Nat) : toL (Txt.slice t none (some (j : Int))) = (toL t).take j := by
  have h := slice_ss t 0 j (Nat.zero_le _)
  unfold Txt.slice at h ⊢
  rw [idx_none]
  simpa using h
def signF (t : Str) (a : Int) : Str := Txt.slice t (some (a - 1)) (some (a - 1 + 1))
def midF (t : Str) (a : Int) : Str := Txt.slice t (some (a - 1)) (some (a - 1 + 255))
def leftF (t : Str) (a : Int) : Str := Txt.slice t none (some a)
def putF (t : Str) (a : Int) (u : Str) : Str := (leftF t (a - 1) ++ u) ++ midF t (a + 1)
def exF (t : Str) (a b : Int) : Str := putF (putF t a (signF t b)) b (signF t a)
theorem leftF_le (t : Str) (a : Int) : (leftF t a).length ≤ t.length := PyProof.Txt.length_slice_le _ _ _
theorem midF_le (t : Str) (a : Int) : (midF t a).length ≤ t.length := PyProof.Txt.length_slice_le _ _ _
/-- the sign at place a, from 1 on -/
def keyAt (t : Str) (a : Int) : Nat := (toL t).getD (a.toNat - 1) 0
theorem signF_toL {t : Str} {a : Int} (h1 : 1 ≤ a) (h2 : a ≤ t.length) : toL (signF t a) = [keyAt t a] := by
  obtain ⟨n, rfl⟩ : ∃ n : Nat, a = (n : Int) + 1 := ⟨(a - 1).toNat, by omega⟩
  have hl := toL_len t
  unfold signF
  have e1 : (n : Int) + 1 - 1 = ((n : Nat) : Int) := by omega
  have e2 : ((n : Nat) : Int) + 1 = ((n + 1 : Nat) : Int) := by omega
  rw [e1, e2, slice_ss _ _ _ (by omega)]
  have e3 : n + 1 - n = 1 := by omega
  rw [e3]
  have hn : n < (toL t).length := by omega
  unfold keyAt
  have e4 : ((n + 1 : Nat) : Int).toNat - 1 = n := by omega
  rw [e4, List.getD_eq_getElem?_getD, List.getElem?_eq_getElem hn, Option.getD_some]
  rw [List.drop_eq_getElem_cons hn]
  simp
theorem signF_len {t : Str} {a : Int} (h1 : 1 ≤ a) (h2 : a ≤ t.length) : (signF t a).length = 1 := by
  rw [← toL_len, signF_toL h1 h2]; rfl
theorem putF_toL {t u : Str} {a : Int} (h1 : 1 ≤ a) (h2 : a ≤ t.length) (h3 : t.length ≤ 255) : toL (putF t a u) = (toL t).take (a.toNat - 1) ++ toL u ++ (toL t).drop a.toNat := by
  obtain ⟨n, rfl⟩ : ∃ n : Nat, a = (n : Int) + 1 := ⟨(a - 1).toNat, by omega⟩
  have hl := toL_len t
  unfold putF leftF midF
  have e1 : (n : Int) + 1 - 1 = ((n : Nat) : Int) := by omega
  have e2 : (n : Int) + 1 + 1 - 1 = ((n + 1 : Nat) : Int) := by omega
  have e3 : ((n + 1 : Nat) : Int) + 255 = ((n + 1 + 255 : Nat) : Int) := by omega
  show (_ ++ _ ++ _ : Array Nat).toList = _
  rw [Array.toList_append]
  show (_ ++ _ : Array Nat).toList ++ _ = _
  rw [Array.toList_append]
  rw [e1, e2, e3]
  have s1 := slice_ns t n
  have s2 := slice_ss t (n + 1) (n + 1 + 255) (by omega)
  unfold toL at s1 s2
  rw [s1, s2]
  have e4 : ((n : Int) + 1).toNat - 1 = n := by omega
  have e5 : ((n : Int) + 1).toNat = n + 1 := by omega
  rw [e4, e5]
  congr 1
  apply List.take_of_length_le
  rw [List.length_drop]
  unfold toL at hl
  omega
theorem putF_set {t u : Str} {a : Int} {c : Nat} (h1 : 1 ≤ a) (h2 : a ≤ t.length) (h3 : t.length ≤ 255) (hu : toL u = [c]) : toL (putF t a u) = (toL t).set (a.toNat - 1) c := by
  rw [putF_toL h1 h2 h3, hu]
  have hl := toL_len t
  rw [List.set_eq_take_append_cons_drop, if_pos (by omega)]
  have : a.toNat - 1 + 1 = a.toNat := by omega
  rw [this]
  simp
theorem putF_len {t u : Str} {a : Int} (h1 : 1 ≤ a) (h2 : a ≤ t.length) (h3 : t.length ≤ 255) (hu : u.length = 1) : (putF t a u).length = t.length := by
  rw [← toL_len, putF_toL h1 h2 h3]
  have hl := toL_len t
  have hm := toL_len u
  simp only [List.length_append, List.length_take, List.length_drop]
  omega
theorem exF_len {t : Str} {a b : Int} (h1 : 1 ≤ a) (h2 : a ≤ t.length) (h3 : 1 ≤ b) (h4 : b ≤ t.length) (h5 : t.length ≤ 255) : (exF t a b).length = t.length := by
  unfold exF
  have e := putF_len (u := signF t b) h1 h2 h5 (signF_len h3 h4)
  rw [putF_len h3 (by omega) (by omega) (signF_len h1 h2), e]
theorem exF_toL {t : Str} {a b : Int} (h1 : 1 ≤ a) (h2 : a ≤ t.length) (h3 : 1 ≤ b) (h4 : b ≤ t.length) (h5 : t.length ≤ 255) :
    toL (exF t a b) = ((toL t).set (a.toNat - 1) (keyAt t b)).set (b.toNat - 1) (keyAt t a) := by
  unfold exF
  have e := putF_len (u := signF t b) h1 h2 h5 (signF_len h3 h4)
  rw [putF_set h3 (by omega) (by omega) (signF_toL h1 h2), putF_set h1 h2 h5 (signF_toL h3 h4)]
end

section
open PySem PySem.W PyProof.Rows
theorem keyAt_get {t : Str} {a : Int} (h1 : 1 ≤ a) (h2 : a ≤ t.length) : ∃ h : a.toNat - 1 < (toL t).length, keyAt t a = (toL t)[a.toNat - 1] := by
  have hl := toL_len t
  have h : a.toNat - 1 < (toL t).length := by omega
  refine ⟨h, ?_⟩
  unfold keyAt
  rw [List.getD_eq_getElem?_getD, List.getElem?_eq_getElem h, Option.getD_some]
theorem exF_key {t : Str} {a b i : Int} (h1 : 1 ≤ a) (h2 : a ≤ t.length) (h3 : 1 ≤ b) (h4 : b ≤ t.length) (h5 : t.length ≤ 255) (h6 : 1 ≤ i) (h7 : i ≤ t.length) :
    keyAt (exF t a b) i = if i = b then keyAt t a else if i = a then keyAt t b else keyAt t i := by
  have hl := toL_len t
  show (toL (exF t a b)).getD (i.toNat - 1) 0 = _
  rw [exF_toL h1 h2 h3 h4 h5, List.getD_eq_getElem?_getD, List.getElem?_set]
  by_cases e1 : i = b
  · subst e1
    rw [if_pos rfl, if_pos rfl, if_pos (by rw [List.length_set]; omega), Option.getD_some]
  · rw [if_neg (by omega), if_neg e1, List.getElem?_set]
    by_cases e2 : i = a
    · subst e2
      rw [if_pos rfl, if_pos rfl, if_pos (by omega), Option.getD_some]
    · rw [if_neg (by omega), if_neg e2]
      unfold keyAt
      rw [List.getD_eq_getElem?_getD]
theorem exF_perm {t : Str} {a b : Int} (h1 : 1 ≤ a) (h2 : a ≤ t.length) (h3 : 1 ≤ b) (h4 : b ≤ t.length) (h5 : t.length ≤ 255) : (toL (exF t a b)).Perm (toL t) := by
  rw [exF_toL h1 h2 h3 h4 h5]
  obtain ⟨p, e⟩ := keyAt_get h1 h2
  obtain ⟨q, e'⟩ := keyAt_get h3 h4
  rw [e, e']
  exact List.set_set_perm p q
/-- Williams: no sign stands below a lesser one, from place k on -/
def HeapFrom (k : Int) (t : Str) : Prop := ∀ i : Int, 2 ≤ i → i ≤ t.length → k ≤ i / 2 → keyAt t i ≤ keyAt t (i / 2)
/-- on the way up: t came from u, and only place a may stand wrong against its father -/
structure Up (u t : Str) (a : Int) : Prop where
  len : t.length = u.length
  perm : (toL t).Perm (toL u)
  lo : 1 ≤ a
  hi : a ≤ t.length
  most : t.length ≤ 100
  heap : ∀ i : Int, 2 ≤ i → i ≤ t.length → i ≠ a → keyAt t i ≤ keyAt t (i / 2)
  over : ∀ i : Int, 2 ≤ i → i ≤ t.length → i / 2 = a → 2 ≤ a → keyAt t i ≤ keyAt t (a / 2)
theorem Up.step {u t : Str} {a : Int} (h : Up u t a) (h1 : 1 < a) (h2 : keyAt t (a / 2) < keyAt t a) : Up u (exF t (a / 2) a) (a / 2) := by
  have lo := h.lo
  have hi := h.hi
  have most := h.most
  have el : (exF t (a / 2) a).length = t.length := exF_len (by omega) (by omega) lo hi (by omega)
  have ke : ∀ i : Int, 1 ≤ i → i ≤ t.length → keyAt (exF t (a / 2) a) i = if i = a then keyAt t (a / 2) else if i = a / 2 then keyAt t a else keyAt t i :=
    fun i p q => exF_key (by omega) (by omega) lo hi (by omega) p q
  refine ⟨el.trans h.len, (exF_perm (by omega) (by omega) lo hi (by omega)).trans h.perm, by omega, by omega, by omega, ?_, ?_⟩
  · intro i i2 il ia
    rw [el] at il
    rw [ke i (by omega) il, ke (i / 2) (by omega) (by omega)]
    by_cases e1 : i = a
    · subst e1
      rw [if_pos rfl, if_neg (by omega), if_pos rfl]
      omega
    · rw [if_neg e1, if_neg ia]
      by_cases e2 : i / 2 = a
      · rw [if_pos e2]
        exact h.over i i2 il e2 (by omega)
      · rw [if_neg e2]
        by_cases e3 : i / 2 = a / 2
        · rw [if_pos e3]
          have := h.heap i i2 il e1
          rw [e3] at this
          omega
        · rw [if_neg e3]
          exact h.heap i i2 il e1
  · intro i i2 il ia a2
    rw [el] at il
    rw [ke i (by omega) il, ke (a / 2 / 2) (by omega) (by omega), if_neg (by omega : ¬ a / 2 / 2 = a), if_neg (by omega : ¬ a / 2 / 2 = a / 2)]
    have hh := h.heap (a / 2) a2 (by omega) (by omega)
    by_cases e1 : i = a
    · subst e1
      rw [if_pos rfl]
      exact hh
    · rw [if_neg e1, if_neg (by omega)]
      have := h.heap i i2 il e1
      rw [ia] at this
      omega
theorem Up.stop {u t : Str} {a : Int} (h : Up u t a) (h1 : ¬ (1 < a ∧ keyAt t (a / 2) < keyAt t a)) : HeapFrom 1 t := by
  intro i i2 il _
  by_cases e : i = a
  · subst e
    have : ¬ keyAt t (i / 2) < keyAt t i := fun q => h1 ⟨by omega, q⟩
    omega
  · exact h.heap i i2 il e
/-- on the way down from k -/
structure Down (u t : Str) (k a : Int) : Prop where
  len : t.length = u.length
  perm : (toL t).Perm (toL u)
  ko : 1 ≤ k
  lo : k ≤ a
  hi : a ≤ t.length
  most : t.length ≤ 100
  heap : ∀ i : Int, 2 ≤ i → i ≤ t.length → k ≤ i / 2 → i / 2 ≠ a → keyAt t i ≤ keyAt t (i / 2)
  over : ∀ i : Int, 2 ≤ i → i ≤ t.length → i / 2 = a → k ≤ a / 2 → keyAt t i ≤ keyAt t (a / 2)
theorem Down.start {t : Str} {a : Int} (h1 : 1 ≤ a) (h2 : a ≤ t.length) (h3 : t.length ≤ 100) (h : HeapFrom (a + 1) t) : Down t t a a :=
  ⟨rfl, List.Perm.refl _, h1, Int.le_refl _, h2, h3, fun i i2 il ik ia => h i i2 il (by omega), fun i i2 il ia ik => by omega⟩
theorem Down.step {u t : Str} {k a s : Int} (h : Down u t k a) (hs : s = 2 * a ∨ s = 2 * a + 1) (hsl : s ≤ t.length) (hm : ∀ j : Int, j = 2 * a ∨ j = 2 * a + 1 → j ≤ t.length → keyAt t j ≤ keyAt t s) (h2 : keyAt t a < keyAt t s) : Down u (exF t a s) k s := by
  have ko := h.ko
  have lo := h.lo
  have hi := h.hi
  have most := h.most
  have el : (exF t a s).length = t.length := exF_len (by omega) hi (by omega) hsl (by omega)
  have ke : ∀ i : Int, 1 ≤ i → i ≤ t.length → keyAt (exF t a s) i = if i = s then keyAt t a else if i = a then keyAt t s else keyAt t i :=
    fun i p q => exF_key (by omega) hi (by omega) hsl (by omega) p q
  refine ⟨el.trans h.len, (exF_perm (by omega) hi (by omega) hsl (by omega)).trans h.perm, ko, by omega, by omega, by omega, ?_, ?_⟩
  · intro i i2 il ik ia
    rw [el] at il
    rw [ke i (by omega) il, ke (i / 2) (by omega) (by omega), if_neg ia]
    by_cases e1 : i = s
    · subst e1
      rw [if_pos rfl, if_pos (by omega)]
      omega
    · rw [if_neg e1]
      by_cases e2 : i / 2 = a
      · rw [if_pos e2, if_neg (by omega)]
        exact hm i (by omega) il
      · rw [if_neg e2]
        by_cases e3 : i = a
        · subst e3
          rw [if_pos rfl]
          have := h.over s (by omega) hsl (by omega) ik
          exact this
        · rw [if_neg e3]
          exact h.heap i i2 il ik e2
  · intro i i2 il ia ik
    rw [el] at il
    have e0 : s / 2 = a := by omega
    rw [ke i (by omega) il, e0, ke a (by omega) hi, if_neg (by omega : ¬ i = s), if_neg (by omega : ¬ i = a), if_neg (by omega : ¬ a = s), if_pos rfl]
    have := h.heap i i2 il (by omega) (by omega)
    rw [ia] at this
    exact this
theorem Down.stop {u t : Str} {k a : Int} (h : Down u t k a) (hm : ∀ j : Int, j = 2 * a ∨ j = 2 * a + 1 → j ≤ t.length → keyAt t j ≤ keyAt t a) : HeapFrom k t := by
  intro i i2 il ik
  by_cases e : i / 2 = a
  · rw [e]; exact hm i (by omega) il
  · exact h.heap i i2 il ik e
theorem Up.bounds {u t : Str} {a : Int} (h : Up u t a) : 1 ≤ a ∧ a ≤ t.length ∧ t.length ≤ 100 := ⟨h.lo, h.hi, h.most⟩
theorem Down.bounds {u t : Str} {k a : Int} (h : Down u t k a) : 1 ≤ a ∧ a ≤ t.length ∧ t.length ≤ 100 := ⟨Int.le_trans h.ko h.lo, h.hi, h.most⟩
theorem fdiv2 (a : Int) : Int.fdiv a 2 = a / 2 := Int.fdiv_eq_ediv_of_nonneg a (by decide)
theorem Up.end1 {u t : Str} {a : Int} (h : Up u t a) (h1 : ¬ 1 < a) : t.length = u.length ∧ (toL t).Perm (toL u) ∧ HeapFrom 1 t := ⟨h.len, h.perm, h.stop fun q => h1 q.1⟩
theorem Up.end2 {u t : Str} {a : Int} (h : Up u t a) (h1 : ¬ keyAt t (Int.fdiv a 2) < keyAt t a) : t.length = u.length ∧ (toL t).Perm (toL u) ∧ HeapFrom 1 t := ⟨h.len, h.perm, h.stop fun q => h1 (by rw [fdiv2]; exact q.2)⟩
theorem Up.turn {u t : Str} {a : Int} (h : Up u t a) (h1 : 1 < a) (h2 : keyAt t (Int.fdiv a 2) < keyAt t a) : Up u (exF t (Int.fdiv a 2) a) (Int.fdiv a 2) := by
  rw [fdiv2] at *
  exact h.step h1 h2
theorem Down.turn1 {u t : Str} {k a : Int} (h : Down u t k a) (h1 : 2 * a ≤ t.length) (h2 : ¬ 2 * a < t.length) (h3 : keyAt t a < keyAt t (2 * a)) : Down u (exF t a (2 * a)) k (2 * a) :=
  h.step (.inl rfl) h1 (fun j hj hl => by rcases hj with rfl | rfl <;> omega) h3
theorem Down.turn2 {u t : Str} {k a : Int} (h : Down u t k a) (h1 : 2 * a ≤ t.length) (h2 : ¬ keyAt t (2 * a) < keyAt t (2 * a + 1)) (h3 : keyAt t a < keyAt t (2 * a)) : Down u (exF t a (2 * a)) k (2 * a) :=
  h.step (.inl rfl) h1 (fun j hj hl => by rcases hj with rfl | rfl <;> omega) h3
theorem Down.turn3 {u t : Str} {k a : Int} (h : Down u t k a) (h1 : 2 * a < t.length) (h2 : keyAt t (2 * a) < keyAt t (2 * a + 1)) (h3 : keyAt t a < keyAt t (2 * a + 1)) : Down u (exF t a (2 * a + 1)) k (2 * a + 1) :=
  h.step (.inr rfl) (by omega) (fun j hj hl => by rcases hj with rfl | rfl <;> omega) h3
theorem Down.end0 {u t : Str} {k a : Int} (h : Down u t k a) (h1 : ¬ 2 * a ≤ t.length) : t.length = u.length ∧ (toL t).Perm (toL u) ∧ HeapFrom k t :=
  ⟨h.len, h.perm, h.stop fun j hj hl => by omega⟩
theorem Down.end1 {u t : Str} {k a : Int} (h : Down u t k a) (h2 : ¬ 2 * a < t.length) (h3 : ¬ keyAt t a < keyAt t (2 * a)) : t.length = u.length ∧ (toL t).Perm (toL u) ∧ HeapFrom k t :=
  ⟨h.len, h.perm, h.stop fun j hj hl => by rcases hj with rfl | rfl <;> omega⟩
theorem Down.end2 {u t : Str} {k a : Int} (h : Down u t k a) (h2 : ¬ keyAt t (2 * a) < keyAt t (2 * a + 1)) (h3 : ¬ keyAt t a < keyAt t (2 * a)) : t.length = u.length ∧ (toL t).Perm (toL u) ∧ HeapFrom k t :=
  ⟨h.len, h.perm, h.stop fun j hj hl => by rcases hj with rfl | rfl <;> omega⟩
theorem Down.end3 {u t : Str} {k a : Int} (h : Down u t k a) (h2 : keyAt t (2 * a) < keyAt t (2 * a + 1)) (h3 : ¬ keyAt t a < keyAt t (2 * a + 1)) : t.length = u.length ∧ (toL t).Perm (toL u) ∧ HeapFrom k t :=
  ⟨h.len, h.perm, h.stop fun j hj hl => by rcases hj with rfl | rfl <;> omega⟩
end

section
open PySem PySem.W PyProof.Rows
theorem leftF_toL (t : Str) (n : Nat) : toL (leftF t (n : Int)) = (toL t).take n := slice_ns t n
theorem toL_empty : toL (Str.ofString "") = [] := by decide
theorem heap_top {t : Str} (h : HeapFrom 1 t) : ∀ (k : Nat) (i : Int), i.toNat ≤ k → 1 ≤ i → i ≤ t.length → keyAt t i ≤ keyAt t 1 := by
  intro k
  induction k with
  | zero => intro i h1 h2 _; omega
  | succ k ih =>
    intro i h1 h2 h3
    by_cases e : i = 1
    · rw [e]; exact Nat.le_refl _
    · have a := h i (by omega) h3 (by omega)
      have b := ih (i / 2) (by omega) (by omega) (by omega)
      omega
theorem heap_max {t : Str} (h : HeapFrom 1 t) : ∀ c ∈ toL t, c ≤ keyAt t 1 := by
  intro c hc
  obtain ⟨j, hj, e⟩ := List.getElem_of_mem hc
  have hl := toL_len t
  have := heap_top h (j + 1) ((j : Int) + 1) (by omega) (by omega) (by omega)
  have e2 : keyAt t ((j : Int) + 1) = c := by
    unfold keyAt
    rw [show ((j : Int) + 1).toNat - 1 = j by omega, List.getD_eq_getElem?_getD, List.getElem?_eq_getElem hj, Option.getD_some, e]
  rw [e2] at this
  exact this
theorem ne_empty {t : Str} (h : (t != Str.ofString "") = true) : 1 ≤ t.length := by
  have hl := toL_len t
  by_cases e : t.length = 0
  · have : toL t = [] := List.length_eq_zero_iff.mp (by omega)
    have : t = Str.ofString "" := str_eq (by rw [this, toL_empty])
    rw [this] at h
    exact absurd h (by decide)
  · omega
theorem is_empty {t : Str} (h : (t != Str.ofString "") = false) : t.length = 0 := by
  have e : t = Str.ofString "" := by simpa using h
  rw [e]; decide
section
variable {t : Str} (h1 : 1 ≤ t.length) (h2 : t.length ≤ 100)
include h1
theorem left_len : (leftF t ((t.length : Int) - 1)).length = t.length - 1 := by
  have e : (t.length : Int) - 1 = ((t.length - 1 : Nat) : Int) := by omega
  rw [e, ← toL_len, leftF_toL, List.length_take, toL_len]
  omega
theorem left_key {i : Int} (hi : 1 ≤ i) (hl : i ≤ (t.length : Int) - 1) : keyAt (leftF t ((t.length : Int) - 1)) i = keyAt t i := by
  have e : (t.length : Int) - 1 = ((t.length - 1 : Nat) : Int) := by omega
  unfold keyAt
  rw [e, leftF_toL, List.getD_eq_getElem?_getD, List.getD_eq_getElem?_getD, List.getElem?_take, if_pos (by omega)]
include h2
theorem taken_put (hne : (leftF t ((t.length : Int) - 1) != Str.ofString "") = true) :
    (1 : Int) ≤ 1 ∧ (1 : Int) ≤ (leftF t ((t.length : Int) - 1)).length ∧ (leftF t ((t.length : Int) - 1)).length ≤ 100 ∧ (signF t t.length).length = 1 := by
  have := ne_empty hne
  have e := left_len h1
  exact ⟨by omega, by omega, by omega, signF_len (by omega) (by omega)⟩
theorem taken_toL (hne : (leftF t ((t.length : Int) - 1) != Str.ofString "") = true) :
    toL (putF (leftF t ((t.length : Int) - 1)) 1 (signF t t.length)) = ((toL t).take (t.length - 1)).set 0 (keyAt t t.length) := by
  have := ne_empty hne
  have e := left_len h1
  rw [putF_set (by omega) (by omega) (by omega) (signF_toL (by omega) (by omega))]
  have e2 : (t.length : Int) - 1 = ((t.length - 1 : Nat) : Int) := by omega
  rw [e2, leftF_toL]
  rfl
theorem taken_perm (hne : (leftF t ((t.length : Int) - 1) != Str.ofString "") = true) :
    (toL (putF (leftF t ((t.length : Int) - 1)) 1 (signF t t.length)) ++ [keyAt t 1]).Perm (toL t) := by
  rw [taken_toL h1 h2 hne]
  have h3 := ne_empty hne
  have e := left_len h1
  have hl := toL_len t
  have k1 : keyAt t 1 = (toL t).getD 0 0 := rfl
  have kn : keyAt t t.length = (toL t).getD (t.length - 1) 0 := by unfold keyAt; rw [Int.toNat_natCast]
  rw [k1, kn, ← hl]
  generalize toL t = l at *
  cases l with
  | nil => simp at hl; omega
  | cons a r =>
    have hr : r ≠ [] := by
      intro q; subst q; simp at hl; omega
    have eq1 : (a :: r).take ((a :: r).length - 1) = a :: r.dropLast := by
      rw [List.length_cons, Nat.add_sub_cancel]
      cases r with
      | nil => exact absurd rfl hr
      | cons b s => rw [List.length_cons, List.take_succ_cons, List.dropLast_eq_take, List.length_cons, Nat.add_sub_cancel]
    have eq2 : (a :: r).getD ((a :: r).length - 1) 0 = r.getLast hr := by
      rw [List.length_cons, Nat.add_sub_cancel]
      have hp : 0 < r.length := List.length_pos_iff.mpr hr
      obtain ⟨m, hm⟩ : ∃ m, r.length = m + 1 := ⟨r.length - 1, by omega⟩
      rw [hm, List.getD_cons_succ, List.getLast_eq_getElem, List.getD_eq_getElem?_getD]
      have : m = r.length - 1 := by omega
      rw [List.getElem?_eq_getElem (by omega), Option.getD_some]
      congr 1
    rw [eq1, eq2, List.set_cons_zero, List.getD_cons_zero]
    have eq3 : a :: r = a :: (r.dropLast ++ [r.getLast hr]) := by rw [List.dropLast_concat_getLast]
    rw [eq3]
    have p1 : (r.getLast hr :: (r.dropLast ++ [a])).Perm (a :: (r.dropLast ++ [r.getLast hr])) := by
      refine (List.Perm.cons _ (List.perm_append_comm (l₁ := r.dropLast) (l₂ := [a]))).trans ?_
      refine (List.Perm.swap _ _ _).trans ?_
      exact List.Perm.cons _ (List.perm_append_comm (l₁ := [r.getLast hr]) (l₂ := r.dropLast))
    simpa using p1
theorem taken_down (hh : HeapFrom 1 t) (hne : (leftF t ((t.length : Int) - 1) != Str.ofString "") = true) :
    Down (putF (leftF t ((t.length : Int) - 1)) 1 (signF t t.length)) (putF (leftF t ((t.length : Int) - 1)) 1 (signF t t.length)) 1 1 := by
  obtain ⟨_, q2, q3, q4⟩ := taken_put h1 h2 hne
  have e := left_len h1
  have el := putF_len (t := leftF t ((t.length : Int) - 1)) (a := 1) (u := signF t t.length) (by omega) q2 (by omega) q4
  have ke : ∀ i : Int, 2 ≤ i → i ≤ (t.length : Int) - 1 → keyAt (putF (leftF t ((t.length : Int) - 1)) 1 (signF t t.length)) i = keyAt t i := by
    intro i i2 il
    rw [← left_key h1 (by omega) il]
    unfold keyAt
    rw [putF_set (by omega) q2 (by omega) (signF_toL (by omega) (by omega)), List.getD_eq_getElem?_getD, List.getElem?_set, if_neg (by omega), ← List.getD_eq_getElem?_getD]
  refine Down.start (by omega) (by omega) (by omega) ?_
  intro i i2 il ik
  rw [ke i i2 (by omega), ke (i / 2) (by omega) (by omega)]
  exact hh i i2 (by omega) (by omega)
theorem taken_end {x : Str} (hne : (leftF t ((t.length : Int) - 1) != Str.ofString "") = true)
    (hl : x.length = (putF (leftF t ((t.length : Int) - 1)) 1 (signF t t.length)).length) (hp : (toL x).Perm (toL (putF (leftF t ((t.length : Int) - 1)) 1 (signF t t.length)))) (hx : HeapFrom 1 x) :
    x.length + 1 = t.length ∧ (toL x ++ [keyAt t 1]).Perm (toL t) ∧ HeapFrom 1 x := by
  obtain ⟨_, q2, q3, q4⟩ := taken_put h1 h2 hne
  have e := left_len h1
  have el := putF_len (t := leftF t ((t.length : Int) - 1)) (a := 1) (u := signF t t.length) (by omega) q2 (by omega) q4
  exact ⟨by omega, (List.Perm.append_right _ hp).trans (taken_perm h1 h2 hne), hx⟩
theorem taken_end0 (hne : (leftF t ((t.length : Int) - 1) != Str.ofString "") = false) :
    (Str.ofString "").length + 1 = t.length ∧ (toL (Str.ofString "") ++ [keyAt t 1]).Perm (toL t) ∧ HeapFrom 1 (Str.ofString "") := by
  have e := left_len h1
  have e2 := is_empty hne
  have e3 : (Str.ofString "").length = 0 := by decide
  have hl := toL_len t
  refine ⟨by omega, ?_, ?_⟩
  · rw [toL_empty]
    have k1 : keyAt t 1 = (toL t).getD 0 0 := rfl
    rw [k1]
    match hq : toL t with
    | [] => rw [hq] at hl; simp at hl; omega
    | [a] => exact List.Perm.refl _
    | a :: b :: r => rw [hq] at hl; simp at hl; omega
  · intro i i2 il _
    omega
end
end

section
open PySem PySem.W PyProof.Rows
theorem item_toL {t : Str} {k : Int} (h0 : 0 ≤ k) (h1 : k < t.length) : (Txt.item t k).cps.toList = [keyAt t (k + 1)] := by
  have hl := toL_len t
  have hs : seqIndex? k t.length = some k.toNat := by
    unfold seqIndex?
    have e1 : ¬ k < 0 := by omega
    simp only [e1, if_false]
    first
      | rfl
      | (rw [if_pos (by omega)])
      | (rw [if_neg (by omega)])
      | (simp; omega)
  unfold Txt.item Txt.charAt keyAt
  rw [hs]
  have e2 : (k + 1).toNat - 1 = k.toNat := by omega
  rw [e2]
  show [((some k.toNat).bind fun z => t.cps[z]?).getD 0] = _
  rw [Option.bind_some, List.getD_eq_getElem?_getD, Array.getElem?_toList]
theorem heap_no {t : Str} {k : Int} (h : HeapFrom 1 t) (_h5 : t.length ≤ 50) (hlo : 1 ≤ k) (hhi : k < 1 + (((t.length : Int) - 1).toNat : Int))
    (hl : (Txt.item t (Int.fdiv (k + 1) 2 - 1)).cps.toList < (Txt.item t k).cps.toList) : False := by
  rw [fdiv2] at hl
  rw [item_toL (by omega) (by omega), item_toL (by omega) (by omega)] at hl
  have e : (k + 1) / 2 - 1 + 1 = (k + 1) / 2 := by omega
  rw [e] at hl
  have := h (k + 1) (by omega) (by omega) (by omega)
  have l1 : ∀ a b : Nat, decide ([a] < [b]) = decide (a < b) := by
    intro a b
    rw [StrLaws.lt_cons_cons, StrLaws.lt_nil_nil]
    simp
  have hd : decide ([keyAt t ((k + 1) / 2)] < [keyAt t (k + 1)]) = true := decide_eq_true hl
  rw [l1] at hd
  have := of_decide_eq_true hd
  omega
theorem ret_eq {Q : Value → Shared → Prop} {v v' : Value} {s : Shared} (h : Q v s) (e : v' = v) : Q v' s := e ▸ h
theorem heap_end {G : List Int → Int → List Int} (hG : ∀ a k, G a k = a) (l : List Int) : Value.bool (decide (List.foldl G [] l = [])) = Value.bool true := by
  have e : ∀ (l : List Int) (a : List Int), List.foldl G a l = a := by
    intro l
    induction l with
    | nil => intro a; rfl
    | cons x r ih => intro a; rw [List.foldl_cons, hG]; exact ih a
  rw [e]; rfl
end

section
open PySem PySem.W PySem.Spec PySem.Calls PyProof.Rows
section
variable {prog : Program} {w : World} {A : Around} {E : Value → Shared → Prop} {s : Shared} {h₀ : Heap} {L : Addr} {m : Str → Option Value} {env : Env}
/-- the source of a comprehension is a tuple of the ledger -/
def TupSrc (prog : Program) (w : World) (A : Around) (h₀ : Heap) (L : Addr) (m : Str → Option Value) (env : Env) (elt : Expr) (x : Str) (scope : Scope) (cl : List (Str × Addr)) (Fin : Shared → List Value → List (Addr × Obj) → Prop) (xv : Value) (s₁ : Shared) : Prop :=
  ∃ ax its n news, xv = .ref ax ∧ A.handled = none ∧ Fr h₀ L s₁.heap m ∧ News h₀ L s₁.heap news ∧ (ax, ({ cls := .type "tuple", data := .seq its n } : Obj)) ∈ news ∧ its.size ≤ sizeLine ∧
    ∀ s₂ : Shared, (∃ h, s₂ = { s₁ with heap := h }) → LCg.CompRest prog w A h₀ L m env elt x scope cl s₂ (fun nw => (ax, ({ cls := .type "tuple", data := .seq its n } : Obj)) ∈ nw) (fun i v => its[i]? = some v) (Fin s₂) its.size 0 [] news
theorem assign_comp_tuple {elt iter : Expr} {x y : Str} {px py : Pos} {scope : Scope} {cl : List (Str × Addr)} {pos spos : Pos} {Q : Flow → Shared → Prop} (_F₀ : Fr h₀ L s.heap m) (hLe : env.locals = L)
    (hsw : swapsWith (.ListComp elt [⟨.Name x px, iter, [], 0⟩] scope pos) (some (.Name y py)) spos.line env = pure true)
    (hclos : closureFor scope env = pure cl) (hcell : ∀ z ∈ scope.names, z.2 ≠ .cell) (hkind : scope.kind = .function)
    (hnames : ∀ z ∈ scope.names, z.2 = .local → scope.names.lookup z.1 = some .local) (hx : scope.names.lookup x = some .local)
    (hy : env.kindOf y = some .local) (hp : (env.scope.kind == .class || (env.scope.kind == .module && env.locals != env.globals)) = false)
    (h : wpAny (model prog w) A (eval iter env) (TupSrc prog w A h₀ L m env elt x scope cl (fun s₂ => LCg.FinA h₀ L m s₂ y Q)) E s)
    (hs : ∀ x, foldedSetIterable iter env x = pure x := by intro _; rfl) :
    wpAny (model prog w) A (exec (.Assign [.Name y py] (.ListComp elt [⟨.Name x px, iter, [], 0⟩] scope pos) spos) env) Q E s := by
  subst hLe
  rw [exec_Assign_Name_used _ _ _ _ hsw]
  refine wpAny_bind (wpAny_standAt (wpAny_bind ?_))
  show wpAny _ A (do let _ ← comprehension (.ListComp elt [⟨.Name x px, iter, [], 0⟩] scope pos) scope env _ (newList []) false (eval iter env) (some (assign (.Name y py) env))) _ _ s
  refine wpAny_bind (wpAny_mono (wpAny_comprehension_free (use := some (assign (.Name y py) env)) (Q := fun _ s' => Q .next s') rfl hs hclos hkind hnames
    (wpAny_mono h (fun xv s₁ h₁ => ?_) fun _ _ e => e)) (fun _ s' hq => wpAny_pure (wpAny_pure hq)) fun _ _ e => e)
  obtain ⟨ax, its, n, news, rfl, hh, F, N, hm, hsz, R⟩ := h₁
  have hl : s₁.heap.IsTuple ax its := ⟨_, (N _ hm).1, rfl, _, rfl⟩
  have hlt : ax < s₁.heap.objs.size := Heap.lt_size (N _ hm).1
  refine wpAny_pyIter_tuple hl ?_
  have up : ∀ b o, s₁.heap.get? b = some o → (s₁.heap.push { cls := .type "tuple_iterator", data := .fields #[.ref ax, .int 0 0] }).get? b = some o := fun b o e => Heap.get?_push_of_some _ e
  refine LCg.block_U (Walks.tuple hh s₁.heap.objs.size ax (Nat.ne_of_lt hlt) its) hsz (fun i h st => by obtain ⟨o, e, _⟩ := st.1; exact ⟨o, e⟩) ?_ hcell hkind hx ⟨⟨_, Heap.get?_push_size _ rfl, rfl, rfl⟩, hl.push _⟩ (fun b hb => ?_)
      (F.keeps up) (N.grown up) (Nat.ne_of_lt F.ns.lt) (next_is_new F) (fun p hp => Nat.ne_of_lt (Heap.lt_size (N p hp).1)) hm (R _ ⟨_, rfl⟩) ?_
  · intro i h h' o nw st e e' k N' hm'
    exact ⟨by obtain ⟨o', q, r⟩ := st.1; rw [e] at q; cases q; exact ⟨o, e', r⟩, ⟨_, (N' _ hm').1, rfl, _, rfl⟩⟩
  · show b < (s₁.heap.push _).objs.size
    rw [Heap.size_push]
    rcases List.mem_cons.mp hb with rfl | hb
    · exact Nat.lt_succ_self _
    · rw [List.mem_singleton.mp hb]; exact Nat.lt_succ_of_lt hlt
  · intro D C h' tk m' ys news' F' N' o1 hn hC₀ hD₀ hCL hDL hCD offC fin
    show wpAny _ A (assign (.Name y py) env (.ref D)) _ _ _
    refine wpAny_assign_Name (wpAny_storeName_local hy F'.ns (fun h₂ hn₂ hs₂ => ?_) hp)
    have hL₀ : h₀.get? env.locals = none := Heap.get?_none_of_le F'.above
    have F₂ : Fr h₀ env.locals h₂ (fun z => if z = y then some (.ref D) else m z) := ⟨hn₂, fun b o e => hs₂.extBut b o (fun q => by rw [q, hL₀] at e; cases e) (F'.keep b o e), F'.above⟩
    refine ⟨m', hn.sameBut hs₂ hCL, fun h'' hs'' => fin D h'' _ (F₂.change hs'' hCL hC₀) (fun p hp => ?_) o1⟩
    have z : h₂.get? p.1 = some p.2 := hs₂.extBut _ _ (N' p hp).2.1 (N' p hp).1
    refine ⟨hs''.extBut _ _ ?_ z, (N' p hp).2⟩
    rcases List.mem_cons.mp hp with rfl | hp
    · exact Ne.symm hCD
    · exact offC p hp
theorem tup_of_K {K : Frag} {h : Heap} {a : Addr} {o : Obj} {its : Array Value} {n : Nat} (F : Fr h₀ L h m) (X : K.In h₀) (e : K.lookup a = some o) (hc : o.cls = .type "tuple") (hd : o.data = .seq its n) : h.IsTuple a its := ⟨o, F.keep _ _ (X _ _ e), hc, n, hd⟩
end
end

section
open PySem PySem.W PySem.Spec PyProof.Rows
theorem strs_of_signs {x : Str} {acc : Array Value} (h : ItemsOf (SignAt x) acc x.cps.size) : StrsAre acc.toList (signs x) := by
  have hall : ∀ (j : Nat) (hj : j < acc.toList.length), ∃ c u, x.cps.toList[j]? = some c ∧ acc.toList[j] = .str ⟨#[c]⟩ u := by
    intro j hj
    obtain ⟨c, u, h1, h2⟩ := h.2 j acc.toList[j] (by simp)
    exact ⟨c, u, by simpa using h1, h2⟩
  have h1 := strsAre_map acc.toList (by
    intro v hv
    obtain ⟨j, hj, rfl⟩ := List.getElem_of_mem hv
    obtain ⟨c, u, _, e⟩ := hall j hj
    exact ⟨_, _, e⟩)
  have e : acc.toList.map strOf = signs x := by
    show acc.toList.map strOf = x.cps.toList.map fun n => (⟨#[n]⟩ : Str)
    apply List.ext_getElem
    · simp [h.1]
    · intro j h1 h2
      rw [List.length_map] at h1
      obtain ⟨c, u, q1, q2⟩ := hall j h1
      rw [List.getElem_map, q2, List.getElem_map]
      rw [List.length_map] at h2
      rw [List.getElem?_eq_getElem h2] at q1
      cases q1
      rfl
  rwa [e] at h1
theorem rising_pairwise : ∀ (p : Str) (l : List Str), risingS p l = true → (p :: l).Pairwise (fun a b => ¬ b.cps.toList < a.cps.toList)
  | p, [], _ => List.pairwise_singleton _ _
  | p, x :: r, h => by
    have h1 : (!ltCps x.cps.toList p.cps.toList && risingS x r) = true := h
    rw [Bool.and_eq_true, ltCps_eq] at h1
    have h2 : ¬ x.cps.toList < p.cps.toList := by simpa using h1.1
    have ih := rising_pairwise x r h1.2
    refine List.pairwise_cons.mpr ⟨fun y hy => ?_, ih⟩
    rcases List.mem_cons.mp hy with rfl | hy
    · exact h2
    · exact List.le_trans h2 (List.rel_of_pairwise_cons ih hy)
theorem sorted_pairwise : ∀ (l : List Str), sortedS l = true → l.Pairwise (fun a b => ¬ b.cps.toList < a.cps.toList)
  | [], _ => List.Pairwise.nil
  | x :: r, h => rising_pairwise x r h
theorem sorted_same {a b : List Str} (hp : a.Perm b) (ha : sortedS a = true) (hb : sortedS b = true) : a = b := by
  refine List.Perm.eq_of_pairwise (le := fun a b => ¬ b.cps.toList < a.cps.toList) (fun x y _ _ h1 h2 => ?_) (sorted_pairwise a ha) (sorted_pairwise b hb) hp
  exact Str.ext' (Array.toList_inj.mp (List.le_antisymm h1 h2))
theorem signs_ok {x : Str} {ss : List Str} (hp : ss.Perm (signs x)) (h : ∀ c ∈ x.cps.toList, c < 128) : ss.all PyData.strOk = true := by
  rw [List.all_eq_true]
  intro y hy
  have hy2 := hp.mem_iff.mp hy
  obtain ⟨c, hc, rfl⟩ := List.mem_map.mp hy2
  have := h c hc
  show Array.all #[c] (fun z => decide (z < 0x110000)) = true
  simp
  omega
section
variable {prog : Program} {w : World} {A : Around} {E : Value → Shared → Prop} {s : Shared} {h₀ : Heap} {L : Addr} {m : Str → Option Value} {news : List (Addr × Obj)} {Q : Value → Shared → Prop}
/-- sorted of a text: a new list of its signs, rising -/
theorem sorted_text {x : Str} {t : Tok} (F : Fr h₀ L s.heap m) (N : News h₀ L s.heap news) (hh : A.handled = none) (hx : x.length < 64)
    (h : ∀ (D : Addr) (h' : Heap) (vs' : List Value) (ss' : List Str) (e tk' : Nat), Fr h₀ L h' m → News h₀ L h' ((D, listOf vs'.toArray e) :: news) → (∀ q ∈ news, q.1 < D) →
      StrsAre vs' ss' → ss'.Perm (signs x) → sortedS ss' = true → Q (.ref D) { s with heap := h', toks := tk' }) :
    wpAny (model prog w) A (call (.builtin "sorted") [.str x t]) Q E s := by
  refine Calls.call_function_entry kind_sorted plain_sorted entry_sorted (args_sorted1 _) ?_
  unfold Builtin.«sorted»
  refine wpAny_bind (m := checkCount "sorted" 1 1 _) (wpAny_pure ?_)
  have hsz : x.cps.size < 64 := hx
  refine wpAny_bind (wpAny_collect_str (A := A.in1) hh x t (fun s' acc hk hg hd ho hit => ?_) (by rw [sizeLine_eq]; omega))
  obtain ⟨H, g, d, tk, o⟩ := s'
  dsimp only at hg hd ho hk
  subst hg hd ho
  have hS := strs_of_signs hit
  have hlen : acc.toList.length < 64 := by
    have := hit.1
    simp only [Array.length_toList]
    omega
  refine wpAny_bind (wpAny_newList (hsz := by rw [sizeLine_eq]; omega) ?_)
  have hoL : (H.push (seqObj "list" acc.toList.toArray 0)).get? H.objs.size = some (seqObj "list" acc.toList.toArray 0) := Heap.get?_push_size _ rfl
  refine wpAny_bind (wpAny_holding (wpAny_call_entry slot_list_sort ⟨_, hoL, rfl⟩ entry_list_sort
    (list_sort_treeK strKind_oneLt hoL hS.keysOf (fun v₁ v₂ rest e => keyKind_strs (by rw [← e]; exact hS)) hlen fun st' a1 a2 => ⟨_, rfl, ?_⟩) (args_list_sort _)))
  refine wpAny_pure ⟨_, rfl, ?_⟩
  obtain ⟨ss', b1, b2, b3⟩ := sorted_out_str hS a1 a2
  obtain ⟨e, he⟩ := sortedHeap_at (vs := acc.toList) (out := (arrOf st').map (·.2)) hoL
  have keep : ∀ b ob, s.heap.get? b = some ob → (sortedHeap (H.push (seqObj "list" acc.toList.toArray 0)) H.objs.size acc.toList ((arrOf st').map (·.2))).get? b = some ob := by
    intro b ob eb
    have e1 := hk b ob eb
    have hlt : b < H.objs.size := Heap.lt_size e1
    rw [sortedHeap_old (Nat.ne_of_lt hlt) (by rw [size_push']; exact Nat.lt_succ_of_lt hlt), Heap.get?_push_ne _ _ _ (Nat.ne_of_lt hlt)]
    exact e1
  have hLH : H.objs.size ≠ L := by
    obtain ⟨oL, _, _, hL, _⟩ := F.ns
    intro q
    exact absurd (Heap.lt_size (hk _ _ hL)) (q ▸ Nat.lt_irrefl _)
  have h0H : h₀.get? H.objs.size = none := by
    cases hc : h₀.get? H.objs.size with
    | none => rfl
    | some ob => exact absurd (Heap.lt_size (hk _ _ (F.keep _ _ hc))) (Nat.lt_irrefl _)
  have N' : News h₀ L (sortedHeap (H.push (seqObj "list" acc.toList.toArray 0)) H.objs.size acc.toList ((arrOf st').map (·.2))) ((H.objs.size, listOf ((arrOf st').map (·.2)).toList.toArray e) :: news) := by
    intro p hp
    rcases List.mem_cons.mp hp with rfl | hp
    · exact ⟨by rw [Array.toArray_toList]; exact he, hLH, h0H⟩
    · exact ⟨keep _ _ (N p hp).1, (N p hp).2⟩
  exact h H.objs.size _ ((arrOf st').map (·.2)).toList ss' e _ (F.kept keep) N' (fun q hq => Heap.lt_size (hk _ _ (N q hq).1)) b1 b2 b3
/-- sorted of a list of texts that are a permutation of what stands sorted: that -/
theorem sorted_list_as {l : Addr} {vs : List Value} {ss ss1 : List Str} (F : Fr h₀ L s.heap m) (N : News h₀ L s.heap news) (hl : s.heap.IsList l vs.toArray) (hS : StrsAre vs ss) (h64 : ss.length < 64) (hp : ss1.Perm ss) (ho : sortedS ss1 = true)
    (h : ∀ (D : Addr) (h' : Heap) (vs' : List Value) (e : Nat), Fr h₀ L h' m → News h₀ L h' ((D, listOf vs'.toArray e) :: news) → (∀ q ∈ news, q.1 < D) → StrsAre vs' ss1 → Q (.ref D) { s with heap := h' }) :
    wpAny (model prog w) A (call (.builtin "sorted") [.ref l]) Q E s := by
  refine sorted_N_str F N hl hS (by rw [StrsAre.length hS]; exact h64) fun h' vs' ss' e F' N' a1 a2 a3 => ?_
  have e1 : ss' = ss1 := sorted_same (a2.trans hp.symm) a3 ho
  subst e1
  exact h _ h' vs' e F' N' (fun q hq => Nat.lt_succ_of_lt (Heap.lt_size (N q hq).1)) a1
theorem sorted_text_as {x : Str} {t : Tok} {ss ss1 : List Str} (F : Fr h₀ L s.heap m) (N : News h₀ L s.heap news) (hh : A.handled = none) (hx : x.length < 64) (hq : ss.Perm (signs x)) (hp : ss1.Perm ss) (ho : sortedS ss1 = true)
    (h : ∀ (D : Addr) (h' : Heap) (vs' : List Value) (e tk' : Nat), Fr h₀ L h' m → News h₀ L h' ((D, listOf vs'.toArray e) :: news) → (∀ q ∈ news, q.1 < D) → StrsAre vs' ss1 → Q (.ref D) { s with heap := h', toks := tk' }) :
    wpAny (model prog w) A (call (.builtin "sorted") [.str x t]) Q E s := by
  refine sorted_text F N hh hx fun D h' vs' ss' e tk' F' N' hl a1 a2 a3 => ?_
  have e1 : ss' = ss1 := sorted_same (a2.trans (hq.symm.trans hp.symm)) a3 ho
  subst e1
  exact h _ h' vs' e tk' F' N' hl a1
theorem strs_carried : ∀ {vs : List Value} {ss : List Str}, StrsAre vs ss → CarriedAll vs (ss.map PyData.str)
  | _, _, .nil => .nil
  | _, _, .cons _ t r => .cons (.str _ t) (strs_carried r)
theorem strs_shaped {ss : List Str} (h : ss.all PyData.strOk = true) : SeqAt.shaped (.list (ss.map PyData.str)) = true := by
  simp [SeqAt.shaped, PyData.canLay0, PyData.depth, canLayAll_strs', depthAll_strs', h]
theorem strs_same : ∀ ss : List Str, Spec.sameAll (ss.map PyData.str) (ss.map PyData.str) = true
  | [] => by simp [Spec.sameAll]
  | x :: r => by simp [Spec.sameAll, Spec.same, strs_same r]
theorem eq_strs {a b : Addr} {xs ys : List Value} {ss : List Str} (ha : s.heap.IsList a xs.toArray) (hb : s.heap.IsList b ys.toArray) (hi : StrsAre xs ss) (hj : StrsAre ys ss) (hk : ss.all PyData.strOk = true) (hu : A.units + 64 < cLine) (h : Q (.bool true) s) :
    wpAny (model prog w) A (compareOp .Eq (.ref a) (.ref b)) Q E s := by
  refine eq_dataH_same (reads_newData ha (strs_carried hi)) (reads_newData hb (strs_carried hj)) (strs_shaped hk) (strs_shaped hk) hu (SeqAt.noMix_of_shape (.list .str) rfl _ _ (list_map_has fun _ => rfl) (list_map_has fun _ => rfl)) ?_
  have e : Spec.same (.list (ss.map PyData.str)) (.list (ss.map PyData.str)) = true := by
    simp only [Spec.same]; exact strs_same ss
  rw [e]
  exact h
end
end

section
open PySem PySem.W PySem.Spec PyProof.Rows
/-- the text of one sign -/
def sgn (c : Nat) : Str := ⟨#[c]⟩
theorem sgn_signs (x : Str) : signs x = x.cps.toList.map sgn := rfl
theorem sg_len {vs : List Value} {cs : List Nat} (h : StrsAre vs (cs.map sgn)) : vs.length = cs.length := by rw [StrsAre.length h, List.length_map]
theorem sg_at : ∀ {vs : List Value} {cs : List Nat}, StrsAre vs (cs.map sgn) → ∀ (i : Nat) (v : Value), vs[i]? = some v → ∃ t, v = .str (sgn (cs.getD i 0)) t
  | vs, [], h, i, v, hv => by
    cases h
    simp at hv
  | vs, c :: r, h, i, v, hv => by
    rw [List.map_cons] at h
    cases h with
    | cons x t h' =>
      cases i with
      | zero =>
        simp at hv
        exact ⟨t, hv.symm⟩
      | succ i =>
        rw [List.getElem?_cons_succ] at hv
        obtain ⟨u, e⟩ := sg_at h' i v hv
        exact ⟨u, by rw [e]; rfl⟩
theorem sg_append {vs : List Value} {cs : List Nat} (h : StrsAre vs (cs.map sgn)) (c : Nat) (t : Tok) : StrsAre (vs ++ [.str (sgn c) t]) ((cs ++ [c]).map sgn) := by
  induction cs generalizing vs with
  | nil => cases h; exact .cons _ _ .nil
  | cons a r ih =>
    rw [List.map_cons] at h
    cases h with
    | cons x t' h' => exact .cons _ _ (ih h')
theorem sg_erase : ∀ {vs : List Value} {cs : List Nat}, StrsAre vs (cs.map sgn) → ∀ i, StrsAre (vs.eraseIdx i) ((cs.eraseIdx i).map sgn)
  | vs, [], h, i => by cases h; simp; exact .nil
  | vs, c :: r, h, i => by
    rw [List.map_cons] at h
    cases h with
    | cons x t h' =>
      cases i with
      | zero => simpa using h'
      | succ i =>
        simp only [List.eraseIdx_cons_succ, List.map_cons]
        exact .cons _ _ (sg_erase h' i)
theorem first_at {M : Nat} : ∀ {cs : List Nat}, M ∈ cs → ∃ j, ∃ hj : j < cs.length, cs[j] = M ∧ (∀ i (hi : i < cs.length), i < j → cs[i] ≠ M) ∧ cs.Perm (M :: cs.eraseIdx j)
  | [], h => nomatch h
  | c :: r, h => by
    by_cases e : c = M
    · subst e
      exact ⟨0, Nat.zero_lt_succ _, rfl, fun i _ hi => absurd hi (Nat.not_lt_zero _), by simp⟩
    · have hr : M ∈ r := by
        rcases List.mem_cons.mp h with q | q
        · exact absurd q.symm e
        · exact q
      obtain ⟨j, hj, e1, e2, e3⟩ := first_at hr
      refine ⟨j + 1, Nat.succ_lt_succ hj, e1, fun i hi hlt => ?_, ?_⟩
      · cases i with
        | zero => exact e
        | succ i => exact e2 i (Nat.lt_of_succ_lt_succ hi) (Nat.lt_of_succ_lt_succ hlt)
      · simp only [List.eraseIdx_cons_succ]
        exact (List.Perm.cons c e3).trans (List.Perm.swap _ _ _)
theorem best_le (val : Nat → Nat) : ∀ k, argBest (fun i j => decide (val j < val i)) k ≤ k ∧ ∀ j, j ≤ k → val j ≤ val (argBest (fun i j => decide (val j < val i)) k)
  | 0 => ⟨Nat.le_refl _, fun j hj => by rw [Nat.le_zero.mp hj]; exact Nat.le_refl _⟩
  | k + 1 => by
    obtain ⟨h1, h2⟩ := best_le val k
    unfold argBest
    by_cases h : val (argBest (fun i j => decide (val j < val i)) k) < val (k + 1)
    · rw [if_pos (by simpa using h)]
      refine ⟨Nat.le_refl _, fun j hj => ?_⟩
      rcases Nat.lt_or_ge j (k + 1) with q | q
      · have := h2 j (by omega); omega
      · have : j = k + 1 := by omega
        rw [this]; exact Nat.le_refl _
    · rw [if_neg (by simpa using h)]
      refine ⟨by omega, fun j hj => ?_⟩
      rcases Nat.lt_or_ge j (k + 1) with q | q
      · exact h2 j (by omega)
      · have : j = k + 1 := by omega
        rw [this]; omega
theorem sgn_lt (a b : Nat) : decide ((sgn a).cps.toList < (sgn b).cps.toList) = decide (a < b) := by
  show decide ([a] < [b]) = _
  rw [StrLaws.lt_cons_cons, StrLaws.lt_nil_nil]
  simp
section
variable {prog : Program} {w : World} {A : Around} {E : Value → Shared → Prop} {s : Shared} {h₀ : Heap} {L : Addr} {m : Str → Option Value} {news rest : List (Addr × Obj)} {Q : Value → Shared → Prop}
theorem CmpOf.sgn_gt {P : Nat → Value → Prop} (val : Nat → Nat) (hval : ∀ i v, P i v → ∃ t, v = .str (sgn (val i)) t) : CmpOf prog w A .Gt P (fun i j => decide (val j < val i)) := fun i j vi vj s Q E hi hj h => by
  obtain ⟨t, rfl⟩ := hval i vi hi
  obtain ⟨u, rfl⟩ := hval j vj hj
  refine richCompare_gives (op := .Gt) (typeIs_str s _ t) (typeIs_str s _ u) PySem.F.slot_str_gt PySem.F.entry_str_gt (PySem.F.args_str_gt_2 _ _) (gives_str_gt _ _ t u) (fun x => nomatch x) ?_
  rw [sgn_lt]
  exact h
theorem max_sgn {l : Addr} {vs : List Value} {cs : List Nat} (hh : A.handled = none) (F : Fr h₀ L s.heap m) (N : News h₀ L s.heap news) (hl : s.heap.IsList l vs.toArray) (hS : StrsAre vs (cs.map sgn)) (hne : cs ≠ [])
    (h : ∀ h' M (t : Tok) tk, Fr h₀ L h' m → News h₀ L h' news → M ∈ cs → (∀ c ∈ cs, c ≤ M) → Q (.str (sgn M) t) { s with heap := h', toks := tk }) :
    wpAny (model prog w) A (call (.builtin "max") [.ref l]) Q E s := by
  have hn : 0 < cs.length := List.length_pos_iff.mpr hne
  have hlen := sg_len hS
  have hlt : l < s.heap.objs.size := by obtain ⟨_, e, _⟩ := hl; exact Heap.lt_size e
  refine call_max_walk (wpAny_pyIter_list hl ?_)
  refine ⟨_, _, _, _, _, _, _, rfl, Walks.list (A := A.in1) hh _ l (Nat.ne_of_lt hlt) vs.toArray, ⟨⟨_, Heap.get?_push_size _ rfl, rfl, rfl⟩, hl.push _⟩, fun b hb => ?_, by simpa [hlen] using hn,
    CmpOf.sgn_gt (fun i => cs.getD i 0) (fun i v hv => sg_at hS i v (by simpa using hv)), fun v h' tk hP hk => ?_⟩
  · show b < (s.heap.push _).objs.size
    rw [Heap.size_push]
    rcases List.mem_cons.mp hb with rfl | hb
    · exact Nat.lt_succ_self _
    · rcases List.mem_cons.mp hb with rfl | hb
      · exact Nat.lt_succ_of_lt hlt
      · cases hb
  · have keep : ∀ b o, s.heap.get? b = some o → h'.get? b = some o := fun b o e => by
      refine hk b o (fun hm => ?_) (Heap.get?_push_of_some _ e)
      rcases List.mem_cons.mp hm with e1 | hm
      · exact absurd (e1 ▸ Heap.lt_size e) (Nat.lt_irrefl _)
      · cases hm
    have hsz : vs.toArray.size - 1 = cs.length - 1 := by simp [hlen]
    rw [hsz] at hP
    obtain ⟨b1, b2⟩ := best_le (fun i => cs.getD i 0) (cs.length - 1)
    obtain ⟨t, rfl⟩ := sg_at hS (argBest (fun i j => decide (cs.getD j 0 < cs.getD i 0)) (cs.length - 1)) v (by rw [List.getElem?_toArray] at hP; exact hP)
    have get : ∀ j, j < cs.length → cs.getD j 0 ∈ cs := fun j hj => by
      rw [List.getD_eq_getElem?_getD, List.getElem?_eq_getElem hj]
      exact List.getElem_mem hj
    refine h h' _ t tk (F.grownK keep) (N.grown keep) (get _ (by omega)) fun c hc => ?_
    obtain ⟨j, hj, rfl⟩ := List.getElem_of_mem hc
    have := b2 j (by omega)
    have e : cs.getD j 0 = cs[j] := by rw [List.getD_eq_getElem?_getD, List.getElem?_eq_getElem hj]; rfl
    rw [← e]
    exact this
theorem news_second {D b : Addr} {o o' ob : Obj} {h h' : Heap} (N : News h₀ L h ((b, ob) :: (D, o) :: rest)) (hb : b ≠ D) (hr : ∀ p ∈ rest, p.1 ≠ D) (hs : Heap.SameBut D h h') (ho : h'.get? D = some o') : News h₀ L h' ((b, ob) :: (D, o') :: rest) :=
  PySem.W.news_set (pre := [(b, ob)]) N (fun p hp => by rw [List.mem_singleton.mp hp]; exact hb) hr hs ho
theorem append_sgn {D b : Addr} {ob : Obj} {vs : List Value} {cs : List Nat} {n c : Nat} {t : Tok} (F : Fr h₀ L s.heap m) (N : News h₀ L s.heap ((b, ob) :: (D, listOf vs.toArray n) :: rest)) (hb : b ≠ D) (hr : ∀ p ∈ rest, p.1 ≠ D)
    (hS : StrsAre vs (cs.map sgn)) (hz : cs.length ≤ 100)
    (h : ∀ h' vs' n', Fr h₀ L h' m → News h₀ L h' ((b, ob) :: (D, listOf vs'.toArray n') :: rest) → StrsAre vs' ((cs ++ [c]).map sgn) → Q .none { s with heap := h' }) :
    wpAny (model prog w) A (call (.builtin "list.append") [.ref D, .str (sgn c) t]) Q E s := by
  have z := N (D, listOf vs.toArray n) (.tail _ (.head _))
  have hlen := sg_len hS
  refine append_at (hsz := by rw [List.size_toArray, sizeLine_eq]; omega) z.1 fun h' hs ho' => ?_
  refine h h' (vs ++ [.str (sgn c) t]) (n + 1) (F.change hs z.2.1 z.2.2) (news_second N hb hr hs ?_) (sg_append hS c t)
  rw [ho']
  simp
theorem remove_sgn {D b : Addr} {ob : Obj} {vs : List Value} {cs : List Nat} {n M : Nat} {t : Tok} (F : Fr h₀ L s.heap m) (N : News h₀ L s.heap ((b, ob) :: (D, listOf vs.toArray n) :: rest)) (hb : b ≠ D) (hr : ∀ p ∈ rest, p.1 ≠ D)
    (hS : StrsAre vs (cs.map sgn)) (hz : cs.length ≤ 100) (hM : M ∈ cs)
    (h : ∀ h' vs' cs' n', Fr h₀ L h' m → News h₀ L h' ((b, ob) :: (D, listOf vs'.toArray n') :: rest) → StrsAre vs' (cs'.map sgn) → cs.Perm (M :: cs') → Q .none { s with heap := h' }) :
    wpAny (model prog w) A (call (.builtin "list.remove") [.ref D, .str (sgn M) t]) Q E s := by
  have z := N (D, listOf vs.toArray n) (.tail _ (.head _))
  have hlen := sg_len hS
  obtain ⟨j, hj, e1, e2, e3⟩ := first_at hM
  have at' : ∀ i (hi : i < vs.toArray.size), isStrOf (sgn M) vs.toArray[i] = decide (cs.getD i 0 = M) := by
    intro i hi
    obtain ⟨u, e⟩ := sg_at hS i vs.toArray[i] (by simp)
    rw [e]
    show (sgn (cs.getD i 0) == sgn M) = _
    by_cases q : cs.getD i 0 = M
    · rw [q]; simp
    · rw [decide_eq_false q]
      refine beq_false_of_ne fun q2 => q ?_
      have : (sgn (cs.getD i 0)).cps.toList = (sgn M).cps.toList := by rw [q2]
      simpa [sgn] using this
  have gd : ∀ i (hi : i < cs.length), cs.getD i 0 = cs[i] := fun i hi => by rw [List.getD_eq_getElem?_getD, List.getElem?_eq_getElem hi]; rfl
  refine call_meets PySem.F.slot_list_remove ⟨_, z.1, rfl⟩ PySem.F.entry_list_remove (PySem.F.args_list_remove_2 _ _)
    (MeetsSeq.list_remove D vs.toArray n (.str (sgn M) t) (isStrOf (sgn M)) (fun y hy => eq_isStrOf _ t hS y (by simpa using hy)) j (by rw [List.size_toArray]; omega) ?_ ?_ (by rw [List.size_toArray, sizeLine_eq]; omega))
    ⟨z.1, h _ (vs.eraseIdx j) (cs.eraseIdx j) (n + 1) (F.change (Heap.SameBut.update ..) z.2.1 z.2.2) (news_second N hb hr (Heap.SameBut.update ..) ?_) (sg_erase hS j) e3⟩
  · rw [at', gd j hj, e1]; simp
  · intro i hi hlt
    rw [at' i hi, gd i (by omega)]
    exact decide_eq_false (e2 i (by omega) hlt)
  · have q := PySem.IsL.update z.1 (fun xs : Array Value => xs.eraseIdxIfInBounds j)
    have e4 : vs.toArray.eraseIdxIfInBounds j = (vs.eraseIdx j).toArray := by
      apply Array.toList_inj.mp
      simp
    rw [e4] at q
    have e5 : ((vs.eraseIdx j).toArray.size == vs.toArray.size) = false := by
      rw [List.size_toArray, List.size_toArray, List.length_eraseIdx, if_pos (by omega)]
      simp
      omega
    rw [e5] at q
    exact q
theorem eq_none_strs {a b : Addr} {xs : List Value} {ss : List Str} {n : Nat} (N : News h₀ L s.heap news) (ha : s.heap.IsList a xs.toArray) (hb : (b, listOf #[] n) ∈ news) (hi : StrsAre xs ss) (hk : ss.all PyData.strOk = true) (hu : A.units + 64 < cLine) (h : Q (.bool ss.isEmpty) s) :
    wpAny (model prog w) A (compareOp .Eq (.ref a) (.ref b)) Q E s := by
  have hb' : s.heap.IsList b ([] : List Value).toArray := ⟨_, (N _ hb).1, rfl, _, rfl⟩
  refine eq_dataH_same (reads_newData ha (strs_carried hi)) (reads_newData hb' CarriedAll.nil) (strs_shaped hk) (by rfl) hu (SeqAt.noMix_of_shape (.list .str) rfl _ (.list (([] : List Str).map PyData.str)) (list_map_has fun _ => rfl) (list_map_has fun _ => rfl)) ?_
  have e : Spec.same (.list (ss.map PyData.str)) (.list []) = ss.isEmpty := by
    cases ss <;> simp [Spec.same, Spec.sameAll]
  rw [e]
  exact h
theorem ne_none_strs {a b : Addr} {xs : List Value} {ss : List Str} {n : Nat} (N : News h₀ L s.heap news) (ha : s.heap.IsList a xs.toArray) (hb : (b, listOf #[] n) ∈ news) (hi : StrsAre xs ss) (hk : ss.all PyData.strOk = true) (hu : A.units + 64 < cLine) (h : Q (.bool (!ss.isEmpty)) s) :
    wpAny (model prog w) A (compareOp .NotEq (.ref a) (.ref b)) Q E s := by
  have hb' : s.heap.IsList b ([] : List Value).toArray := ⟨_, (N _ hb).1, rfl, _, rfl⟩
  refine ne_dataH_same (reads_newData ha (strs_carried hi)) (reads_newData hb' CarriedAll.nil) (strs_shaped hk) (by rfl) hu (SeqAt.noMix_of_shape (.list .str) rfl _ (.list (([] : List Str).map PyData.str)) (list_map_has fun _ => rfl) (list_map_has fun _ => rfl)) ?_
  have e : Spec.same (.list (ss.map PyData.str)) (.list []) = ss.isEmpty := by
    cases ss <;> simp [Spec.same, Spec.sameAll]
  rw [e]
  exact h
end
end

section
open PySem PySem.W PySem.Spec PyProof.Rows
/-- what turns in the law: the bag's spot, the list of the signs, the text -/
structure LS where
  spot : Int
  ts : Tok
  vs : List Value
  n : Nat
  cs : List Nat
  t : Str
  tt : Tok
/-- the law's ledger -/
abbrev LedR (bag sg sl : Addr) (c : LS) (rest : List (Addr × Obj)) : List (Addr × Obj) := (bag, listOf #[.ref sl, .int c.spot c.ts] 0) :: (sg, listOf c.vs.toArray c.n) :: rest
/-- the plain word of the text and its signs: k bounds their number -/
structure Heap' (k : Nat) (t : Str) (cs : List Nat) : Prop where
  perm : cs.Perm (toL t)
  heap : HeapFrom 1 t
  small : ∀ c ∈ toL t, c < 128
  len : t.length ≤ k
  eq : t.length = cs.length
structure Inv (k : Nat) (c : LS) : Prop where
  sa : StrsAre c.vs (c.cs.map sgn)
  heap : Heap' k c.t c.cs
  spot0 : 0 ≤ c.spot
  spot1 : c.spot ≤ 2 * k
theorem Heap'.mono {k k' : Nat} {t : Str} {cs : List Nat} (h : Heap' k t cs) (hk : k ≤ k') : Heap' k' t cs := ⟨h.perm, h.heap, h.small, by have := h.len; omega, h.eq⟩
theorem Heap'.nil : Heap' 0 (Str.ofString "") [] := by
  have e : (Str.ofString "").length = 0 := by decide
  refine ⟨by rw [toL_empty], fun i i2 il _ => ?_, by rw [toL_empty]; simp, by omega, by rw [e]; rfl⟩
  omega
/-- a sign put behind the text, and gone up -/
theorem Heap'.put {k : Nat} {t x : Str} {cs : List Nat} {c : Nat} (h : Heap' k t cs) (hc : c < 128) (h1 : x.length = (t ++ sgn c).length) (h2 : (toL x).Perm (toL (t ++ sgn c))) (h3 : HeapFrom 1 x) : Heap' (k + 1) x (cs ++ [c]) := by
  have e : toL (t ++ sgn c) = toL t ++ [c] := by
    show (t.cps ++ #[c]).toList = _
    simp
  rw [e] at h2
  have hl : (t ++ sgn c).length = t.length + 1 := Str.length_append _ _
  have h4 := h.len
  have h5 := h.eq
  refine ⟨(List.Perm.append_right [c] h.perm).trans h2.symm, h3, fun z hz => ?_, by omega, by rw [List.length_append, List.length_singleton]; omega⟩
  rcases List.mem_append.mp (h2.mem_iff.mp hz) with q | q
  · exact h.small z q
  · rw [List.mem_singleton.mp q]; exact hc
/-- what the way up begins with -/
theorem Heap'.up {k : Nat} {t : Str} {cs : List Nat} {c : Nat} (h : Heap' k t cs) (hk : k ≤ 50) : Up (t ++ sgn c) (t ++ sgn c) ((cs ++ [c]).length : Nat) := by
  have hl : (t ++ sgn c).length = t.length + 1 := Str.length_append _ _
  have h4 := h.len
  have h5 := h.eq
  have e : toL (t ++ sgn c) = toL t ++ [c] := by
    show (t.cps ++ #[c]).toList = _
    simp
  have hlt := toL_len t
  have ke : ∀ i : Int, 1 ≤ i → i ≤ t.length → keyAt (t ++ sgn c) i = keyAt t i := by
    intro i i1 il
    unfold keyAt
    rw [e, List.getD_eq_getElem?_getD, List.getD_eq_getElem?_getD, List.getElem?_append_left (by omega)]
  have e2 : (((cs ++ [c]).length : Nat) : Int) = (t.length : Int) + 1 := by rw [List.length_append, List.length_singleton]; omega
  refine ⟨rfl, List.Perm.refl _, by omega, by omega, by omega, ?_, ?_⟩
  · intro i i2 il ia
    rw [ke i (by omega) (by omega), ke (i / 2) (by omega) (by omega)]
    exact h.heap i i2 (by omega) (by omega)
  · intro i i2 il ia _
    omega
theorem Heap'.top {k M : Nat} {t : Str} {cs : List Nat} (h : Heap' k t cs) (hM : M ∈ cs) (hx : ∀ c ∈ cs, c ≤ M) : keyAt t 1 = M := by
  have a := heap_max h.heap M (h.perm.mem_iff.mp hM)
  have hl := toL_len t
  have hp : 0 < (toL t).length := List.length_pos_of_mem (h.perm.mem_iff.mp hM)
  have hk : keyAt t 1 ∈ toL t := by
    obtain ⟨p, e⟩ := keyAt_get (t := t) (a := 1) (by omega) (by omega)
    rw [e]; exact List.getElem_mem _
  have b := hx _ (h.perm.mem_iff.mpr hk)
  omega
theorem Heap'.same {k M : Nat} {t : Str} {cs : List Nat} (h : Heap' k t cs) (hM : M ∈ cs) (hx : ∀ c ∈ cs, c ≤ M) : (signF t 1 != sgn M) = false := by
  have hl := toL_len t
  have hp : 0 < (toL t).length := List.length_pos_of_mem (h.perm.mem_iff.mp hM)
  have e : signF t 1 = sgn M := str_eq (by rw [signF_toL (by omega) (by omega), h.top hM hx]; rfl)
  rw [e]
  simp
theorem Heap'.taken {k M : Nat} {t x : Str} {cs cs' : List Nat} (h : Heap' (k + 1) t cs) (hM : M ∈ cs) (hx : ∀ c ∈ cs, c ≤ M) (hp : cs.Perm (M :: cs')) (h1 : x.length + 1 = t.length) (h2 : (toL x ++ [keyAt t 1]).Perm (toL t)) (h3 : HeapFrom 1 x) : Heap' k x cs' := by
  rw [h.top hM hx] at h2
  have p1 : (M :: cs').Perm (M :: toL x) := hp.symm.trans (h.perm.trans (h2.symm.trans (List.perm_append_comm (l₁ := toL x) (l₂ := [M]))))
  have p2 : cs'.Perm (toL x) := List.Perm.cons_inv p1
  have h4 := h.len
  have hl := toL_len x
  exact ⟨p2, h3, fun c hc => h.small c (h2.mem_iff.mp (List.mem_append.mpr (.inl hc))), by omega, by rw [← hl]; exact p2.length_eq.symm⟩
theorem Heap'.is {k : Nat} {t : Str} {cs : List Nat} (h : Heap' k t cs) (hk : k ≤ 50) : t.length ≤ 50 ∧ (cs.map sgn).length ≤ 50 ∧ (signs t).Perm (cs.map sgn) ∧ (∀ c ∈ toL t, c < 128) ∧ HeapFrom 1 t := by
  have h4 := h.len
  have h5 := h.eq
  refine ⟨by omega, by rw [List.length_map]; omega, ?_, h.small, h.heap⟩
  rw [sgn_signs]
  exact h.perm.symm.map sgn
theorem some_sign {cs : List Nat} (h : (cs.map sgn).isEmpty = false) : cs ≠ [] := by
  intro e; subst e; exact absurd h (by decide)
theorem Heap'.some {k : Nat} {t : Str} {cs : List Nat} (h : Heap' k t cs) (hn : cs ≠ []) : 1 ≤ t.length := by
  have := h.eq
  have := List.length_pos_iff.mpr hn
  omega
theorem item_abc {x : Int} (h0 : 0 ≤ x) (h1 : x < 5) : Txt.item (Str.ofString "ABCDE") x = sgn (65 + x.toNat) := by
  have h : x = 0 ∨ x = 1 ∨ x = 2 ∨ x = 3 ∨ x = 4 := by omega
  rcases h with rfl | rfl | rfl | rfl | rfl <;> decide
end

section
open PySem PySem.W PySem.Spec PyProof.Rows
section
variable {prog : Program} {w : World} {A : Around} {E : Value → Shared → Prop} {s : Shared} {env : Env} {h₀ : Heap} {x : Str} {body : List Stmt} {Q : Flow → Shared → Prop}
/-- how a turn of the first loop ends -/
def TurnEnd (h₀ : Heap) (L : Addr) (x : Str) (m₀ : Str → Option Value) (s : Shared) (bag sg sl : Addr) (rest : List (Addr × Obj)) (j : Nat) (s₂ : Shared) : Prop :=
  ∃ (c' : LS) (h' : Heap) (tk' : Nat) (m' : Str → Option Value), s₂ = { s with heap := h', toks := tk' } ∧ Fr h₀ L h' m' ∧ News h₀ L h' (LedR bag sg sl c' rest) ∧ m' (Str.ofString "text") = some (.str c'.t c'.tt) ∧
    (∀ z, z ≠ x → z ≠ Str.ofString "text" → z ≠ Str.ofString "sign" → m' z = m₀ z) ∧ Inv (j + 1) c'
def TurnPost (h₀ : Heap) (L : Addr) (x : Str) (m₀ : Str → Option Value) (s : Shared) (bag sg sl : Addr) (rest : List (Addr × Obj)) (j : Nat) (Q : Flow → Shared → Prop) (f : Flow) (s₂ : Shared) : Prop :=
  match f with
  | .ret v => Q (.ret v) s₂
  | .brk => Q .next s₂
  | _ => TurnEnd h₀ L x m₀ s bag sg sl rest j s₂
theorem loop6 {r sg bag sl L : Addr} {t₀ u₀ v₀ : Tok} {m₀ : Str → Option Value} {rest : List (Addr × Obj)} (c₀ : LS) (hL : env.locals = L) (hh : A.handled = none) (hr : IsRange s.heap r 0 6 1 t₀ u₀ v₀)
    (F : Fr h₀ L s.heap m₀) (N : News h₀ L s.heap (LedR bag sg sl c₀ rest)) (hoff0 : ∀ p ∈ rest, p.1 ≠ bag ∧ p.1 ≠ sg) (hk : m₀ (Str.ofString "text") = some (.str c₀.t c₀.tt)) (hp : Inv 0 c₀)
    (turn : ∀ (c : LS) (j : Nat) (k : Int) (t : Tok) (u : Str → Option Value) (h : Heap) (tk : Nat) (rest' : List (Addr × Obj)), j < 6 → (∀ p ∈ rest, p ∈ rest') → (∀ p ∈ rest', p.1 ≠ bag ∧ p.1 ≠ sg) → Inv j c →
      Fr h₀ L h (fun y => if y = x then some (.int k t) else if y = Str.ofString "text" then some (.str c.t c.tt) else if y = Str.ofString "sign" then u y else m₀ y) → News h₀ L h (LedR bag sg sl c rest') →
      wpAny (model prog w) A (execs body env) (TurnPost h₀ L x m₀ { s with heap := h, toks := tk } bag sg sl rest' j Q) E { s with heap := h, toks := tk })
    (done : ∀ (c : LS) (u : Str → Option Value) (h : Heap) (tk : Nat), Inv 6 c →
      Fr h₀ L h (fun y => if y = x then u y else if y = Str.ofString "text" then some (.str c.t c.tt) else if y = Str.ofString "sign" then u y else m₀ y) → News h₀ L h (LedR bag sg sl c rest) → Q .next { s with heap := h, toks := tk }) :
    wpAny (model prog w) A (pyIter (.ref r)) (fun it s₂ => LoopAtV prog w A h₀ env x body Q E it s₂) E s := by
  subst hL
  have fm : ∀ (c : LS) (u : Str → Option Value) (v : Option Value), (fun y => if y = x then v else kstB (fun z => if [Str.ofString "sign"].contains z then u z else m₀ z) [(Str.ofString "text", Value.str c.t c.tt)] y) =
      fun y => if y = x then v else if y = Str.ofString "text" then some (.str c.t c.tt) else if y = Str.ofString "sign" then u y else m₀ y := by
    intro c u v
    funext y
    show (if y = x then v else if y = Str.ofString "text" then some (Value.str c.t c.tt) else if [Str.ofString "sign"].contains y = true then u y else m₀ y) = _
    by_cases hs : y = Str.ofString "sign"
    · rw [if_pos (show [Str.ofString "sign"].contains y = true by rw [hs]; simp), if_pos hs]
    · rw [if_neg (show ¬ [Str.ofString "sign"].contains y = true by simpa using hs), if_neg hs]
  have fm2 : ∀ (c : LS) (u : Str → Option Value), (fun y => if y = x then u y else kstB (fun z => if [Str.ofString "sign"].contains z then u z else m₀ z) [(Str.ofString "text", Value.str c.t c.tt)] y) =
      fun y => if y = x then u y else if y = Str.ofString "text" then some (.str c.t c.tt) else if y = Str.ofString "sign" then u y else m₀ y := by
    intro c u
    funext y
    show (if y = x then u y else if y = Str.ofString "text" then some (Value.str c.t c.tt) else if [Str.ofString "sign"].contains y = true then u y else m₀ y) = _
    by_cases hs : y = Str.ofString "sign"
    · rw [if_pos (show [Str.ofString "sign"].contains y = true by rw [hs]; simp), if_pos hs]
    · rw [if_neg (show ¬ [Str.ofString "sign"].contains y = true by simpa using hs), if_neg hs]
  refine kst_range (σ := LS) (n := 6) (fun c => LedR bag sg sl c rest) (fun c => [(Str.ofString "text", Value.str c.t c.tt)]) (fun _ => True) [Str.ofString "sign"] (fun pre c => Inv pre.length c) c₀ hh hr (by decide) (by rfl) F N trivial
    (fun p hp => by rw [List.mem_singleton.mp hp]; exact hk) hp ?_ ?_
  · intro c pre k t u h tk own _ hlt hoff _ hinv F₁ N₁
    rw [fm c u] at F₁
    refine wpAny_mono (turn c pre.length k t u h tk (rest ++ own) hlt (fun p hp => List.mem_append.mpr (.inl hp)) (fun p hp => (List.mem_append.mp hp).elim (hoff0 p) fun hp => ⟨hoff p hp _ (.head _), hoff p hp _ (.tail _ (.head _))⟩) hinv F₁ N₁) (fun f s₂ q => ?_) fun _ _ e => e
    have up : TurnEnd h₀ env.locals x m₀ { s with heap := h, toks := tk } bag sg sl (rest ++ own) pre.length s₂ →
        InvEndN h₀ env.locals (KstS (fun c => LedR bag sg sl c rest) (fun c => [(Str.ofString "text", Value.str c.t c.tt)]) (fun _ => True) x [Str.ofString "sign"] m₀ (fun pre c => Inv pre.length c) (pre ++ [k])) own ((LedR bag sg sl c₀ rest).map (·.1)) { s with heap := h, toks := tk } s₂ := by
      rintro ⟨c', h', tk', m', e, F', N', ht, hr', hi'⟩
      refine ⟨h', tk', m', LedR bag sg sl c' (rest ++ own), LedR bag sg sl c' rest, e, F', N', ?_, ?_, rfl, c', rfl, trivial, ?_, ?_, ?_⟩
      · intro p hp
        rcases List.mem_cons.mp hp with rfl | hp
        · exact .head _
        · rcases List.mem_cons.mp hp with rfl | hp
          · exact .tail _ (.head _)
          · exact .tail _ (.tail _ (List.mem_append.mpr (.inl hp)))
      · intro p hp
        exact .tail _ (.tail _ (List.mem_append.mpr (.inr hp)))
      · intro p hp
        rw [List.mem_singleton.mp hp]; exact ht
      · intro z h1 h2 h3
        refine hr' z h1 (h2 _ (.head _)) ?_
        intro e
        rw [e] at h3
        simp at h3
      · show Inv (pre ++ [k]).length c'
        rw [List.length_append, List.length_singleton]; exact hi'
    cases f with
    | ret v => exact q
    | brk => exact q
    | next => exact up q
    | cont => exact up q
  · intro c u h tk _ hinv F₁ N₁
    rw [fm2 c u] at F₁
    have e : (rangeKs 0 6).length = 6 := by rfl
    rw [e] at hinv
    exact done c u h tk hinv F₁ N₁
theorem news_start {L tp sg bag sl cell : Addr} {h : Heap} {ot o1 o2 : Obj} {t tt : Tok} (N : News h₀ L h [(tp, ot), (sg, listOf #[] 0), (bag, listOf #[.ref sl, .int 0 t] 0), (sl, o1), (cell, o2)]) :
    News h₀ L h (LedR bag sg sl ⟨0, t, [], 0, [], Str.ofString "", tt⟩ [(sl, o1), (cell, o2)]) := by
  intro p hp
  refine N p ?_
  rcases List.mem_cons.mp hp with rfl | hp
  · exact .tail _ (.tail _ (.head _))
  · rcases List.mem_cons.mp hp with rfl | hp
    · exact .tail _ (.head _)
    · exact .tail _ (.tail _ (.tail _ hp))
theorem rest_off {sl cell bag sg : Addr} {o1 o2 : Obj} (h1 : @LT.lt Nat _ sl bag ∧ @LT.lt Nat _ cell bag) (h2 : @LT.lt Nat _ bag sg ∧ @LT.lt Nat _ sl sg ∧ @LT.lt Nat _ cell sg) : ∀ p ∈ [(sl, o1), (cell, o2)], p.1 ≠ bag ∧ p.1 ≠ sg := by
  intro p hp
  rcases List.mem_cons.mp hp with rfl | hp
  · exact ⟨Nat.ne_of_lt h1.1, Nat.ne_of_lt h2.2.1⟩
  · rw [List.mem_singleton.mp hp]; exact ⟨Nat.ne_of_lt h1.2, Nat.ne_of_lt h2.2.2⟩
theorem inv_start {t tt : Tok} : Inv 0 ⟨0, t, [], 0, [], Str.ofString "", tt⟩ := ⟨.nil, Heap'.nil, Int.le_refl _, Int.le_refl _⟩
end
end

section
open PySem PySem.W PySem.Spec PyProof.Rows
theorem Heap'.ok {k : Nat} {t : Str} {cs : List Nat} (h : Heap' k t cs) : (cs.map sgn).all PyData.strOk = true :=
  signs_ok (x := t) (by rw [sgn_signs]; exact h.perm.map sgn) h.small
section
variable {prog : Program} {w : World} {A : Around} {E : Value → Shared → Prop} {s : Shared} {h₀ : Heap} {L : Addr} {m : Str → Option Value} {news rest : List (Addr × Obj)} {Q : Value → Shared → Prop}
theorem len_sgn {l : Addr} {vs : List Value} {cs : List Nat} (hl : s.heap.IsList l vs.toArray) (hS : StrsAre vs (cs.map sgn)) (hz : cs.length ≤ 100) (h : Q (.int ((cs.length : Nat) : Int) (s.toks + 1)) { s with toks := s.toks + 1 + 1 }) :
    wpAny (model prog w) A (call (.builtin "len") [.ref l]) Q E s := by
  have e : vs.toArray.size = cs.length := by rw [List.size_toArray]; exact sg_len hS
  refine len_list hl (by rw [e]; omega) ?_
  rw [e]
  exact h
theorem ne_same {x y : Str} {t u : Tok} (e : (x != y) = false) (h : Q (.bool false) s) : wpAny (model prog w) A (compareOp .NotEq (.str x t) (.str y u)) Q E s :=
  ne_str (by rw [e]; exact h)
theorem store_sign {env : Env} {nm : Str} {x : Int} {t : Tok} {Q : Unit → Shared → Prop} (h0 : 0 ≤ x) (h1 : x < 5) (h : (sgn (65 + x.toNat)).length = 1 → 65 + x.toNat < 128 → wpAny (model prog w) A (storeName env nm (.str (sgn (65 + x.toNat)) t)) Q E s) :
    wpAny (model prog w) A (storeName env nm (.str (Txt.item (Str.ofString "ABCDE") x) t)) Q E s := by
  rw [item_abc h0 h1]
  exact h rfl (by omega)
end
theorem off_cons {bag sg : Addr} {o : Obj} {rest : List (Addr × Obj)} (h : bag ≠ sg) (hr : ∀ p ∈ rest, p.1 ≠ bag) : ∀ p ∈ (sg, o) :: rest, p.1 ≠ bag := by
  intro p hp
  rcases List.mem_cons.mp hp with rfl | hp
  · exact Ne.symm h
  · exact hr p hp
theorem turn_end {h₀ h' : Heap} {L bag sg sl : Addr} {x : Str} {m₀ m' : Str → Option Value} {s : Shared} {rest : List (Addr × Obj)} {j tk' n : Nat} {spot : Int} {ts tt : Tok} {vs : List Value} {cs : List Nat} {t : Str}
    (F : Fr h₀ L h' m') (N : News h₀ L h' ((bag, listOf #[.ref sl, .int spot ts] 0) :: (sg, listOf vs.toArray n) :: rest)) (ht : m' (Str.ofString "text") = some (.str t tt)) (hr : ∀ z, z ≠ x → z ≠ Str.ofString "text" → z ≠ Str.ofString "sign" → m' z = m₀ z)
    (hs : StrsAre vs (cs.map sgn)) (hH : Heap' (j + 1) t cs) (h0 : 0 ≤ spot) (h1 : spot ≤ 2 * ((j + 1 : Nat) : Int)) : TurnEnd h₀ L x m₀ s bag sg sl rest j { s with heap := h', toks := tk' } :=
  ⟨⟨spot, ts, vs, n, cs, t, tt⟩, h', tk', m', rfl, F, N, ht, hr, ⟨hs, hH, h0, h1⟩⟩
end

section
open PySem PySem.W PySem.Spec PyProof.Rows
section
variable {prog : Program} {w : World} {A : Around} {E : Value → Shared → Prop} {s : Shared} {env : Env} {h₀ : Heap} {L : Addr} {Q : Flow → Shared → Prop}
/-- how a turn of the second loop ends -/
def OutEnd (h₀ : Heap) (L : Addr) (m₀ : Str → Option Value) (s : Shared) (bag sg sl : Addr) (rest : List (Addr × Obj)) (n : Nat) (s₂ : Shared) : Prop :=
  ∃ (c' : LS) (h' : Heap) (tk' : Nat) (m' : Str → Option Value), s₂ = { s with heap := h', toks := tk' } ∧ Fr h₀ L h' m' ∧ News h₀ L h' (LedR bag sg sl c' rest) ∧ m' (Str.ofString "text") = some (.str c'.t c'.tt) ∧
    (∀ z, z ≠ Str.ofString "text" → m' z = m₀ z) ∧ Inv 6 c' ∧ c'.cs.length < n
def OutPost (h₀ : Heap) (L : Addr) (m₀ : Str → Option Value) (s : Shared) (bag sg sl : Addr) (rest : List (Addr × Obj)) (n : Nat) (Q : Flow → Shared → Prop) (f : Flow) (s₂ : Shared) : Prop :=
  match f with
  | .ret v => Q (.ret v) s₂
  | .brk => Q .next s₂
  | _ => OutEnd h₀ L m₀ s bag sg sl rest n s₂
theorem out_end {h' : Heap} {bag sg sl : Addr} {m₀ m' : Str → Option Value} {s : Shared} {rest : List (Addr × Obj)} {tk' n N₀ : Nat} {spot : Int} {ts tt : Tok} {vs : List Value} {cs : List Nat} {t : Str}
    (F : Fr h₀ L h' m') (N : News h₀ L h' ((bag, listOf #[.ref sl, .int spot ts] 0) :: (sg, listOf vs.toArray n) :: rest)) (ht : m' (Str.ofString "text") = some (.str t tt)) (hr : ∀ z, z ≠ Str.ofString "text" → m' z = m₀ z)
    (hs : StrsAre vs (cs.map sgn)) (hH : Heap' 6 t cs) (h0 : 0 ≤ spot) (h1 : spot ≤ 2 * ((6 : Nat) : Int)) (hm : cs.length < N₀) : OutEnd h₀ L m₀ s bag sg sl rest N₀ { s with heap := h', toks := tk' } :=
  ⟨⟨spot, ts, vs, n, cs, t, tt⟩, h', tk', m', rfl, F, N, ht, hr, ⟨hs, hH, h0, h1⟩, hm⟩
theorem loopOut {test : Expr} {body : List Stmt} {pos : Pos} {sg bag sl : Addr} {m₀ : Str → Option Value} {rest : List (Addr × Obj)} (c₀ : LS)
    (F : Fr h₀ L s.heap m₀) (N : News h₀ L s.heap (LedR bag sg sl c₀ rest)) (hk : m₀ (Str.ofString "text") = some (.str c₀.t c₀.tt)) (hp : Inv 6 c₀)
    (turn : ∀ (c : LS) (h : Heap) (tk : Nat), Inv 6 c → Fr h₀ L h (fun y => if y = Str.ofString "text" then some (.str c.t c.tt) else m₀ y) → News h₀ L h (LedR bag sg sl c rest) →
      wpAny (model prog w) A (isTrue test env (eval test env)) (fun b s₂ =>
        if b = true then wpAny (model prog w) A (execs body env) (OutPost h₀ L m₀ s bag sg sl rest c.cs.length Q) E s₂ else Q .next s₂) E { s with heap := h, toks := tk })
    (hE : PassesOwn (model prog w) A env E := by passes_own) :
    wpAny (model prog w) A (exec (.While test body [] pos) env) Q E s := by
  refine ksw_while (σ := LS) (fun c => LedR bag sg sl c rest) (fun c => [(Str.ofString "text", Value.str c.t c.tt)]) (fun _ => True) [] (Inv 6) (fun c => c.cs.length) c₀ F N trivial
    (fun p hp => by rw [List.mem_singleton.mp hp]; exact hk) hp ?_ hE
  intro c u h tk _ hinv F₁ N₁
  have fm : kstB (fun z => if ([] : List Str).contains z then u z else m₀ z) [(Str.ofString "text", Value.str c.t c.tt)] = fun y => if y = Str.ofString "text" then some (.str c.t c.tt) else m₀ y := by
    funext y
    show (if y = Str.ofString "text" then some (Value.str c.t c.tt) else if ([] : List Str).contains y = true then u y else m₀ y) = _
    rw [if_neg (show ¬ ([] : List Str).contains y = true by simp)]
  rw [fm] at F₁
  refine wpAny_mono (turn c h tk hinv F₁ N₁) (fun b s₂ q => ?_) fun _ _ e => e
  cases b with
  | false => exact q
  | true =>
    simp only [if_true] at q ⊢
    refine wpAny_mono q (fun f s₃ q => ?_) fun _ _ e => e
    have up : OutEnd h₀ L m₀ s bag sg sl rest c.cs.length s₃ → KswEnd h₀ L s (fun c => LedR bag sg sl c rest) (fun c => [(Str.ofString "text", Value.str c.t c.tt)]) (fun _ => True) [] m₀ (Inv 6) (fun c => c.cs.length) c s₃ := by
      rintro ⟨c', h', tk', m', e, F', N', ht, hr', hi', hlt⟩
      refine ⟨c', h', tk', m', LedR bag sg sl c' rest, e, F', N', fun p hp => hp, trivial, ?_, ?_, hi', hlt⟩
      · intro p hp
        rw [List.mem_singleton.mp hp]; exact ht
      · intro z h1 _
        exact hr' z (h1 _ (.head _))
    cases f with
    | ret v => exact q
    | brk => exact q
    | next => exact up q
    | cont => exact up q
end
end

section
open PySem PySem.W PySem.Spec PyProof.Rows
section
variable {h₀ h h' : Heap} {L bag sg sl cell I C D : Addr} {o1 o2 ob ob' oI oC oD : Obj} {c : LS} {more : List (Addr × Obj)}
theorem off_bag (_N : News h₀ L h (LedR bag sg sl c [(sl, o1), (cell, o2)])) (h1 : @LT.lt Nat _ sl bag ∧ @LT.lt Nat _ cell bag) (h2 : @LT.lt Nat _ bag sg ∧ @LT.lt Nat _ sl sg ∧ @LT.lt Nat _ cell sg) : ∀ p ∈ [(sl, o1), (cell, o2)], p.1 ≠ bag := fun p hp => (rest_off h1 h2 p hp).1
theorem off_sg (_N : News h₀ L h (LedR bag sg sl c [(sl, o1), (cell, o2)])) (h1 : @LT.lt Nat _ sl bag ∧ @LT.lt Nat _ cell bag) (h2 : @LT.lt Nat _ bag sg ∧ @LT.lt Nat _ sl sg ∧ @LT.lt Nat _ cell sg) : ∀ p ∈ [(sl, o1), (cell, o2)], p.1 ≠ sg := fun p hp => (rest_off h1 h2 p hp).2
theorem bag_first (N : News h₀ L h ((I, oI) :: (C, oC) :: (D, oD) :: (bag, ob) :: more)) : News h₀ L h ((bag, ob) :: (I, oI) :: (C, oC) :: (D, oD) :: more) := by
  intro p hp
  refine N p ?_
  rcases List.mem_cons.mp hp with rfl | hp
  · exact .tail _ (.tail _ (.tail _ (.head _)))
  · rcases List.mem_cons.mp hp with rfl | hp
    · exact .head _
    · rcases List.mem_cons.mp hp with rfl | hp
      · exact .tail _ (.head _)
      · rcases List.mem_cons.mp hp with rfl | hp
        · exact .tail _ (.tail _ (.head _))
        · exact .tail _ (.tail _ (.tail _ (.tail _ hp)))
theorem off_comp (h : bag ≠ I ∧ bag ≠ C ∧ bag ≠ D) (hr : ∀ p ∈ more, p.1 ≠ bag) : ∀ p ∈ (I, oI) :: (C, oC) :: (D, oD) :: more, p.1 ≠ bag := by
  intro p hp
  rcases List.mem_cons.mp hp with rfl | hp
  · exact Ne.symm h.1
  · rcases List.mem_cons.mp hp with rfl | hp
    · exact Ne.symm h.2.1
    · rcases List.mem_cons.mp hp with rfl | hp
      · exact Ne.symm h.2.2
      · exact hr p hp
theorem off_comp3 {ob2 : Obj} (h : LCg.Off3 I C D ((bag, ob2) :: more)) (hr : ∀ p ∈ more, p.1 ≠ bag) : ∀ p ∈ (I, oI) :: (C, oC) :: (D, oD) :: more, p.1 ≠ bag := off_comp h.1 hr
theorem off_next (h : LCg.Off3 I C D ((bag, ob) :: more)) : LCg.Off3 I C D ((bag, ob') :: more) := h
theorem comp_end {m : Str → Option Value} {s₁ : Shared} {S : List (Addr × Obj) → Prop} {rest : Value → List (Addr × Obj) → Prop} {tk : Nat} {x : Int} {t : Tok} (F : Fr h₀ L h' m) (N : News h₀ L h' ((bag, ob') :: (I, oI) :: (C, oC) :: (D, oD) :: more))
    (off : LCg.Off3 I C D ((bag, ob') :: more)) (hS : S ((bag, ob') :: more)) (h0 : 0 ≤ x) (h1 : x < 5) (r : 65 + x.toNat < 128 → rest (.str (sgn (65 + x.toNat)) t) ((bag, ob') :: more)) :
    LCg.CompEnd h₀ L m s₁ I oI C oC D oD S rest (.str (Txt.item (Str.ofString "ABCDE") x) t) { s₁ with heap := h', toks := tk } := by
  refine LCg.CompEnd.intro F N ((bag, ob') :: more) ?_ off hS ?_
  · intro p hp
    rcases List.mem_cons.mp hp with rfl | hp
    · exact .tail _ (.head _)
    · rcases List.mem_cons.mp hp with rfl | hp
      · exact .tail _ (.tail _ (.head _))
      · rcases List.mem_cons.mp hp with rfl | hp
        · exact .tail _ (.tail _ (.tail _ (.head _)))
        · rcases List.mem_cons.mp hp with rfl | hp
          · exact .head _
          · exact .tail _ (.tail _ (.tail _ (.tail _ hp)))
  · rw [item_abc h0 h1]
    exact r (by omega)
end
end

section
open PySem PySem.W PySem.Spec PyProof.Rows
/-- the text of these signs -/
def txt (cs : List Nat) : Str := ⟨cs.toArray⟩
theorem txt_toL (cs : List Nat) : toL (txt cs) = cs := by simp [toL, txt]
theorem txt_len (cs : List Nat) : (txt cs).length = cs.length := by simp [Str.length, txt]
theorem perm_lt {cs cs' : List Nat} {M : Nat} (p : cs.Perm (M :: cs')) : cs'.length < cs.length := by
  have := p.length_eq
  rw [List.length_cons] at this
  omega
theorem join_txt (cs : List Nat) : Str.join (Str.ofString "") (cs.map sgn) = txt cs := by
  have e : Str.ofString "" = ⟨#[]⟩ := by decide
  have e2 : cs.map sgn = signs (txt cs) := by
    rw [sgn_signs]
    show cs.map sgn = (toL (txt cs)).map sgn
    rw [txt_toL]
  rw [e, e2, join_nil_signs]
section
variable {prog : Program} {w : World} {A : Around} {E : Value → Shared → Prop} {s : Shared} {Q : Value → Shared → Prop}
theorem sum_sgn (cs : List Nat) : ((cs.map sgn).map (·.length)).sum = cs.length := by
  induction cs with
  | nil => rfl
  | cons a r ih =>
    simp only [List.map_cons, List.sum_cons, List.length_cons, ih]
    have : (sgn a).length = 1 := rfl
    omega
theorem join7 {D : Addr} {c1 c2 c3 c4 c5 c6 c7 : Nat} {t t1 t2 t3 t4 t5 t6 t7 : Tok} (hl : s.heap.IsList D [Value.str (sgn c1) t1, .str (sgn c2) t2, .str (sgn c3) t3, .str (sgn c4) t4, .str (sgn c5) t5, .str (sgn c6) t6, .str (sgn c7) t7].toArray)
    (h1 : c1 < 128) (h2 : c2 < 128) (h3 : c3 < 128) (h4 : c4 < 128) (h5 : c5 < 128) (h6 : c6 < 128) (h7 : c7 < 128)
    (h : ∀ (r : Str) (t' : Tok) (k : Nat), r.length = 7 → (∀ c ∈ toL r, c < 128) → Q (.str r t') { s with toks := k }) : wpAny (model prog w) A (call (.builtin "str.join") [.str (Str.ofString "") t, .ref D]) Q E s := by
  refine join_list (ys := [c1, c2, c3, c4, c5, c6, c7].map sgn) hl (.cons _ _ (.cons _ _ (.cons _ _ (.cons _ _ (.cons _ _ (.cons _ _ (.cons _ _ .nil))))))) ?_ fun t' k => ?_
  · have z : (Str.ofString "").length = 0 := by decide
    rw [sum_sgn, z]; simp
  · have e : Txt.join (Str.ofString "") ([c1, c2, c3, c4, c5, c6, c7].map sgn) = txt [c1, c2, c3, c4, c5, c6, c7] := (StrLaws.glued_eq_join _ _).trans (join_txt _)
    rw [e]
    refine h _ t' k (txt_len _) ?_
    rw [txt_toL]
    intro c hc
    simp only [List.mem_cons, List.not_mem_nil, or_false] at hc
    rcases hc with rfl | rfl | rfl | rfl | rfl | rfl | rfl <;> assumption
end
theorem heap4 {t : Str} (h : t.length = 7) : HeapFrom 4 t := fun i i2 il ik => by omega
theorem down3 {t : Str} (h : t.length = 7) : Down t t 3 3 := Down.start (by omega) (by omega) (by omega) (heap4 h)
theorem down2 {t u : Str} (h : u.length = 7) (p : (toL t).Perm (toL u)) (hh : HeapFrom 3 t) : Down t t 2 2 := by
  have e := p.length_eq
  have a := toL_len t
  have b := toL_len u
  exact Down.start (by omega) (by omega) (by omega) hh
theorem down1 {t u v : Str} (h : v.length = 7) (p : (toL t).Perm (toL u)) (q : (toL u).Perm (toL v)) (hh : HeapFrom 2 t) : Down t t 1 1 := by
  have e := (p.trans q).length_eq
  have a := toL_len t
  have b := toL_len v
  exact Down.start (by omega) (by omega) (by omega) hh
theorem final_pre {t u v r : Str} (h : r.length = 7) (hs : ∀ c ∈ toL r, c < 128) (p : (toL t).Perm (toL u)) (q : (toL u).Perm (toL v)) (q' : (toL v).Perm (toL r)) (hh : HeapFrom 1 t) :
    t.length ≤ 50 ∧ r.length ≤ 50 ∧ (signs t).Perm (signs r) ∧ (∀ c ∈ toL t, c < 128) ∧ HeapFrom 1 t := by
  have pp := p.trans (q.trans q')
  have e := pp.length_eq
  have a := toL_len t
  have b := toL_len r
  exact ⟨by omega, by omega, by rw [sgn_signs, sgn_signs]; exact pp.map sgn, fun c hc => hs c (pp.mem_iff.mp hc), hh⟩
end

section
open PySem PySem.W PyProof.Rows
local macro_rules | `(tactic| k_room) => `(tactic| ktr_room)
local macro_rules | `(tactic| k_units) => `(tactic| ktr_units)
local macro_rules | `(tactic| walk_at "call ref") => `(tactic| (k_here; (with_reducible show wpAny _ _ (call (Value.ref 34) _ _) _ _ _); exfalso; omega))
section
variable {w : World} {mean : ExcName → Option Value} {mg mb : Str → Option Value} 
theorem c_text_of (news : List (Addr × Obj)) (t : Str) (tt : Tok) : Gives w mean mg mb 100 5 news True [.str t tt] (fun (_ : Unit) _ => .str t tt) (fun _ => True) := by
  (k_with_none; w_top off; (refine Mine.fill ?_; dsimp only [Mine.Gives, Mine.GivesN]; k_fill; refine ⟨rfl, ?_⟩; intros)); rename_i hpre _ _ hret; ((refine wpAny_call ?_; k_dflt cell_enter; k_steps)); all_goals exact hret () 0 _ _ trivial (by k_asm) (by (first | k_asm | exact Mine.drop_news (by assumption) Mine.mem1 | exact Mine.drop_news (by assumption) Mine.mem2 | exact Mine.drop_news (by assumption) Mine.mem3 | exact Mine.drop_news (by assumption) Mine.mem4 | (refine' Mine.drop_news ?cbN ?cbS; (case cbN => assumption); (case cbS => kcj_all))))
theorem c_size (news : List (Addr × Obj)) (a : Int) (ta : Tok) : Gives w mean mg mb 297 5 news (0 ≤ a ∧ a ≤ 255) [.int a ta] (fun (_ : Unit) _ => .int a ta) (fun _ => True) := by
  (k_with_none; w_top off; (refine Mine.fill ?_; dsimp only [Mine.Gives, Mine.GivesN]; k_fill; refine ⟨rfl, ?_⟩; intros)); rename_i hpre _ _ hret; ((refine wpAny_call ?_; k_dflt cell_enter; k_steps)); all_goals exact hret () 0 _ _ trivial (by k_asm) (by (first | k_asm | exact Mine.drop_news (by assumption) Mine.mem1 | exact Mine.drop_news (by assumption) Mine.mem2 | exact Mine.drop_news (by assumption) Mine.mem3 | exact Mine.drop_news (by assumption) Mine.mem4 | (refine' Mine.drop_news ?cbN ?cbS; (case cbN => assumption); (case cbS => kcj_all))))
local macro_rules | `(tactic| walk_at "call ref") => `(tactic| (k_here; (with_reducible show wpAny _ _ (call (Value.ref 297) [Value.int _ _]) _ _ _); ((k_dflt (refine' (c_size _ _ _ _ _ _ _ _ _ _ _ _ _ _ _ _ _ _ _ _) ?k1 ?k2 ?k3 ?k4 ?k5 ?kK ?kp ?kd ?ku ?_; (case k1 => k_asm); (case k2 => k_asm); (case k3 => k_asm); (case k4 => k_asm); (case k5 => k_asm); (case kK => first | exact rfl | assumption); (case kp => skip; (try simp only [decide_eq_true_eq, decide_eq_false_iff_not] at *); first | exact True.intro | fail "none" | assumption | omega | (refine ⟨?_, ?_⟩ <;> first | assumption | omega) | (refine ⟨?_, ?_, ?_⟩ <;> first | assumption | omega) | (refine ⟨?_, ?_, ?_, ?_⟩ <;> first | assumption | omega) | (refine ⟨?_, ?_, ?_, ?_, ?_⟩ <;> first | assumption | omega)); (case kd => ktr_room); (case ku => ktr_units)); intro x9 t9 h9 tk9 P9 F9 N9; (try dsimp only at P9); (try obtain ⟨P9, P9b⟩ := P9); (try obtain ⟨P9b, P9c⟩ := P9b); (try subst P9); (try dsimp only); (try k_fold)))))
theorem c_place (news : List (Addr × Obj)) (a : Int) (ta : Tok) : Gives w mean mg mb 304 10 news (1 ≤ a ∧ a ≤ 255) [.int a ta] (fun (_ : Unit) _ => .int a ta) (fun _ => True) := by
  (k_with_none; w_top off; (refine Mine.fill ?_; dsimp only [Mine.Gives, Mine.GivesN]; k_fill; refine ⟨rfl, ?_⟩; intros)); rename_i hpre _ _ hret; ((refine wpAny_call ?_; k_dflt cell_enter; k_steps)); all_goals exact hret () 0 _ _ trivial (by k_asm) (by (first | k_asm | exact Mine.drop_news (by assumption) Mine.mem1 | exact Mine.drop_news (by assumption) Mine.mem2 | exact Mine.drop_news (by assumption) Mine.mem3 | exact Mine.drop_news (by assumption) Mine.mem4 | (refine' Mine.drop_news ?cbN ?cbS; (case cbN => assumption); (case cbS => kcj_all))))
theorem c_checked (news : List (Addr × Obj)) (t : Str) (tt : Tok) : Gives w mean mg mb 107 5 news (t.length ≤ 255) [.str t tt] (fun (_ : Unit) _ => .str t tt) (fun _ => True) := by
  (k_with_none; w_top off; (refine Mine.fill ?_; dsimp only [Mine.Gives, Mine.GivesN]; k_fill; refine ⟨rfl, ?_⟩; intros)); rename_i hpre _ _ hret; ((refine wpAny_call ?_; k_dflt cell_enter; k_steps)); all_goals exact hret () 0 _ _ trivial (by k_asm) (by (first | k_asm | exact Mine.drop_news (by assumption) Mine.mem1 | exact Mine.drop_news (by assumption) Mine.mem2 | exact Mine.drop_news (by assumption) Mine.mem3 | exact Mine.drop_news (by assumption) Mine.mem4 | (refine' Mine.drop_news ?cbN ?cbS; (case cbN => assumption); (case cbS => kcj_all))))
end
end

section
open PySem PySem.W PyProof.Rows
local macro_rules | `(tactic| k_room) => `(tactic| ktr_room)
local macro_rules | `(tactic| k_units) => `(tactic| ktr_units)
local macro_rules | `(tactic| walk_at "call ref") => `(tactic| (k_here; (with_reducible show wpAny _ _ (call (Value.ref 34) _ _) _ _ _); exfalso; omega))
local macro_rules | `(tactic| walk_at "call ref") => `(tactic| (k_here; (with_reducible show wpAny _ _ (call (Value.ref 100) [Value.str _ _]) _ _ _); ((k_dflt (refine' (c_text_of _ _ _ _ _ _ _ _ _ _ _ _ _ _ _ _ _ _ _ _) ?k1 ?k2 ?k3 ?k4 ?k5 ?kK ?kp ?kd ?ku ?_; (case k1 => k_asm); (case k2 => k_asm); (case k3 => k_asm); (case k4 => k_asm); (case k5 => k_asm); (case kK => first | exact rfl | assumption); (case kp => skip; (try simp only [decide_eq_true_eq, decide_eq_false_iff_not] at *); first | exact True.intro | fail "none" | assumption | omega | (refine ⟨?_, ?_⟩ <;> first | assumption | omega) | (refine ⟨?_, ?_, ?_⟩ <;> first | assumption | omega) | (refine ⟨?_, ?_, ?_, ?_⟩ <;> first | assumption | omega) | (refine ⟨?_, ?_, ?_, ?_, ?_⟩ <;> first | assumption | omega)); (case kd => ktr_room); (case ku => ktr_units)); intro x9 t9 h9 tk9 P9 F9 N9; (try dsimp only at P9); (try obtain ⟨P9, P9b⟩ := P9); (try obtain ⟨P9b, P9c⟩ := P9b); (try subst P9); (try dsimp only); (try k_fold)))))
local macro_rules | `(tactic| walk_at "call ref") => `(tactic| (k_here; (with_reducible show wpAny _ _ (call (Value.ref 297) [Value.int _ _]) _ _ _); ((k_dflt (refine' (c_size _ _ _ _ _ _ _ _ _ _ _ _ _ _ _ _ _ _ _ _) ?k1 ?k2 ?k3 ?k4 ?k5 ?kK ?kp ?kd ?ku ?_; (case k1 => k_asm); (case k2 => k_asm); (case k3 => k_asm); (case k4 => k_asm); (case k5 => k_asm); (case kK => first | exact rfl | assumption); (case kp => skip; (try simp only [decide_eq_true_eq, decide_eq_false_iff_not] at *); first | exact True.intro | fail "none" | assumption | omega | (refine ⟨?_, ?_⟩ <;> first | assumption | omega) | (refine ⟨?_, ?_, ?_⟩ <;> first | assumption | omega) | (refine ⟨?_, ?_, ?_, ?_⟩ <;> first | assumption | omega) | (refine ⟨?_, ?_, ?_, ?_, ?_⟩ <;> first | assumption | omega)); (case kd => ktr_room); (case ku => ktr_units)); intro x9 t9 h9 tk9 P9 F9 N9; (try dsimp only at P9); (try obtain ⟨P9, P9b⟩ := P9); (try obtain ⟨P9b, P9c⟩ := P9b); (try subst P9); (try dsimp only); (try k_fold)))))
local macro_rules | `(tactic| walk_at "call ref") => `(tactic| (k_here; (with_reducible show wpAny _ _ (call (Value.ref 304) [Value.int _ _]) _ _ _); ((k_dflt (refine' (c_place _ _ _ _ _ _ _ _ _ _ _ _ _ _ _ _ _ _ _ _) ?k1 ?k2 ?k3 ?k4 ?k5 ?kK ?kp ?kd ?ku ?_; (case k1 => k_asm); (case k2 => k_asm); (case k3 => k_asm); (case k4 => k_asm); (case k5 => k_asm); (case kK => first | exact rfl | assumption); (case kp => skip; (try simp only [decide_eq_true_eq, decide_eq_false_iff_not] at *); first | exact True.intro | fail "none" | assumption | omega | (refine ⟨?_, ?_⟩ <;> first | assumption | omega) | (refine ⟨?_, ?_, ?_⟩ <;> first | assumption | omega) | (refine ⟨?_, ?_, ?_, ?_⟩ <;> first | assumption | omega) | (refine ⟨?_, ?_, ?_, ?_, ?_⟩ <;> first | assumption | omega)); (case kd => ktr_room); (case ku => ktr_units)); intro x9 t9 h9 tk9 P9 F9 N9; (try dsimp only at P9); (try obtain ⟨P9, P9b⟩ := P9); (try obtain ⟨P9b, P9c⟩ := P9b); (try subst P9); (try dsimp only); (try k_fold)))))
local macro_rules | `(tactic| walk_at "call ref") => `(tactic| (k_here; (with_reducible show wpAny _ _ (call (Value.ref 107) [Value.str _ _]) _ _ _); ((k_dflt (refine' (c_checked _ _ _ _ _ _ _ _ _ _ _ _ _ _ _ _ _ _ _ _) ?k1 ?k2 ?k3 ?k4 ?k5 ?kK ?kp ?kd ?ku ?_; (case k1 => k_asm); (case k2 => k_asm); (case k3 => k_asm); (case k4 => k_asm); (case k5 => k_asm); (case kK => first | exact rfl | assumption); (case kp => skip; (try simp only [decide_eq_true_eq, decide_eq_false_iff_not] at *); first | exact True.intro | fail "none" | assumption | omega | (refine ⟨?_, ?_⟩ <;> first | assumption | omega) | (refine ⟨?_, ?_, ?_⟩ <;> first | assumption | omega) | (refine ⟨?_, ?_, ?_, ?_⟩ <;> first | assumption | omega) | (refine ⟨?_, ?_, ?_, ?_, ?_⟩ <;> first | assumption | omega)); (case kd => ktr_room); (case ku => ktr_units)); intro x9 t9 h9 tk9 P9 F9 N9; (try dsimp only at P9); (try obtain ⟨P9, P9b⟩ := P9); (try obtain ⟨P9b, P9c⟩ := P9b); (try subst P9); (try dsimp only); (try k_fold)))))
section
variable {w : World} {mean : ExcName → Option Value} {mg mb : Str → Option Value} 
theorem c_left (news : List (Addr × Obj)) (l : Addr) (t : Str) (tt : Tok) (a : Int) (ta : Tok) : Gives w mean mg mb 311 10 ((l, listOf #[.str t tt, .int a ta] 0) :: news) (t.length ≤ 255 ∧ 0 ≤ a ∧ a ≤ 255) [.none, .ref l] (fun (_ : Unit) tk => .str (leftF t a) tk) (fun _ => (leftF t a).length ≤ t.length) := by
  (k_with_none; w_top off; (refine Mine.fill ?_; dsimp only [Mine.Gives, Mine.GivesN]; k_fill; refine ⟨rfl, ?_⟩; intros)); rename_i hpre _ _ hret; obtain ⟨hp1, hp2, hp3⟩ := hpre; ((refine wpAny_call ?_; k_dflt cell_enter; k_steps))
  all_goals exact hret () _ _ _ (leftF_le _ _) (by k_asm) (by (first | k_asm | exact Mine.drop_news (by assumption) Mine.mem1 | exact Mine.drop_news (by assumption) Mine.mem2 | exact Mine.drop_news (by assumption) Mine.mem3 | exact Mine.drop_news (by assumption) Mine.mem4 | (refine' Mine.drop_news ?cbN ?cbS; (case cbN => assumption); (case cbS => kcj_all))))
theorem c_mid3 (news : List (Addr × Obj)) (l : Addr) (t : Str) (tt : Tok) (a : Int) (ta : Tok) (t1 : Tok) : Gives w mean mg mb 318 15 ((l, listOf #[.str t tt, .int a ta, .int 1 t1] 0) :: news) (t.length ≤ 255 ∧ 1 ≤ a ∧ a ≤ 255) [.none, .ref l] (fun (_ : Unit) tk => .str (signF t a) tk) (fun _ => True) := by
  (k_with_none; w_top off; (refine Mine.fill ?_; dsimp only [Mine.Gives, Mine.GivesN]; k_fill; refine ⟨rfl, ?_⟩; intros)); rename_i hpre _ _ hret; obtain ⟨hp1, hp2, hp3⟩ := hpre; ((refine wpAny_call ?_; k_dflt cell_enter; k_steps))
  all_goals exact hret () _ _ _ trivial (by k_asm) (by (first | k_asm | exact Mine.drop_news (by assumption) Mine.mem1 | exact Mine.drop_news (by assumption) Mine.mem2 | exact Mine.drop_news (by assumption) Mine.mem3 | exact Mine.drop_news (by assumption) Mine.mem4 | (refine' Mine.drop_news ?cbN ?cbS; (case cbN => assumption); (case cbS => kcj_all))))
theorem c_mid2 (news : List (Addr × Obj)) (l : Addr) (t : Str) (tt : Tok) (a : Int) (ta : Tok) : Gives w mean mg mb 318 15 ((l, listOf #[.str t tt, .int a ta] 0) :: news) (t.length ≤ 255 ∧ 1 ≤ a ∧ a ≤ 255) [.none, .ref l] (fun (_ : Unit) tk => .str (midF t a) tk) (fun _ => (midF t a).length ≤ t.length) := by
  (k_with_none; w_top off; (refine Mine.fill ?_; dsimp only [Mine.Gives, Mine.GivesN]; k_fill; refine ⟨rfl, ?_⟩; intros)); rename_i hpre _ _ hret; obtain ⟨hp1, hp2, hp3⟩ := hpre; ((refine wpAny_call ?_; k_dflt cell_enter; k_steps))
  all_goals exact hret () _ _ _ (midF_le _ _) (by k_asm) (by (first | k_asm | exact Mine.drop_news (by assumption) Mine.mem1 | exact Mine.drop_news (by assumption) Mine.mem2 | exact Mine.drop_news (by assumption) Mine.mem3 | exact Mine.drop_news (by assumption) Mine.mem4 | (refine' Mine.drop_news ?cbN ?cbS; (case cbN => assumption); (case cbS => kcj_all))))
theorem c_joined (news : List (Addr × Obj)) (t : Str) (tt : Tok) (u : Str) (tu : Tok) : Gives w mean mg mb 325 10 news (t.length + u.length ≤ 255) [.str t tt, .str u tu] (fun (_ : Unit) tk => .str (t ++ u) tk) (fun _ => (t ++ u).length = t.length + u.length) := by
  (k_with_none; w_top off; (refine Mine.fill ?_; dsimp only [Mine.Gives, Mine.GivesN]; k_fill; refine ⟨rfl, ?_⟩; intros)); rename_i hpre _ _ hret; ((refine wpAny_call ?_; k_dflt cell_enter; k_steps))
  all_goals exact hret () _ _ _ (Str.length_append _ _) (by k_asm) (by (first | k_asm | exact Mine.drop_news (by assumption) Mine.mem1 | exact Mine.drop_news (by assumption) Mine.mem2 | exact Mine.drop_news (by assumption) Mine.mem3 | exact Mine.drop_news (by assumption) Mine.mem4 | (refine' Mine.drop_news ?cbN ?cbS; (case cbN => assumption); (case cbS => kcj_all))))
end
end

section
open PySem PySem.W PyProof.Rows
local macro_rules | `(tactic| k_room) => `(tactic| ktr_room)
local macro_rules | `(tactic| k_units) => `(tactic| ktr_units)
local macro_rules | `(tactic| walk_at "call ref") => `(tactic| (k_here; (with_reducible show wpAny _ _ (call (Value.ref 34) _ _) _ _ _); exfalso; omega))
local macro_rules | `(tactic| walk_at "call ref") => `(tactic| (k_here; (with_reducible show wpAny _ _ (call (Value.ref 311) [Value.none, Value.ref _]) _ _ _); ((k_dflt (refine' (c_left _ _ _ _ _ _ _ _ _ _ _ _ _ _ _ _ _ _ _ _ _ _ _) ?k1 ?k2 ?k3 ?k4 ?k5 ?kK ?kp ?kd ?ku ?_; (case k1 => k_asm); (case k2 => k_asm); (case k3 => k_asm); (case k4 => k_asm); (case k5 => k_asm); (case kK => first | exact rfl | assumption); (case kp => skip; (try simp only [decide_eq_true_eq, decide_eq_false_iff_not] at *); first | exact True.intro | fail "none" | assumption | omega | (refine ⟨?_, ?_⟩ <;> first | assumption | omega) | (refine ⟨?_, ?_, ?_⟩ <;> first | assumption | omega) | (refine ⟨?_, ?_, ?_, ?_⟩ <;> first | assumption | omega) | (refine ⟨?_, ?_, ?_, ?_, ?_⟩ <;> first | assumption | omega)); (case kd => ktr_room); (case ku => ktr_units)); intro x9 t9 h9 tk9 P9 F9 N9; (try dsimp only at P9); (try obtain ⟨P9, P9b⟩ := P9); (try obtain ⟨P9b, P9c⟩ := P9b); (try subst P9); (try dsimp only); (try k_fold)))))
local macro_rules | `(tactic| walk_at "call ref") => `(tactic| (k_here; (with_reducible show wpAny _ _ (call (Value.ref 318) [Value.none, Value.ref _]) _ _ _); first | ((k_dflt (refine' (c_mid3 _ _ _ _ _ _ _ _ _ _ _ _ _ _ _ _ _ _ _ _ _ _ _ _) ?k1 ?k2 ?k3 ?k4 ?k5 ?kK ?kp ?kd ?ku ?_; (case k1 => k_asm); (case k2 => k_asm); (case k3 => k_asm); (case k4 => k_asm); (case k5 => k_asm); (case kK => first | exact rfl | assumption); (case kp => skip; (try simp only [decide_eq_true_eq, decide_eq_false_iff_not] at *); first | exact True.intro | fail "none" | assumption | omega | (refine ⟨?_, ?_⟩ <;> first | assumption | omega) | (refine ⟨?_, ?_, ?_⟩ <;> first | assumption | omega) | (refine ⟨?_, ?_, ?_, ?_⟩ <;> first | assumption | omega) | (refine ⟨?_, ?_, ?_, ?_, ?_⟩ <;> first | assumption | omega)); (case kd => ktr_room); (case ku => ktr_units)); intro x9 t9 h9 tk9 P9 F9 N9; (try dsimp only at P9); (try obtain ⟨P9, P9b⟩ := P9); (try obtain ⟨P9b, P9c⟩ := P9b); (try subst P9); (try dsimp only); (try k_fold))) | ((k_dflt (refine' (c_mid2 _ _ _ _ _ _ _ _ _ _ _ _ _ _ _ _ _ _ _ _ _ _ _) ?k1 ?k2 ?k3 ?k4 ?k5 ?kK ?kp ?kd ?ku ?_; (case k1 => k_asm); (case k2 => k_asm); (case k3 => k_asm); (case k4 => k_asm); (case k5 => k_asm); (case kK => first | exact rfl | assumption); (case kp => skip; (try simp only [decide_eq_true_eq, decide_eq_false_iff_not] at *); first | exact True.intro | fail "none" | assumption | omega | (refine ⟨?_, ?_⟩ <;> first | assumption | omega) | (refine ⟨?_, ?_, ?_⟩ <;> first | assumption | omega) | (refine ⟨?_, ?_, ?_, ?_⟩ <;> first | assumption | omega) | (refine ⟨?_, ?_, ?_, ?_, ?_⟩ <;> first | assumption | omega)); (case kd => ktr_room); (case ku => ktr_units)); intro x9 t9 h9 tk9 P9 F9 N9; (try dsimp only at P9); (try obtain ⟨P9, P9b⟩ := P9); (try obtain ⟨P9b, P9c⟩ := P9b); (try subst P9); (try dsimp only); (try k_fold)))))
local macro_rules | `(tactic| walk_at "call ref") => `(tactic| (k_here; (with_reducible show wpAny _ _ (call (Value.ref 325) [Value.str _ _, Value.str _ _]) _ _ _); ((k_dflt (refine' (c_joined _ _ _ _ _ _ _ _ _ _ _ _ _ _ _ _ _ _ _ _ _ _) ?k1 ?k2 ?k3 ?k4 ?k5 ?kK ?kp ?kd ?ku ?_; (case k1 => k_asm); (case k2 => k_asm); (case k3 => k_asm); (case k4 => k_asm); (case k5 => k_asm); (case kK => first | exact rfl | assumption); (case kp => skip; (try simp only [decide_eq_true_eq, decide_eq_false_iff_not] at *); first | exact True.intro | fail "none" | assumption | omega | (refine ⟨?_, ?_⟩ <;> first | assumption | omega) | (refine ⟨?_, ?_, ?_⟩ <;> first | assumption | omega) | (refine ⟨?_, ?_, ?_, ?_⟩ <;> first | assumption | omega) | (refine ⟨?_, ?_, ?_, ?_, ?_⟩ <;> first | assumption | omega)); (case kd => ktr_room); (case ku => ktr_units)); intro x9 t9 h9 tk9 P9 F9 N9; (try dsimp only at P9); (try obtain ⟨P9, P9b⟩ := P9); (try obtain ⟨P9b, P9c⟩ := P9b); (try subst P9); (try dsimp only); (try k_fold)))))
section
variable {w : World} {mean : ExcName → Option Value} {mg mb : Str → Option Value} 
theorem c_sign (news : List (Addr × Obj)) (t : Str) (tt : Tok) (a : Int) (ta : Tok) : Gives w mean mg mb 339 20 news (1 ≤ a ∧ a ≤ t.length ∧ t.length ≤ 255) [.str t tt, .int a ta] (fun (_ : Unit) tk => .str (signF t a) tk) (fun _ => (signF t a).length = 1 ∧ toL (signF t a) = [keyAt t a]) := by
  (k_with_none; w_top off; (refine Mine.fill ?_; dsimp only [Mine.Gives, Mine.GivesN]; k_fill; refine ⟨rfl, ?_⟩; intros)); rename_i hpre _ _ hret; obtain ⟨hp1, hp2, hp3⟩ := hpre; ((refine wpAny_call ?_; k_dflt cell_enter; k_steps))
  all_goals exact hret () _ _ _ ⟨signF_len hp1 hp2, signF_toL hp1 hp2⟩ (by k_asm) (by (first | k_asm | exact Mine.drop_news (by assumption) Mine.mem1 | exact Mine.drop_news (by assumption) Mine.mem2 | exact Mine.drop_news (by assumption) Mine.mem3 | exact Mine.drop_news (by assumption) Mine.mem4 | (refine' Mine.drop_news ?cbN ?cbS; (case cbN => assumption); (case cbS => kcj_all))))
theorem c_put (news : List (Addr × Obj)) (t : Str) (tt : Tok) (a : Int) (ta : Tok) (u : Str) (tu : Tok) : Gives w mean mg mb 353 20 news (1 ≤ a ∧ a ≤ t.length ∧ t.length ≤ 100 ∧ u.length = 1) [.str t tt, .int a ta, .str u tu] (fun (_ : Unit) tk => .str (putF t a u) tk) (fun _ => (putF t a u).length = t.length) := by
  (k_with_none; w_top off; (refine Mine.fill ?_; dsimp only [Mine.Gives, Mine.GivesN]; k_fill; refine ⟨rfl, ?_⟩; intros)); rename_i hpre _ _ hret; obtain ⟨hp1, hp2, hp3, hp4⟩ := hpre; ((refine wpAny_call ?_; k_dflt cell_enter; k_steps))
  all_goals exact hret () _ _ _ (putF_len hp1 hp2 (by omega) hp4) (by k_asm) (by (first | k_asm | exact Mine.drop_news (by assumption) Mine.mem1 | exact Mine.drop_news (by assumption) Mine.mem2 | exact Mine.drop_news (by assumption) Mine.mem3 | exact Mine.drop_news (by assumption) Mine.mem4 | (refine' Mine.drop_news ?cbN ?cbS; (case cbN => assumption); (case cbS => kcj_all))))
local macro_rules | `(tactic| walk_at "call ref") => `(tactic| (k_here; (with_reducible show wpAny _ _ (call (Value.ref 339) [Value.str _ _, Value.int _ _]) _ _ _); ((k_dflt (refine' (c_sign _ _ _ _ _ _ _ _ _ _ _ _ _ _ _ _ _ _ _ _ _ _) ?k1 ?k2 ?k3 ?k4 ?k5 ?kK ?kp ?kd ?ku ?_; (case k1 => k_asm); (case k2 => k_asm); (case k3 => k_asm); (case k4 => k_asm); (case k5 => k_asm); (case kK => first | exact rfl | assumption); (case kp => skip; (try simp only [decide_eq_true_eq, decide_eq_false_iff_not] at *); first | exact True.intro | fail "none" | assumption | omega | (refine ⟨?_, ?_⟩ <;> first | assumption | omega) | (refine ⟨?_, ?_, ?_⟩ <;> first | assumption | omega) | (refine ⟨?_, ?_, ?_, ?_⟩ <;> first | assumption | omega) | (refine ⟨?_, ?_, ?_, ?_, ?_⟩ <;> first | assumption | omega)); (case kd => ktr_room); (case ku => ktr_units)); intro x9 t9 h9 tk9 P9 F9 N9; (try dsimp only at P9); (try obtain ⟨P9, P9b⟩ := P9); (try obtain ⟨P9b, P9c⟩ := P9b); (try subst P9); (try dsimp only); (try k_fold)))))
local macro_rules | `(tactic| walk_at "call ref") => `(tactic| (k_here; (with_reducible show wpAny _ _ (call (Value.ref 353) [Value.str _ _, Value.int _ _, Value.str _ _]) _ _ _); ((k_dflt (refine' (c_put _ _ _ _ _ _ _ _ _ _ _ _ _ _ _ _ _ _ _ _ _ _ _ _) ?k1 ?k2 ?k3 ?k4 ?k5 ?kK ?kp ?kd ?ku ?_; (case k1 => k_asm); (case k2 => k_asm); (case k3 => k_asm); (case k4 => k_asm); (case k5 => k_asm); (case kK => first | exact rfl | assumption); (case kp => skip; (try simp only [decide_eq_true_eq, decide_eq_false_iff_not] at *); first | exact True.intro | fail "none" | assumption | omega | (refine ⟨?_, ?_⟩ <;> first | assumption | omega) | (refine ⟨?_, ?_, ?_⟩ <;> first | assumption | omega) | (refine ⟨?_, ?_, ?_, ?_⟩ <;> first | assumption | omega) | (refine ⟨?_, ?_, ?_, ?_, ?_⟩ <;> first | assumption | omega)); (case kd => ktr_room); (case ku => ktr_units)); intro x9 t9 h9 tk9 P9 F9 N9; (try dsimp only at P9); (try obtain ⟨P9, P9b⟩ := P9); (try obtain ⟨P9b, P9c⟩ := P9b); (try subst P9); (try dsimp only); (try k_fold)))))
theorem c_exch (news : List (Addr × Obj)) (t : Str) (tt : Tok) (a : Int) (ta : Tok) (b : Int) (tb : Tok) : Gives w mean mg mb 360 25 news (1 ≤ a ∧ a ≤ t.length ∧ t.length ≤ 100 ∧ 1 ≤ b ∧ b ≤ t.length) [.str t tt, .int a ta, .int b tb] (fun (_ : Unit) tk => .str (exF t a b) tk) (fun _ => (exF t a b).length = t.length) := by
  (k_with_none; w_top off; (refine Mine.fill ?_; dsimp only [Mine.Gives, Mine.GivesN]; k_fill; refine ⟨rfl, ?_⟩; intros)); rename_i hpre _ _ hret; obtain ⟨hp1, hp2, hp3, hp4, hp5⟩ := hpre; ((refine wpAny_call ?_; k_dflt cell_enter; k_steps))
  all_goals exact hret () _ _ _ (exF_len hp1 hp2 hp4 hp5 (by omega)) (by k_asm) (by (first | k_asm | exact Mine.drop_news (by assumption) Mine.mem1 | exact Mine.drop_news (by assumption) Mine.mem2 | exact Mine.drop_news (by assumption) Mine.mem3 | exact Mine.drop_news (by assumption) Mine.mem4 | (refine' Mine.drop_news ?cbN ?cbS; (case cbN => assumption); (case cbS => kcj_all))))
end
end

section
open PySem PySem.W PySem.Spec PyProof.Rows
local macro_rules | `(tactic| walk_at "idle0") => `(tactic| fail)
local macro_rules | `(tactic| k_room) => `(tactic| ktr_room)
local macro_rules | `(tactic| k_units) => `(tactic| ktr_units)
local macro_rules | `(tactic| walk_at "call ref") => `(tactic| (k_here; (with_reducible show wpAny _ _ (call (Value.ref 34) _ _) _ _ _); exfalso; omega))
local macro_rules | `(tactic| walk_at "call ref") => `(tactic| (k_here; (with_reducible show wpAny _ _ (call (Value.ref 339) [Value.str _ _, Value.int _ _]) _ _ _); ((k_dflt (refine' (c_sign _ _ _ _ _ _ _ _ _ _ _ _ _ _ _ _ _ _ _ _ _ _) ?k1 ?k2 ?k3 ?k4 ?k5 ?kK ?kp ?kd ?ku ?_; (case k1 => k_asm); (case k2 => k_asm); (case k3 => k_asm); (case k4 => k_asm); (case k5 => k_asm); (case kK => first | exact rfl | assumption); (case kp => skip; (try simp only [decide_eq_true_eq, decide_eq_false_iff_not] at *); first | exact True.intro | fail "none" | assumption | omega | (refine ⟨?_, ?_⟩ <;> first | assumption | omega) | (refine ⟨?_, ?_, ?_⟩ <;> first | assumption | omega) | (refine ⟨?_, ?_, ?_, ?_⟩ <;> first | assumption | omega) | (refine ⟨?_, ?_, ?_, ?_, ?_⟩ <;> first | assumption | omega)); (case kd => ktr_room); (case ku => ktr_units)); intro x9 t9 h9 tk9 P9 F9 N9; (try dsimp only at P9); (try obtain ⟨P9, P9b⟩ := P9); (try obtain ⟨P9b, P9c⟩ := P9b); (try subst P9); (try dsimp only); (try k_fold)))))
local macro_rules | `(tactic| walk_at "exec Assign cons ListComp") => `(tactic| (k_here; k_dflt (refine assign_comp_tuple (_F₀ := by k_asm) (by rfl) (by with_unfolding_all rfl) (by rfl) (by decide) (by rfl) (by decide) (by rfl) (by rfl) (by rfl) ?_)))
local macro_rules | `(tactic| walk_at "TupSrc") => `(tactic| (k_here; k_dflt (refine ⟨_, _, _, _, rfl, by rfl, by k_asm, by k_asm, by k_mem, by first | size_fits | exact Nat.le_of_ble_eq_true rfl, ?_⟩; intro s2' hs2'; obtain ⟨g2', e2'⟩ := hs2'; subst e2'; lcg_lit)))
local macro_rules | `(tactic| walk_at "CompEnd") => `(tactic| (k_dflt (refine LCg.CompEnd.intro (by assumption) (by assumption) _ (fun _ h => h) (by assumption) (by k_mem) ?_)))
local macro_rules | `(tactic| walk_at "compareOp In str ref") => `(tactic| (k_here; (with_reducible show wpAny _ _ (compareOp CmpOp.In (Value.str _ _) (Value.ref 264)) _ _ _); k_dflt (refine' in_tuple_strs (tup_of_K ?F ?X ?l ?c ?d) ?k2 ?_; (case F => k_asm); (case X => k_asm); (case l => k_is); (case c => rfl); (case d => rfl); (case k2 => (repeat constructor)))))
theorem worth_end {x y : Str} {kx ky : Nat} (hx : toL x = [kx]) (hy : toL y = [ky]) :
    (if decide (b2i (decide (y.cps.toList < x.cps.toList)) - b2i (decide (x.cps.toList < y.cps.toList)) < 0) = (Str.ofString "<" == Str.ofString "<") then (-1 : Int) else 0) = if kx < ky then -1 else 0 := by
  unfold toL at hx hy
  rw [hx, hy]
  have e : (Str.ofString "<" == Str.ofString "<") = true := by rfl
  rw [e]
  have l1 : ∀ a b : Nat, decide ([a] < [b]) = decide (a < b) := by
    intro a b
    rw [StrLaws.lt_cons_cons, StrLaws.lt_nil_nil]
    simp
  rw [l1, l1]
  by_cases h : kx < ky
  · have h2 : ¬ ky < kx := by omega
    simp [h, h2, b2i]
  · by_cases h2 : ky < kx <;> simp [h, h2, b2i]
theorem less_end {a b : Nat} : (((if a < b then (-1 : Int) else 0)) == 0 - 1) = decide (a < b) := by
  by_cases h : a < b <;> simp [h]
section
variable {w : World} {mean : ExcName → Option Value} {mg mb : Str → Option Value} 
theorem c_worth (news : List (Addr × Obj)) (t0 : Tok) (x : Str) (tx : Tok) (y : Str) (ty : Tok) (t1 t2 : Tok) (kx ky : Nat) : Gives w mean mg mb 290 20 news (x.length = 1 ∧ y.length = 1 ∧ toL x = [kx] ∧ toL y = [ky]) [.str (Str.ofString "<") t0, .str x tx, .str y ty, .int 16 t1, .int 9 t2] (fun (r : Int) tk => .int r tk) (fun r => r = if kx < ky then -1 else 0) := by
  (k_with_none; w_top off; (refine Mine.fill ?_; dsimp only [Mine.Gives, Mine.GivesN]; k_fill; refine ⟨rfl, ?_⟩; intros)); rename_i hpre _ _ hret; obtain ⟨hp1, hp2, hp3, hp4⟩ := hpre; ((refine wpAny_call ?_; k_dflt cell_enter; k_steps))
  all_goals exact hret _ _ _ _ (worth_end hp3 hp4) (by k_asm) (by (first | k_asm | exact Mine.drop_news (by assumption) Mine.mem1 | exact Mine.drop_news (by assumption) Mine.mem2 | exact Mine.drop_news (by assumption) Mine.mem3 | exact Mine.drop_news (by assumption) Mine.mem4 | (refine' Mine.drop_news ?cbN ?cbS; (case cbN => assumption); (case cbS => kcj_all))))
local macro_rules | `(tactic| walk_at "call ref") => `(tactic| (k_here; (with_reducible show wpAny _ _ (call (Value.ref 290) [Value.str _ _, Value.str _ _, Value.str _ _, Value.int _ _, Value.int _ _]) _ _ _); ((k_dflt (refine' (c_worth _ _ _ _ _ _ _ _ _ _ _ _ _ _ _ _ _ _ _ _ _ _ _ _ _ _ _) ?k1 ?k2 ?k3 ?k4 ?k5 ?kK ?kp ?kd ?ku ?_; (case k1 => k_asm); (case k2 => k_asm); (case k3 => k_asm); (case k4 => k_asm); (case k5 => k_asm); (case kK => first | exact rfl | assumption); (case kp => skip; (try simp only [decide_eq_true_eq, decide_eq_false_iff_not] at *); first | exact True.intro | fail "none" | assumption | omega | (refine ⟨?_, ?_⟩ <;> first | assumption | omega) | (refine ⟨?_, ?_, ?_⟩ <;> first | assumption | omega) | (refine ⟨?_, ?_, ?_, ?_⟩ <;> first | assumption | omega) | (refine ⟨?_, ?_, ?_, ?_, ?_⟩ <;> first | assumption | omega)); (case kd => ktr_room); (case ku => ktr_units)); intro x9 t9 h9 tk9 P9 F9 N9; (try dsimp only at P9); (try obtain ⟨P9, P9b⟩ := P9); (try obtain ⟨P9b, P9c⟩ := P9b); (try subst P9); (try dsimp only); (try k_fold)))))
theorem c_less (news : List (Addr × Obj)) (t : Str) (tt : Tok) (a : Int) (ta : Tok) (b : Int) (tb : Tok) : Gives w mean mg mb 346 40 news (1 ≤ a ∧ a ≤ t.length ∧ t.length ≤ 100 ∧ 1 ≤ b ∧ b ≤ t.length) [.str t tt, .int a ta, .int b tb] (fun (x : Bool) tk => .bool x) (fun x => x = decide (keyAt t a < keyAt t b)) := by
  (k_with_none; w_top off; (refine Mine.fill ?_; dsimp only [Mine.Gives, Mine.GivesN]; k_fill; refine ⟨rfl, ?_⟩; intros)); rename_i hpre _ _ hret; obtain ⟨hp1, hp2, hp3, hp4, hp5⟩ := hpre; ((refine wpAny_call ?_; k_dflt cell_enter; k_steps))
  all_goals exact hret _ 0 _ _ less_end (by k_asm) (by (first | k_asm | exact Mine.drop_news (by assumption) Mine.mem1 | exact Mine.drop_news (by assumption) Mine.mem2 | exact Mine.drop_news (by assumption) Mine.mem3 | exact Mine.drop_news (by assumption) Mine.mem4 | (refine' Mine.drop_news ?cbN ?cbS; (case cbN => assumption); (case cbS => kcj_all))))
end
end

section
open PySem PySem.W PySem.Spec PyProof.Rows
local macro_rules | `(tactic| walk_at "idle0") => `(tactic| fail)
local macro_rules | `(tactic| walk_at "idle1") => `(tactic| fail)
local macro_rules | `(tactic| walk_at "idle2") => `(tactic| fail)
local macro_rules | `(tactic| walk_at "idle3") => `(tactic| fail)
local macro_rules | `(tactic| walk_at "idle4") => `(tactic| fail)
local macro_rules | `(tactic| k_room) => `(tactic| ktr_room)
local macro_rules | `(tactic| k_units) => `(tactic| ktr_units)
local macro_rules | `(tactic| walk_at "call ref") => `(tactic| (k_here; (with_reducible show wpAny _ _ (call (Value.ref 34) _ _) _ _ _); exfalso; omega))
local macro_rules | `(tactic| walk_at "call ref") => `(tactic| (k_here; (with_reducible show wpAny _ _ (call (Value.ref 360) [Value.str _ _, Value.int _ _, Value.int _ _]) _ _ _); ((k_dflt (refine' (c_exch _ _ _ _ _ _ _ _ _ _ _ _ _ _ _ _ _ _ _ _ _ _ _ _) ?k1 ?k2 ?k3 ?k4 ?k5 ?kK ?kp ?kd ?ku ?_; (case k1 => k_asm); (case k2 => k_asm); (case k3 => k_asm); (case k4 => k_asm); (case k5 => k_asm); (case kK => first | exact rfl | assumption); (case kp => (((try (have hb9 := Up.bounds (by assumption); obtain ⟨hb91, hb92, hb93⟩ := hb9)); (try simp only [fdiv2]))); (try simp only [decide_eq_true_eq, decide_eq_false_iff_not] at *); first | exact True.intro | fail "none" | assumption | omega | (refine ⟨?_, ?_⟩ <;> first | assumption | omega) | (refine ⟨?_, ?_, ?_⟩ <;> first | assumption | omega) | (refine ⟨?_, ?_, ?_, ?_⟩ <;> first | assumption | omega) | (refine ⟨?_, ?_, ?_, ?_, ?_⟩ <;> first | assumption | omega)); (case kd => ktr_room); (case ku => ktr_units)); intro x9 t9 h9 tk9 P9 F9 N9; (try dsimp only at P9); (try obtain ⟨P9, P9b⟩ := P9); (try obtain ⟨P9b, P9c⟩ := P9b); (try subst P9); (try dsimp only); (try k_fold)))))
local macro_rules | `(tactic| walk_at "call ref") => `(tactic| (k_here; (with_reducible show wpAny _ _ (call (Value.ref 346) [Value.str _ _, Value.int _ _, Value.int _ _]) _ _ _); ((k_dflt (refine' (c_less _ _ _ _ _ _ _ _ _ _ _ _ _ _ _ _ _ _ _ _ _ _ _ _) ?k1 ?k2 ?k3 ?k4 ?k5 ?kK ?kp ?kd ?ku ?_; (case k1 => k_asm); (case k2 => k_asm); (case k3 => k_asm); (case k4 => k_asm); (case k5 => k_asm); (case kK => first | exact rfl | assumption); (case kp => (((try (have hb9 := Up.bounds (by assumption); obtain ⟨hb91, hb92, hb93⟩ := hb9)); (try simp only [fdiv2]))); (try simp only [decide_eq_true_eq, decide_eq_false_iff_not] at *); first | exact True.intro | fail "none" | assumption | omega | (refine ⟨?_, ?_⟩ <;> first | assumption | omega) | (refine ⟨?_, ?_, ?_⟩ <;> first | assumption | omega) | (refine ⟨?_, ?_, ?_, ?_⟩ <;> first | assumption | omega) | (refine ⟨?_, ?_, ?_, ?_, ?_⟩ <;> first | assumption | omega)); (case kd => ktr_room); (case ku => ktr_units)); intro x9 t9 h9 tk9 P9 F9 N9; (try dsimp only at P9); (try obtain ⟨P9, P9b⟩ := P9); (try obtain ⟨P9b, P9c⟩ := P9b); (try subst P9); (try dsimp only); (try k_fold)))))
local macro_rules | `(tactic| walk_at "KswEnd") => `(tactic| ((rename News _ _ _ _ => nE'); (refine ksw_end ⟨_, _, _, _⟩ (by assumption) nE' (by first | exact mem1 | exact mem0 | exact mem2) (by kst_facts) (by kst_all) (by ksw_same) (by kst_p) (by ksw_less))))
local macro_rules | `(tactic| ksw_less) => `(tactic| ((try dsimp only); (try simp only [fdiv2]); have hb9 := Up.bounds (by assumption); omega))
section
variable {w : World} {mean : ExcName → Option Value} {mg mb : Str → Option Value} 
theorem c_up (news : List (Addr × Obj)) (t : Str) (tt : Tok) (a : Int) (ta : Tok) : Gives w mean mg mb 367 50 news (Up t t a) [.str t tt, .int a ta] (fun (x : Str) tk => .str x tk) (fun x => x.length = t.length ∧ (toL x).Perm (toL t) ∧ HeapFrom 1 x) := by
  (k_with_none; w_top off; (refine Mine.fill ?_; dsimp only [Mine.Gives, Mine.GivesN]; k_fill; refine ⟨rfl, ?_⟩; intros)); rename_i hpre _ _ hret
  k_with "exec While BoolOp cons nil" => k_while (fun _ text at' => Up t text at') (fun _ text at' => at'.toNat) "text" "at"
  k_with "state" => first | assumption | exact Up.turn (by assumption) (by assumption) (by first | assumption | (apply of_decide_eq_true; assumption))
  ((refine wpAny_call ?_; k_dflt cell_enter; k_steps))
  all_goals (try (first | exact hret _ _ _ _ (Up.end1 (by assumption) (by assumption)) (by k_asm) (by (first | k_asm | exact Mine.drop_news (by assumption) Mine.mem1 | exact Mine.drop_news (by assumption) Mine.mem2 | exact Mine.drop_news (by assumption) Mine.mem3 | exact Mine.drop_news (by assumption) Mine.mem4 | (refine' Mine.drop_news ?cbN ?cbS; (case cbN => assumption); (case cbS => kcj_all)))) | exact hret _ _ _ _ (Up.end2 (by assumption) (by first | assumption | (apply of_decide_eq_false; assumption))) (by k_asm) (by (first | k_asm | exact Mine.drop_news (by assumption) Mine.mem1 | exact Mine.drop_news (by assumption) Mine.mem2 | exact Mine.drop_news (by assumption) Mine.mem3 | exact Mine.drop_news (by assumption) Mine.mem4 | (refine' Mine.drop_news ?cbN ?cbS; (case cbN => assumption); (case cbS => kcj_all))))))
end
end

section
open PySem PySem.W PySem.Spec PyProof.Rows
local macro_rules | `(tactic| walk_at "idle0") => `(tactic| fail)
local macro_rules | `(tactic| walk_at "idle1") => `(tactic| fail)
local macro_rules | `(tactic| walk_at "idle2") => `(tactic| fail)
local macro_rules | `(tactic| walk_at "idle3") => `(tactic| fail)
local macro_rules | `(tactic| walk_at "idle4") => `(tactic| fail)
local macro_rules | `(tactic| k_room) => `(tactic| ktr_room)
local macro_rules | `(tactic| k_units) => `(tactic| ktr_units)
local macro_rules | `(tactic| walk_at "call ref") => `(tactic| (k_here; (with_reducible show wpAny _ _ (call (Value.ref 34) _ _) _ _ _); exfalso; omega))
local macro_rules | `(tactic| walk_at "call ref") => `(tactic| (k_here; (with_reducible show wpAny _ _ (call (Value.ref 360) [Value.str _ _, Value.int _ _, Value.int _ _]) _ _ _); ((k_dflt (refine' (c_exch _ _ _ _ _ _ _ _ _ _ _ _ _ _ _ _ _ _ _ _ _ _ _ _) ?k1 ?k2 ?k3 ?k4 ?k5 ?kK ?kp ?kd ?ku ?_; (case k1 => k_asm); (case k2 => k_asm); (case k3 => k_asm); (case k4 => k_asm); (case k5 => k_asm); (case kK => first | exact rfl | assumption); (case kp => (((try (have hb9 := Down.bounds (by assumption); obtain ⟨hb91, hb92, hb93⟩ := hb9)))); (try simp only [decide_eq_true_eq, decide_eq_false_iff_not] at *); first | exact True.intro | fail "none" | assumption | omega | (refine ⟨?_, ?_⟩ <;> first | assumption | omega) | (refine ⟨?_, ?_, ?_⟩ <;> first | assumption | omega) | (refine ⟨?_, ?_, ?_, ?_⟩ <;> first | assumption | omega) | (refine ⟨?_, ?_, ?_, ?_, ?_⟩ <;> first | assumption | omega)); (case kd => ktr_room); (case ku => ktr_units)); intro x9 t9 h9 tk9 P9 F9 N9; (try dsimp only at P9); (try obtain ⟨P9, P9b⟩ := P9); (try obtain ⟨P9b, P9c⟩ := P9b); (try subst P9); (try dsimp only); (try k_fold)))))
local macro_rules | `(tactic| walk_at "call ref") => `(tactic| (k_here; (with_reducible show wpAny _ _ (call (Value.ref 346) [Value.str _ _, Value.int _ _, Value.int _ _]) _ _ _); ((k_dflt (refine' (c_less _ _ _ _ _ _ _ _ _ _ _ _ _ _ _ _ _ _ _ _ _ _ _ _) ?k1 ?k2 ?k3 ?k4 ?k5 ?kK ?kp ?kd ?ku ?_; (case k1 => k_asm); (case k2 => k_asm); (case k3 => k_asm); (case k4 => k_asm); (case k5 => k_asm); (case kK => first | exact rfl | assumption); (case kp => (((try (have hb9 := Down.bounds (by assumption); obtain ⟨hb91, hb92, hb93⟩ := hb9)))); (try simp only [decide_eq_true_eq, decide_eq_false_iff_not] at *); first | exact True.intro | fail "none" | assumption | omega | (refine ⟨?_, ?_⟩ <;> first | assumption | omega) | (refine ⟨?_, ?_, ?_⟩ <;> first | assumption | omega) | (refine ⟨?_, ?_, ?_, ?_⟩ <;> first | assumption | omega) | (refine ⟨?_, ?_, ?_, ?_, ?_⟩ <;> first | assumption | omega)); (case kd => ktr_room); (case ku => ktr_units)); intro x9 t9 h9 tk9 P9 F9 N9; (try dsimp only at P9); (try obtain ⟨P9, P9b⟩ := P9); (try obtain ⟨P9b, P9c⟩ := P9b); (try subst P9); (try dsimp only); (try k_fold)))))
local macro_rules | `(tactic| walk_at "KswEnd") => `(tactic| ((rename News _ _ _ _ => nE'); (refine ksw_end ⟨_, _, _, _⟩ (by assumption) nE' (by first | exact mem1 | exact mem0 | exact mem2) (by kst_facts) (by kst_all) (by ksw_same) (by kst_p) (by ksw_less))))
local macro_rules | `(tactic| ksw_less) => `(tactic| ((try dsimp only); have hb9 := Down.bounds (by assumption); omega))
structure BMark : Prop where
local macro_rules | `(tactic| walk_at "call builtin:len") => `(tactic| (k_here; (fail_if_success (have hx9 : Mine.BMark := by assumption)); (have hm9 : Mine.BMark := Mine.BMark.mk); (have hb9 := Down.bounds (by assumption)); (obtain ⟨hb91, hb92, hb93⟩ := hb9); walk1))
section
variable {w : World} {mean : ExcName → Option Value} {mg mb : Str → Option Value} 
theorem c_down (news : List (Addr × Obj)) (t : Str) (tt : Tok) (a : Int) (ta : Tok) : Gives w mean mg mb 374 50 news (Down t t a a) [.str t tt, .int a ta] (fun (x : Str) tk => .str x tk) (fun x => x.length = t.length ∧ (toL x).Perm (toL t) ∧ HeapFrom a x) := by
  (k_with_none; w_top off; (refine Mine.fill ?_; dsimp only [Mine.Gives, Mine.GivesN]; k_fill; refine ⟨rfl, ?_⟩; intros)); rename_i hpre _ _ hret
  k_with "exec While Compare cons nil" => k_while (fun _ text at' => Down t text a at') (fun _ text at' => text.length - at'.toNat) "text" "at"
  k_with "state" => first | assumption | exact Down.turn1 (by assumption) (by assumption) (by assumption) (by assumption) | exact Down.turn2 (by assumption) (by assumption) (by assumption) (by assumption) | exact Down.turn3 (by assumption) (by assumption) (by assumption) (by assumption)
  ((refine wpAny_call ?_; k_dflt cell_enter; k_steps))
  all_goals (try (first | exact hret _ _ _ _ (Down.end0 (by assumption) (by assumption)) (by k_asm) (by (first | k_asm | exact Mine.drop_news (by assumption) Mine.mem1 | exact Mine.drop_news (by assumption) Mine.mem2 | exact Mine.drop_news (by assumption) Mine.mem3 | exact Mine.drop_news (by assumption) Mine.mem4 | (refine' Mine.drop_news ?cbN ?cbS; (case cbN => assumption); (case cbS => kcj_all)))) | exact hret _ _ _ _ (Down.end1 (by assumption) (by assumption) (by assumption)) (by k_asm) (by (first | k_asm | exact Mine.drop_news (by assumption) Mine.mem1 | exact Mine.drop_news (by assumption) Mine.mem2 | exact Mine.drop_news (by assumption) Mine.mem3 | exact Mine.drop_news (by assumption) Mine.mem4 | (refine' Mine.drop_news ?cbN ?cbS; (case cbN => assumption); (case cbS => kcj_all)))) | exact hret _ _ _ _ (Down.end2 (by assumption) (by assumption) (by assumption)) (by k_asm) (by (first | k_asm | exact Mine.drop_news (by assumption) Mine.mem1 | exact Mine.drop_news (by assumption) Mine.mem2 | exact Mine.drop_news (by assumption) Mine.mem3 | exact Mine.drop_news (by assumption) Mine.mem4 | (refine' Mine.drop_news ?cbN ?cbS; (case cbN => assumption); (case cbS => kcj_all)))) | exact hret _ _ _ _ (Down.end3 (by assumption) (by assumption) (by assumption)) (by k_asm) (by (first | k_asm | exact Mine.drop_news (by assumption) Mine.mem1 | exact Mine.drop_news (by assumption) Mine.mem2 | exact Mine.drop_news (by assumption) Mine.mem3 | exact Mine.drop_news (by assumption) Mine.mem4 | (refine' Mine.drop_news ?cbN ?cbS; (case cbN => assumption); (case cbS => kcj_all))))))
end
end

section
open PySem PySem.W PySem.Spec PyProof.Rows
local macro_rules | `(tactic| walk_at "idle0") => `(tactic| fail)
local macro_rules | `(tactic| walk_at "idle1") => `(tactic| fail)
local macro_rules | `(tactic| walk_at "idle2") => `(tactic| fail)
local macro_rules | `(tactic| walk_at "idle3") => `(tactic| fail)
local macro_rules | `(tactic| walk_at "idle4") => `(tactic| fail)
local macro_rules | `(tactic| walk_at "idle5") => `(tactic| fail)
local macro_rules | `(tactic| k_room) => `(tactic| ktr_room)
local macro_rules | `(tactic| k_units) => `(tactic| ktr_units)
local macro_rules | `(tactic| walk_at "call ref") => `(tactic| (k_here; (with_reducible show wpAny _ _ (call (Value.ref 34) _ _) _ _ _); exfalso; omega))
local macro_rules | `(tactic| walk_at "call ref") => `(tactic| (k_here; (with_reducible show wpAny _ _ (call (Value.ref 311) [Value.none, Value.ref _]) _ _ _); ((k_dflt (refine' (c_left _ _ _ _ _ _ _ _ _ _ _ _ _ _ _ _ _ _ _ _ _ _ _) ?k1 ?k2 ?k3 ?k4 ?k5 ?kK ?kp ?kd ?ku ?_; (case k1 => k_asm); (case k2 => k_asm); (case k3 => k_asm); (case k4 => k_asm); (case k5 => k_asm); (case kK => first | exact rfl | assumption); (case kp => skip; (try simp only [decide_eq_true_eq, decide_eq_false_iff_not] at *); first | exact True.intro | (with_reducible first | (refine taken_put ?_ ?_ ?_ <;> assumption) | (refine taken_down ?_ ?_ ?_ ?_ <;> assumption)) | assumption | omega | (refine ⟨?_, ?_⟩ <;> first | assumption | omega) | (refine ⟨?_, ?_, ?_⟩ <;> first | assumption | omega) | (refine ⟨?_, ?_, ?_, ?_⟩ <;> first | assumption | omega) | (refine ⟨?_, ?_, ?_, ?_, ?_⟩ <;> first | assumption | omega)); (case kd => ktr_room); (case ku => ktr_units)); intro x9 t9 h9 tk9 P9 F9 N9; (try dsimp only at P9); (try obtain ⟨P9, P9b⟩ := P9); (try obtain ⟨P9b, P9c⟩ := P9b); (try subst P9); (try dsimp only); (try k_fold)))))
local macro_rules | `(tactic| walk_at "call ref") => `(tactic| (k_here; (with_reducible show wpAny _ _ (call (Value.ref 339) [Value.str _ _, Value.int _ _]) _ _ _); ((k_dflt (refine' (c_sign _ _ _ _ _ _ _ _ _ _ _ _ _ _ _ _ _ _ _ _ _ _) ?k1 ?k2 ?k3 ?k4 ?k5 ?kK ?kp ?kd ?ku ?_; (case k1 => k_asm); (case k2 => k_asm); (case k3 => k_asm); (case k4 => k_asm); (case k5 => k_asm); (case kK => first | exact rfl | assumption); (case kp => skip; (try simp only [decide_eq_true_eq, decide_eq_false_iff_not] at *); first | exact True.intro | (with_reducible first | (refine taken_put ?_ ?_ ?_ <;> assumption) | (refine taken_down ?_ ?_ ?_ ?_ <;> assumption)) | assumption | omega | (refine ⟨?_, ?_⟩ <;> first | assumption | omega) | (refine ⟨?_, ?_, ?_⟩ <;> first | assumption | omega) | (refine ⟨?_, ?_, ?_, ?_⟩ <;> first | assumption | omega) | (refine ⟨?_, ?_, ?_, ?_, ?_⟩ <;> first | assumption | omega)); (case kd => ktr_room); (case ku => ktr_units)); intro x9 t9 h9 tk9 P9 F9 N9; (try dsimp only at P9); (try obtain ⟨P9, P9b⟩ := P9); (try obtain ⟨P9b, P9c⟩ := P9b); (try subst P9); (try dsimp only); (try k_fold)))))
local macro_rules | `(tactic| walk_at "call ref") => `(tactic| (k_here; (with_reducible show wpAny _ _ (call (Value.ref 353) [Value.str _ _, Value.int _ _, Value.str _ _]) _ _ _); ((k_dflt (refine' (c_put _ _ _ _ _ _ _ _ _ _ _ _ _ _ _ _ _ _ _ _ _ _ _ _) ?k1 ?k2 ?k3 ?k4 ?k5 ?kK ?kp ?kd ?ku ?_; (case k1 => k_asm); (case k2 => k_asm); (case k3 => k_asm); (case k4 => k_asm); (case k5 => k_asm); (case kK => first | exact rfl | assumption); (case kp => skip; (try simp only [decide_eq_true_eq, decide_eq_false_iff_not] at *); first | exact True.intro | (with_reducible first | (refine taken_put ?_ ?_ ?_ <;> assumption) | (refine taken_down ?_ ?_ ?_ ?_ <;> assumption)) | assumption | omega | (refine ⟨?_, ?_⟩ <;> first | assumption | omega) | (refine ⟨?_, ?_, ?_⟩ <;> first | assumption | omega) | (refine ⟨?_, ?_, ?_, ?_⟩ <;> first | assumption | omega) | (refine ⟨?_, ?_, ?_, ?_, ?_⟩ <;> first | assumption | omega)); (case kd => ktr_room); (case ku => ktr_units)); intro x9 t9 h9 tk9 P9 F9 N9; (try dsimp only at P9); (try obtain ⟨P9, P9b⟩ := P9); (try obtain ⟨P9b, P9c⟩ := P9b); (try subst P9); (try dsimp only); (try k_fold)))))
local macro_rules | `(tactic| walk_at "call ref") => `(tactic| (k_here; (with_reducible show wpAny _ _ (call (Value.ref 374) [Value.str _ _, Value.int _ _]) _ _ _); ((k_dflt (refine' (c_down _ _ _ _ _ _ _ _ _ _ _ _ _ _ _ _ _ _ _ _ _ _) ?k1 ?k2 ?k3 ?k4 ?k5 ?kK ?kp ?kd ?ku ?_; (case k1 => k_asm); (case k2 => k_asm); (case k3 => k_asm); (case k4 => k_asm); (case k5 => k_asm); (case kK => first | exact rfl | assumption); (case kp => skip; (try simp only [decide_eq_true_eq, decide_eq_false_iff_not] at *); first | exact True.intro | (with_reducible first | (refine taken_put ?_ ?_ ?_ <;> assumption) | (refine taken_down ?_ ?_ ?_ ?_ <;> assumption)) | assumption | omega | (refine ⟨?_, ?_⟩ <;> first | assumption | omega) | (refine ⟨?_, ?_, ?_⟩ <;> first | assumption | omega) | (refine ⟨?_, ?_, ?_, ?_⟩ <;> first | assumption | omega) | (refine ⟨?_, ?_, ?_, ?_, ?_⟩ <;> first | assumption | omega)); (case kd => ktr_room); (case ku => ktr_units)); intro x9 t9 h9 tk9 P9 F9 N9; (try dsimp only at P9); (try obtain ⟨P9, P9b⟩ := P9); (try obtain ⟨P9b, P9c⟩ := P9b); (try subst P9); (try dsimp only); (try k_fold)))))
section
variable {w : World} {mean : ExcName → Option Value} {mg mb : Str → Option Value} 
theorem c_taken (news : List (Addr × Obj)) (t : Str) (tt : Tok) : Gives w mean mg mb 386 60 news (1 ≤ t.length ∧ t.length ≤ 100 ∧ HeapFrom 1 t) [.str t tt] (fun (x : Str) tk => .str x tk) (fun x => x.length + 1 = t.length ∧ (toL x ++ [keyAt t 1]).Perm (toL t) ∧ HeapFrom 1 x) := by
  (k_with_none; w_top off; (refine Mine.fill ?_; dsimp only [Mine.Gives, Mine.GivesN]; k_fill; refine ⟨rfl, ?_⟩; intros)); rename_i hpre _ _ hret; obtain ⟨hp1, hp2, hp3⟩ := hpre; ((refine wpAny_call ?_; k_dflt cell_enter; k_steps))
  · exact hret _ _ _ _ (taken_end hp1 hp2 (by with_reducible assumption) (by with_reducible assumption) (by with_reducible assumption) (by with_reducible assumption)) (by k_asm) (by (first | k_asm | exact Mine.drop_news (by assumption) Mine.mem1 | exact Mine.drop_news (by assumption) Mine.mem2 | exact Mine.drop_news (by assumption) Mine.mem3 | exact Mine.drop_news (by assumption) Mine.mem4 | (refine' Mine.drop_news ?cbN ?cbS; (case cbN => assumption); (case cbS => kcj_all))))
  · exact hret (Str.ofString "") _ _ _ (taken_end0 hp1 hp2 (by with_reducible assumption)) (by k_asm) (by (first | k_asm | exact Mine.drop_news (by assumption) Mine.mem1 | exact Mine.drop_news (by assumption) Mine.mem2 | exact Mine.drop_news (by assumption) Mine.mem3 | exact Mine.drop_news (by assumption) Mine.mem4 | (refine' Mine.drop_news ?cbN ?cbS; (case cbN => assumption); (case cbS => kcj_all))))
end
end

section
open PySem PySem.W PySem.Spec PyProof.Rows
local macro_rules | `(tactic| walk_at "idle0") => `(tactic| fail)
local macro_rules | `(tactic| walk_at "idle1") => `(tactic| fail)
local macro_rules | `(tactic| k_room) => `(tactic| ktr_room)
local macro_rules | `(tactic| k_units) => `(tactic| ktr_units)
local macro_rules | `(tactic| walk_at "call ref") => `(tactic| (k_here; (with_reducible show wpAny _ _ (call (Value.ref 34) _ _) _ _ _); exfalso; omega))
local macro_rules | `(tactic| news_mem) => `(tactic| (k_dflt exact List.Mem.tail _ (by assumption)))
local macro_rules | `(tactic| k_all) => `(tactic| (with_reducible assumption))
theorem draw_end1 {a below : Int} (h3 : 1 ≤ below) : 0 ≤ Int.fmod a below ∧ Int.fmod a below < below := by
  rw [Int.fmod_eq_emod_of_nonneg _ (by omega)]
  exact ⟨Int.emod_nonneg _ (by omega), Int.emod_lt_of_pos _ (by omega)⟩
section
variable {w : World} {mean : ExcName → Option Value} {mg mb : Str → Option Value} 
theorem c_draw (rest : List (Addr × Obj)) (bag sl : Addr) (vs : List Value) (ns : List Int) (n n2 : Nat) (spot : Int) (ts : Tok) (below : Int) (tb : Tok) (hI : IntsAre vs ns) (hm : (sl, listOf vs.toArray n2) ∈ rest) (hoff : ∀ p ∈ rest, p.1 ≠ bag) :
    GivesN w mean mg mb 332 20 ((bag, listOf #[.ref sl, .int spot ts] n) :: rest) (0 ≤ spot ∧ spot ≤ 100 ∧ 1 ≤ below ∧ below ≤ 5 ∧ ns.length ≤ 19) [.ref bag, .int below tb] (fun (x : Int × Tok) tk => .int x.1 tk) (fun x => 0 ≤ x.1 ∧ x.1 < below)
      (fun x => (bag, listOf #[.ref sl, .int (spot + 1) x.2] n) :: rest) := by
  (k_with_none; w_top off; (refine Mine.fill ?_; dsimp only [Mine.Gives, Mine.GivesN]; k_fill; refine ⟨rfl, ?_⟩; intros)); rename_i hpre _ _ hret; obtain ⟨hp1, hp2, hp3, hp4, hp5⟩ := hpre; ((refine wpAny_call ?_; k_dflt cell_enter; k_steps))
  all_goals exact hret (_, _) _ _ _ (draw_end1 hp3) (by k_asm) (by k_asm)
end
end

section
open PySem PySem.W PySem.Spec PyProof.Rows
local macro_rules | `(tactic| walk_at "idle0") => `(tactic| fail)
local macro_rules | `(tactic| walk_at "idle1") => `(tactic| fail)
local macro_rules | `(tactic| walk_at "idle2") => `(tactic| fail)
local macro_rules | `(tactic| walk_at "idle3") => `(tactic| fail)
local macro_rules | `(tactic| walk_at "idle4") => `(tactic| fail)
local macro_rules | `(tactic| k_room) => `(tactic| ktr_room)
local macro_rules | `(tactic| k_units) => `(tactic| ktr_units)
local macro_rules | `(tactic| walk_at "call ref") => `(tactic| (k_here; (with_reducible show wpAny _ _ (call (Value.ref 34) _ _) _ _ _); exfalso; omega))
local macro_rules | `(tactic| walk_at "call builtin:sorted") => `(tactic| (k_here; (with_reducible show wpAny _ _ (call (Value.builtin _) [Value.str _ _]) _ _ _); k_dflt (refine sorted_text (by k_asm) (by k_asm) (by rfl) (by omega) ?_); intro D9 h9 v9 ss9 e9 tk9 F9 N9 l9 S9 p9 o9; (try k_lt l9)))
local macro_rules | `(tactic| walk_at "call builtin:sorted") => `(tactic| (k_here; (with_reducible show wpAny _ _ (call (Value.builtin _) [Value.ref _]) _ _ _); k_dflt (refine sorted_list_as (by k_asm) (by k_asm) (News.isList (by assumption) (by repeat (first | assumption | apply List.Mem.tail))) (by assumption) (by omega) (List.Perm.trans (by assumption) (by assumption)) (by assumption) ?_); intro D9 h9 v9 e9 F9 N9 l9 S9; (try k_lt l9)))
local macro_rules | `(tactic| walk_at "compareOp Eq ref ref") => `(tactic| (k_here; (with_reducible show wpAny _ _ (compareOp CmpOp.Eq (Value.ref _) (Value.ref _)) _ _ _); k_dflt (refine eq_strs (News.isList (by assumption) (.tail _ (.head _))) (News.isList (by assumption) (.head _)) (by with_reducible assumption) (by with_reducible assumption) (signs_ok (by with_reducible assumption) (by with_reducible assumption)) (by ktr_units) ?_)))
local macro_rules | `(tactic| walk_at "CompEnd") => `(tactic| (k_dflt (refine LCg.CompEnd.intro (by assumption) (by assumption) _ (fun _ h => h) (by assumption) (by exact True.intro) ?_)))
local macro_rules | `(tactic| walk_at "CompEnd") => `(tactic| (exfalso; refine heap_no (by assumption) (by assumption) (by assumption) (by assumption) (by assumption)))
local macro_rules | `(tactic| walk_at "call builtin:sorted") => `(tactic| (k_here; (with_reducible show wpAny _ _ (call (Value.builtin _) [Value.str _ _]) _ _ _); k_dflt (refine sorted_text_as (by k_asm) (by k_asm) (by rfl) (by omega) (by with_reducible assumption) (by with_reducible assumption) (by with_reducible assumption) ?_); intro D9 h9 v9 e9 tk9 F9 N9 l9 S9; (try k_lt l9)))
section
variable {w : World} {mean : ExcName → Option Value} {mg mb : Str → Option Value} 
theorem c_is_heap (news : List (Addr × Obj)) (t : Str) (tt : Tok) (sg : Addr) (vs : List Value) (ss : List Str) (n : Nat) (hS : StrsAre vs ss) (hm : (sg, listOf vs.toArray n) ∈ news) : Gives w mean mg mb 379 30 news (t.length ≤ 50 ∧ ss.length ≤ 50 ∧ (signs t).Perm ss ∧ (∀ c ∈ toL t, c < 128) ∧ HeapFrom 1 t) [.str t tt, .ref sg] (fun (_ : Unit) _ => .bool true) (fun _ => True) := by
  (k_with_none; w_top off; (refine Mine.fill ?_; dsimp only [Mine.Gives, Mine.GivesN]; k_fill; refine ⟨rfl, ?_⟩; intros)); rename_i hpre _ _ hret; obtain ⟨hp1, hp2, hp3, hp4, hp5⟩ := hpre
  ((refine wpAny_call ?_; k_dflt (refine' code_defC ?k1 ?k2 ?k3 ?k4 ?k5 ?kA ?kF ?kK ?k6 ?k7 ?k8 ?k9 ?kB ?kD ?_ ?c2 ?c3 ?c4; (case kA => exact rfl); (case kF => exact rfl); (case kK => assumption); (case k1 => k_asm); (case k2 => k_asm); (case k3 => k_asm); (case k4 => k_asm); (case k5 => k_asm); (case k6 => k_is); (case k7 => k_is); (case k8 => ktr_room); (case k9 => exact BindsTo.of_eq rfl); (case kB => exact rfl); (case kD => decide +kernel); (case c2 => exact rfl); (case c3 => exact rfl); (case c4 => exact rfl); k_whole; intro g' L' h' tk' cells' FG' F' N' Y' B' X' T' l1; (try k_lt l1); k_cells Y'; (try simp only [List.cons_append, List.nil_append] at N'); (try dsimp only); (try k_lift B'); (try k_fold))))
  k_steps
  all_goals exact ret_eq (hret () 0 _ _ trivial (by k_asm) (by (first | k_asm | exact Mine.drop_news (by assumption) Mine.mem1 | exact Mine.drop_news (by assumption) Mine.mem2 | exact Mine.drop_news (by assumption) Mine.mem3 | exact Mine.drop_news (by assumption) Mine.mem4 | (refine' Mine.drop_news ?cbN ?cbS; (case cbN => assumption); (case cbS => kcj_all))))) (heap_end (fun a k => by first | rfl | exact ite_self _ | (split <;> rfl)) _)
theorem c_is_heapS (news : List (Addr × Obj)) (t : Str) (tt : Tok) (r : Str) (tr : Tok) : Gives w mean mg mb 379 30 news (t.length ≤ 50 ∧ r.length ≤ 50 ∧ (signs t).Perm (signs r) ∧ (∀ c ∈ toL t, c < 128) ∧ HeapFrom 1 t) [.str t tt, .str r tr] (fun (_ : Unit) _ => .bool true) (fun _ => True) := by
  (k_with_none; w_top off; (refine Mine.fill ?_; dsimp only [Mine.Gives, Mine.GivesN]; k_fill; refine ⟨rfl, ?_⟩; intros)); rename_i hpre _ _ hret; obtain ⟨hp1, hp2, hp3, hp4, hp5⟩ := hpre
  ((refine wpAny_call ?_; k_dflt (refine' code_defC ?k1 ?k2 ?k3 ?k4 ?k5 ?kA ?kF ?kK ?k6 ?k7 ?k8 ?k9 ?kB ?kD ?_ ?c2 ?c3 ?c4; (case kA => exact rfl); (case kF => exact rfl); (case kK => assumption); (case k1 => k_asm); (case k2 => k_asm); (case k3 => k_asm); (case k4 => k_asm); (case k5 => k_asm); (case k6 => k_is); (case k7 => k_is); (case k8 => ktr_room); (case k9 => exact BindsTo.of_eq rfl); (case kB => exact rfl); (case kD => decide +kernel); (case c2 => exact rfl); (case c3 => exact rfl); (case c4 => exact rfl); k_whole; intro g' L' h' tk' cells' FG' F' N' Y' B' X' T' l1; (try k_lt l1); k_cells Y'; (try simp only [List.cons_append, List.nil_append] at N'); (try dsimp only); (try k_lift B'); (try k_fold))))
  k_steps
  all_goals exact ret_eq (hret () 0 _ _ trivial (by k_asm) (by (first | k_asm | exact Mine.drop_news (by assumption) Mine.mem1 | exact Mine.drop_news (by assumption) Mine.mem2 | exact Mine.drop_news (by assumption) Mine.mem3 | exact Mine.drop_news (by assumption) Mine.mem4 | (refine' Mine.drop_news ?cbN ?cbS; (case cbN => assumption); (case cbS => kcj_all))))) (heap_end (fun a k => by first | rfl | exact ite_self _ | (split <;> rfl)) _)
end
end

section
open PySem PySem.W PySem.Spec PyProof.Rows
local macro_rules | `(tactic| k_room) => `(tactic| ktr_room)
local macro_rules | `(tactic| k_units) => `(tactic| ktr_units)
local macro_rules | `(tactic| walk_at "call ref") => `(tactic| (k_here; (with_reducible show wpAny _ _ (call (Value.ref 34) _ _) _ _ _); exfalso; omega))
local macro_rules | `(tactic| walk_at "call ref") => `(tactic| (k_here; (with_reducible show wpAny _ _ (call (Value.ref 325) [Value.str _ _, Value.str _ _]) _ _ _); ((k_dflt (refine' (c_joined _ _ _ _ _ _ _ _ _ _ _ _ _ _ _ _ _ _ _ _ _ _) ?k1 ?k2 ?k3 ?k4 ?k5 ?kK ?kp ?kd ?ku ?_; (case k1 => k_asm); (case k2 => k_asm); (case k3 => k_asm); (case k4 => k_asm); (case k5 => k_asm); (case kK => first | exact rfl | assumption); (case kp => ((try (have q9 := Heap'.some (by with_reducible assumption) (some_sign (by with_reducible assumption))))); (try simp only [decide_eq_true_eq, decide_eq_false_iff_not] at *); first | exact True.intro | (first | exact down3 (by with_reducible assumption) | exact down2 (by with_reducible assumption) (by with_reducible assumption) (by with_reducible assumption) | exact down1 (by with_reducible assumption) (by with_reducible assumption) (by with_reducible assumption) (by with_reducible assumption) | exact Heap'.up (by assumption) (by omega) | exact ⟨by omega, by omega, Heap'.heap (by assumption)⟩) | assumption | omega | (refine ⟨?_, ?_⟩ <;> first | assumption | omega) | (refine ⟨?_, ?_, ?_⟩ <;> first | assumption | omega) | (refine ⟨?_, ?_, ?_, ?_⟩ <;> first | assumption | omega) | (refine ⟨?_, ?_, ?_, ?_, ?_⟩ <;> first | assumption | omega)); (case kd => ktr_room); (case ku => ktr_units)); intro x9 t9 h9 tk9 P9 F9 N9; (try dsimp only at P9); (try obtain ⟨P9, P9b⟩ := P9); (try obtain ⟨P9b, P9c⟩ := P9b); (try subst P9); (try dsimp only); (try k_fold)))))
local macro_rules | `(tactic| walk_at "call ref") => `(tactic| (k_here; (with_reducible show wpAny _ _ (call (Value.ref 339) [Value.str _ _, Value.int _ _]) _ _ _); ((k_dflt (refine' (c_sign _ _ _ _ _ _ _ _ _ _ _ _ _ _ _ _ _ _ _ _ _ _) ?k1 ?k2 ?k3 ?k4 ?k5 ?kK ?kp ?kd ?ku ?_; (case k1 => k_asm); (case k2 => k_asm); (case k3 => k_asm); (case k4 => k_asm); (case k5 => k_asm); (case kK => first | exact rfl | assumption); (case kp => ((try (have q9 := Heap'.some (by with_reducible assumption) (some_sign (by with_reducible assumption))))); (try simp only [decide_eq_true_eq, decide_eq_false_iff_not] at *); first | exact True.intro | (first | exact down3 (by with_reducible assumption) | exact down2 (by with_reducible assumption) (by with_reducible assumption) (by with_reducible assumption) | exact down1 (by with_reducible assumption) (by with_reducible assumption) (by with_reducible assumption) (by with_reducible assumption) | exact Heap'.up (by assumption) (by omega) | exact ⟨by omega, by omega, Heap'.heap (by assumption)⟩) | assumption | omega | (refine ⟨?_, ?_⟩ <;> first | assumption | omega) | (refine ⟨?_, ?_, ?_⟩ <;> first | assumption | omega) | (refine ⟨?_, ?_, ?_, ?_⟩ <;> first | assumption | omega) | (refine ⟨?_, ?_, ?_, ?_, ?_⟩ <;> first | assumption | omega)); (case kd => ktr_room); (case ku => ktr_units)); intro x9 t9 h9 tk9 P9 F9 N9; (try dsimp only at P9); (try obtain ⟨P9, P9b⟩ := P9); (try obtain ⟨P9b, P9c⟩ := P9b); (try subst P9); (try dsimp only); (try k_fold)))))
local macro_rules | `(tactic| walk_at "call ref") => `(tactic| (k_here; (with_reducible show wpAny _ _ (call (Value.ref 367) [Value.str _ _, Value.int _ _]) _ _ _); ((k_dflt (refine' (c_up _ _ _ _ _ _ _ _ _ _ _ _ _ _ _ _ _ _ _ _ _ _) ?k1 ?k2 ?k3 ?k4 ?k5 ?kK ?kp ?kd ?ku ?_; (case k1 => k_asm); (case k2 => k_asm); (case k3 => k_asm); (case k4 => k_asm); (case k5 => k_asm); (case kK => first | exact rfl | assumption); (case kp => ((try (have q9 := Heap'.some (by with_reducible assumption) (some_sign (by with_reducible assumption))))); (try simp only [decide_eq_true_eq, decide_eq_false_iff_not] at *); first | exact True.intro | (first | exact down3 (by with_reducible assumption) | exact down2 (by with_reducible assumption) (by with_reducible assumption) (by with_reducible assumption) | exact down1 (by with_reducible assumption) (by with_reducible assumption) (by with_reducible assumption) (by with_reducible assumption) | exact Heap'.up (by assumption) (by omega) | exact ⟨by omega, by omega, Heap'.heap (by assumption)⟩) | assumption | omega | (refine ⟨?_, ?_⟩ <;> first | assumption | omega) | (refine ⟨?_, ?_, ?_⟩ <;> first | assumption | omega) | (refine ⟨?_, ?_, ?_, ?_⟩ <;> first | assumption | omega) | (refine ⟨?_, ?_, ?_, ?_, ?_⟩ <;> first | assumption | omega)); (case kd => ktr_room); (case ku => ktr_units)); intro x9 t9 h9 tk9 P9 F9 N9; (try dsimp only at P9); (try obtain ⟨P9, P9b⟩ := P9); (try obtain ⟨P9b, P9c⟩ := P9b); (try subst P9); (try dsimp only); (try k_fold)))))
local macro_rules | `(tactic| walk_at "call ref") => `(tactic| (k_here; (with_reducible show wpAny _ _ (call (Value.ref 386) [Value.str _ _]) _ _ _); ((k_dflt (refine' (c_taken _ _ _ _ _ _ _ _ _ _ _ _ _ _ _ _ _ _ _ _) ?k1 ?k2 ?k3 ?k4 ?k5 ?kK ?kp ?kd ?ku ?_; (case k1 => k_asm); (case k2 => k_asm); (case k3 => k_asm); (case k4 => k_asm); (case k5 => k_asm); (case kK => first | exact rfl | assumption); (case kp => ((try (have q9 := Heap'.some (by with_reducible assumption) (some_sign (by with_reducible assumption))))); (try simp only [decide_eq_true_eq, decide_eq_false_iff_not] at *); first | exact True.intro | (first | exact down3 (by with_reducible assumption) | exact down2 (by with_reducible assumption) (by with_reducible assumption) (by with_reducible assumption) | exact down1 (by with_reducible assumption) (by with_reducible assumption) (by with_reducible assumption) (by with_reducible assumption) | exact Heap'.up (by assumption) (by omega) | exact ⟨by omega, by omega, Heap'.heap (by assumption)⟩) | assumption | omega | (refine ⟨?_, ?_⟩ <;> first | assumption | omega) | (refine ⟨?_, ?_, ?_⟩ <;> first | assumption | omega) | (refine ⟨?_, ?_, ?_, ?_⟩ <;> first | assumption | omega) | (refine ⟨?_, ?_, ?_, ?_, ?_⟩ <;> first | assumption | omega)); (case kd => ktr_room); (case ku => ktr_units)); intro x9 t9 h9 tk9 P9 F9 N9; (try dsimp only at P9); (try obtain ⟨P9, P9b⟩ := P9); (try obtain ⟨P9b, P9c⟩ := P9b); (try subst P9); (try dsimp only); (try k_fold)))))
local macro_rules | `(tactic| walk_at "call ref") => `(tactic| (k_here; (with_reducible show wpAny _ _ (call (Value.ref 374) [Value.str _ _, Value.int _ _]) _ _ _); ((k_dflt (refine' (c_down _ _ _ _ _ _ _ _ _ _ _ _ _ _ _ _ _ _ _ _ _ _) ?k1 ?k2 ?k3 ?k4 ?k5 ?kK ?kp ?kd ?ku ?_; (case k1 => k_asm); (case k2 => k_asm); (case k3 => k_asm); (case k4 => k_asm); (case k5 => k_asm); (case kK => first | exact rfl | assumption); (case kp => ((try (have q9 := Heap'.some (by with_reducible assumption) (some_sign (by with_reducible assumption))))); (try simp only [decide_eq_true_eq, decide_eq_false_iff_not] at *); first | exact True.intro | (first | exact down3 (by with_reducible assumption) | exact down2 (by with_reducible assumption) (by with_reducible assumption) (by with_reducible assumption) | exact down1 (by with_reducible assumption) (by with_reducible assumption) (by with_reducible assumption) (by with_reducible assumption) | exact Heap'.up (by assumption) (by omega) | exact ⟨by omega, by omega, Heap'.heap (by assumption)⟩) | assumption | omega | (refine ⟨?_, ?_⟩ <;> first | assumption | omega) | (refine ⟨?_, ?_, ?_⟩ <;> first | assumption | omega) | (refine ⟨?_, ?_, ?_, ?_⟩ <;> first | assumption | omega) | (refine ⟨?_, ?_, ?_, ?_, ?_⟩ <;> first | assumption | omega)); (case kd => ktr_room); (case ku => ktr_units)); intro x9 t9 h9 tk9 P9 F9 N9; (try dsimp only at P9); (try obtain ⟨P9, P9b⟩ := P9); (try obtain ⟨P9b, P9c⟩ := P9b); (try subst P9); (try dsimp only); (try k_fold)))))
local macro_rules | `(tactic| walk_at "exec For Name Call cons nil") => `(tactic| (k_here; (with_reducible show wpAny _ _ (exec (Stmt.For (Expr.Name _ _) (Expr.Call _ [_] _ _) _ [] _) _) _ _ _); (rename Fr _ _ _ _ => lF'); (with_unfolding_all refine' For_invVF lF' ?k1 ?k2 ?_; (case k1 => exact rfl); (case k2 => exact rfl); k_whole)))
local macro_rules | `(tactic| walk_at "eval Name") => `(tactic| (k_here; (with_reducible show wpAny _ _ (eval (Expr.Name (Str.ofString "bag") _) (envOfC _ _ _ _ _)) _ _ _); k_dflt (refine' nameX_C ?kN ?kc ?km ?kd ?_ ?ka ?kb; (case ka => rfl); (case kb => rfl); (case kN => k_asm); (case kc => rfl); (case km => first | exact List.Mem.tail _ (List.Mem.tail _ (by assumption)) | exact List.Mem.tail _ (List.Mem.tail _ (List.Mem.tail _ (by assumption)))); (case kd => with_reducible assumption))))
local macro_rules | `(tactic| walk_at "eval Name") => `(tactic| (k_here; (with_reducible show wpAny _ _ (eval (Expr.Name (Str.ofString "_law_draw") _) (compEnvC _ _ _ _)) _ _ _); k_dflt (refine LCgL.ld_global (by k_asm) (by k_asm) (by k_asm) (by k_is) ?_)))
local macro_rules | `(tactic| walk_at "pyIter ref") => `(tactic| ((with_reducible show wpAny _ _ (pyIter (Value.ref _)) (fun it s₂ => LoopAtV _ _ _ _ _ _ _ _ _ it s₂) _ _); k_here; krs_unr))
/-- the ledger with what lies ahead of it dropped -/
local macro_rules | `(tactic| walk_at "call ref") => `(tactic| (k_here; (with_reducible show wpAny _ _ (call (Value.ref 332) _) _ _ _); k_dflt (refine' c_draw _ _ _ _ _ _ _ _ _ _ _ ?hI ?hm ?hoff _ _ _ _ _ _ _ _ _ _ _ _ _ _ _ _ _ ?k1 ?k2 ?k3 ?k4 ?k5 ?kK ?kp ?kd ?ku ?_; (case k4 => (first | with_reducible assumption | exact drop_news (by assumption) mem1 | exact drop_news (by assumption) mem2 | exact drop_news (by assumption) mem3)); (case hI => assumption); (case hm => exact List.Mem.tail _ (by assumption)); (case hoff => exact off_cons (by assumption) (by assumption)); (case k1 => k_asm); (case k2 => k_asm); (case k3 => k_asm); (case k5 => k_asm); (case kK => first | exact rfl | assumption); (case kp => refine ⟨by omega, by omega, by omega, by omega, by omega⟩); (case kd => ktr_room); (case ku => ktr_units)); intro x9 t9 h9 tk9 P9 F9 N9; (obtain ⟨x9, u9⟩ := x9); (try dsimp only at P9 N9); (obtain ⟨P9, P9b⟩ := P9); (try dsimp only); (try k_fold)))
local macro_rules | `(tactic| walk_at "call ref") => `(tactic| (k_here; (with_reducible show wpAny _ _ (call (Value.ref 332) _) _ _ _); k_dflt (refine' c_draw _ _ _ _ _ _ _ _ _ _ _ ?hI ?hm ?hoff _ _ _ _ _ _ _ _ _ _ _ _ _ _ _ _ _ ?k1 ?k2 ?k3 ?k4 ?k5 ?kK ?kp ?kd ?ku ?_; (case k4 => exact bag_first (by with_reducible assumption)); (case hI => assumption); (case hm => repeat (first | exact List.Mem.head _ | refine List.Mem.tail _ ?_)); (case hoff => exact off_comp3 (by with_reducible assumption) (off_cons (by with_reducible assumption) (by with_reducible assumption))); (case k1 => k_asm); (case k2 => k_asm); (case k3 => k_asm); (case k5 => k_asm); (case kK => first | exact rfl | assumption); (case kp => refine ⟨by omega, by omega, by omega, by omega, by omega⟩); (case kd => ktr_room); (case ku => ktr_units)); intro x9 t9 h9 tk9 P9 F9 N9; (obtain ⟨x9, u9⟩ := x9); (try dsimp only at P9 N9); (obtain ⟨P9, P9b⟩ := P9); (try dsimp only); (try k_fold)))
local macro_rules | `(tactic| walk_at "CompRest") => `(tactic| (with_unfolding_all first
  | (refine LCg.CompRest.succ ?_; intro v' I' oI' C' oC' D' m' h' tk' E' hv' hC' hx' F' N' off' ne'; (obtain ⟨t9', hv9'⟩ := hv'); subst hv9'; clear ne')
  | refine LCg.CompRest.zero ?_))
local macro_rules | `(tactic| walk_at "CompSrc") => `(tactic| (k_here; k_dflt (refine LCg.CompSrc.range (by rfl) (by k_asm) (by k_asm) (by assumption) (by first | decide | rfl) (by first | rfl | decide) (by first | size_fits | exact Nat.le_of_ble_eq_true rfl) ?_; intro g'; lcg_lit)))
local macro_rules | `(tactic| walk_at "CompEnd") => `(tactic| (k_dflt (refine comp_end (by assumption) (by assumption) (off_next (by with_reducible assumption)) True.intro (by assumption) (by assumption) ?_); intro q9))
local macro_rules | `(tactic| walk_at "call ref") => `(tactic| (k_here; (with_reducible show wpAny _ _ (call (Value.ref 379) _) _ _ _); k_dflt (refine' c_is_heap _ _ _ _ _ _ _ ?hS ?hm _ _ _ _ _ _ _ _ _ _ _ _ _ _ _ _ _ ?k1 ?k2 ?k3 ?k4 ?k5 ?kK ?kp ?kd ?ku ?_; (case k4 => k_asm); (case hm => k_mem); (case hS => assumption); (case k1 => k_asm); (case k2 => k_asm); (case k3 => k_asm); (case k5 => k_asm); (case kK => first | exact rfl | assumption); (case kp => first | exact Heap'.is (Heap'.put (by assumption) (by assumption) (by assumption) (by assumption) (by assumption)) (by omega) | exact Heap'.is (Heap'.taken (Heap'.mono (by assumption) (Nat.le_succ _)) (by assumption) (by assumption) (by assumption) (by assumption) (by assumption) (by assumption)) (by omega)); (case kd => ktr_room); (case ku => ktr_units)); intro x9 t9 h9 tk9 P9 F9 N9; (try dsimp only); (try k_fold)))
local macro_rules | `(tactic| walk_at "compareOp Eq ref ref") => `(tactic| (k_here; (with_reducible show wpAny _ _ (compareOp CmpOp.Eq (Value.ref _) (Value.ref _)) _ _ _); k_dflt (refine eq_none_strs (by assumption) (News.isList (by assumption) (by (first | exact List.Mem.tail _ (List.Mem.head _) | exact List.Mem.tail _ (List.Mem.tail _ (List.Mem.head _)) | exact List.Mem.tail _ (List.Mem.tail _ (List.Mem.tail _ (List.Mem.head _)))))) (.head _) (by assumption) (Heap'.ok (by assumption)) (by first | ktr_units | (simp only [units_deeper, units_caller]; decide)) ?_)))
local macro_rules | `(tactic| walk_at "compareOp NotEq ref ref") => `(tactic| (k_here; (with_reducible show wpAny _ _ (compareOp CmpOp.NotEq (Value.ref _) (Value.ref _)) _ _ _); k_dflt (refine ne_none_strs (by assumption) (News.isList (by assumption) (by (first | exact List.Mem.tail _ (List.Mem.head _) | exact List.Mem.tail _ (List.Mem.tail _ (List.Mem.head _)) | exact List.Mem.tail _ (List.Mem.tail _ (List.Mem.tail _ (List.Mem.head _)))))) (.head _) (by assumption) (Heap'.ok (by assumption)) (by first | ktr_units | (simp only [units_deeper, units_caller]; decide)) ?_); (have N7 := drop_news (by assumption) mem1)))
local macro_rules | `(tactic| walk_at "storeName") => `(tactic| (k_here; (with_reducible show wpAny _ _ (storeName _ _ (Value.str (Txt.item (Str.ofString "ABCDE") _) _)) _ _ _); k_dflt (refine store_sign (by assumption) (by assumption) ?_); intro q9 q9b))
local macro_rules | `(tactic| walk_at "call builtin:list.append") => `(tactic| (k_here; (with_reducible show wpAny _ _ (call (Value.builtin _) [Value.ref _, Value.str (sgn _) _]) _ _ _); k_dflt (refine append_sgn (by k_asm) (by (first | with_reducible assumption | exact drop_news (by assumption) mem1 | exact drop_news (by assumption) mem2 | exact drop_news (by assumption) mem3)) (by assumption) (by assumption) (by assumption) (by omega) ?_); intro h9 vs9 n9 F9 N9 S9))
local macro_rules | `(tactic| walk_at "call builtin:len") => `(tactic| (k_here; (with_reducible show wpAny _ _ (call (Value.builtin "len") [Value.ref _]) _ _ _); k_dflt (refine len_sgn (News.isList (by assumption) (by (first | exact List.Mem.tail _ (List.Mem.head _) | exact List.Mem.tail _ (List.Mem.tail _ (List.Mem.head _)) | exact List.Mem.tail _ (List.Mem.tail _ (List.Mem.tail _ (List.Mem.head _)))))) (by assumption) (by (try simp only [List.length_append, List.length_singleton]); omega) ?_)))
local macro_rules | `(tactic| walk_at "call builtin:max") => `(tactic| (k_here; (with_reducible show wpAny _ _ (call (Value.builtin _) [Value.ref _]) _ _ _); k_dflt (refine max_sgn (by rfl) (by k_asm) (by k_asm) (News.isList (by assumption) (by (first | exact List.Mem.tail _ (List.Mem.head _) | exact List.Mem.tail _ (List.Mem.tail _ (List.Mem.head _)) | exact List.Mem.tail _ (List.Mem.tail _ (List.Mem.tail _ (List.Mem.head _)))))) (by assumption) (some_sign (by assumption)) ?_); intro h9 M9 t9 tk9 F9 N9 m9 x9))
local macro_rules | `(tactic| walk_at "compareOp NotEq str str") => `(tactic| (k_here; (with_reducible show wpAny _ _ (compareOp CmpOp.NotEq (Value.str (signF _ _) _) (Value.str (sgn _) _)) _ _ _); k_dflt (refine ne_same (Heap'.same (by assumption) (by assumption) (by assumption)) ?_)))
local macro_rules | `(tactic| walk_at "call builtin:list.remove") => `(tactic| (k_here; (with_reducible show wpAny _ _ (call (Value.builtin _) [Value.ref _, Value.str (sgn _) _]) _ _ _); k_dflt (refine remove_sgn (by k_asm) (by (first | with_reducible assumption | exact drop_news (by assumption) mem1 | exact drop_news (by assumption) mem2 | exact drop_news (by assumption) mem3)) (by assumption) (by assumption) (by assumption) (by omega) (by assumption) ?_); intro h9 vs9 cs9 n9 F9 N9 S9 p9))
local macro_rules | `(tactic| walk_at "call ref") => `(tactic| (k_here; (with_reducible show wpAny _ _ (call (Value.ref 379) [Value.str _ _, Value.str _ _]) _ _ _); k_dflt (refine' c_is_heapS _ _ _ _ _ _ _ _ _ _ _ _ _ _ _ _ _ _ _ _ _ _ ?k1 ?k2 ?k3 ?k4 ?k5 ?kK ?kp ?kd ?ku ?_; (case k4 => k_asm); (case k1 => k_asm); (case k2 => k_asm); (case k3 => k_asm); (case k5 => k_asm); (case kK => first | exact rfl | assumption); (case kp => exact final_pre (by with_reducible assumption) (by with_reducible assumption) (by with_reducible assumption) (by with_reducible assumption) (by with_reducible assumption) (by with_reducible assumption)); (case kd => ktr_room); (case ku => ktr_units)); intro x9 t9 h9 tk9 P9 F9 N9; (try dsimp only); (try k_fold)))
local macro_rules | `(tactic| walk_at "call builtin:str.join") => `(tactic| (k_here; (with_reducible show wpAny _ _ (call (Value.builtin "str.join") [Value.str _ _, Value.ref _]) _ _ _); k_dflt (refine join7 (News.isList (by assumption) (.head _)) (by assumption) (by assumption) (by assumption) (by assumption) (by assumption) (by assumption) (by assumption) ?_); intro r9 t9 k9 q9 q9b; (try dsimp only)))
local macro_rules | `(tactic| walk_at "UnrEnd") => `(tactic| (k_dflt (refine UnrEnd.intro (by assumption) (by assumption) [] (fun p hp => by rw [List.mem_singleton.mp hp]; exact .head _) (fun p hp => nomatch hp) ?_)))
theorem law_holds : PySem.Challenge.rw_xm0066_01.Holds := by
  k_with_none; w_top off
  w_on
  refine holds_law (by kernel_rfl) fun said => ?_
  refine holds_open (q := VF) (loose := [Str.ofString "BasicError"]) (Xt := fun s => xlAt VF [] s && recOk (RowW.records PySem.Challenge.rw_xm0066_01.row.toRowW) s) (XP := XL VF []) (Yf := Hook.obs (kHook KF KA ka_eq)) (Ya := Hook.val (kHook KF KA ka_eq)) (YP := Hook.says (kHook KF KA ka_eq)) (N := 4020) left0 (Hook.of (kHook KF KA ka_eq)) (Hook.keeps (kHook KF KA ka_eq)) (fun s e => xl_of s (Bool.and_eq_true_iff.mp e).1) XL.keeps (by rfl) (by rfl) (by rfl) (fun s e => recFacts_of (Bool.and_eq_true_iff.mp e).2) (by rfl) (by assumption) (by decide +kernel) ⟨rfl, rfl, rfl, rfl, rfl, by decide +kernel⟩ ?hw ?hc
  case hw => w_witness2
  k_go0; (all_goals try k_fold)
  repeat ((fail_if_success (with_reducible show wpAny _ _ (pyIter _) _ _ _)); first | walk1 | (dsimp only; walk1))
  rename News _ _ _ _ => N0
  rename Fr _ _ _ _ => F0
  rename IsRange _ _ _ _ _ _ _ _ => R0
  rename ((_ : Nat) < _ ∧ (_ : Nat) < _ ∧ (_ : Nat) < _) => lsg
  rename ((_ : Nat) < _ ∧ (_ : Nat) < _) => lbg
  have lbs := Nat.ne_of_lt lsg.1
  k_dflt (refine loop6 _ ?hL rfl R0 F0 (news_start N0) (rest_off lbg lsg) rfl inv_start ?turn ?done)
  case hL => rfl
  case turn =>
    intro c j k tk0 u h tk rest' hj hsub hoff hinv F N
    have hsl := hsub _ (.head _)
    have hcl := hsub _ (.tail _ (.head _))
    have hob := fun p hp => (hoff p hp).1
    have hos := fun p hp => (hoff p hp).2
    clear hoff hsub N0 F0 R0
    obtain ⟨spot, ts, vs, n, cs, tx, tt⟩ := c
    obtain ⟨hsa, hH, hs0, hs1⟩ := hinv
    dsimp only [LedR] at hsa hH hs0 hs1 F N
    have hlen := hH.len
    have heq := hH.eq
    (try k_fold)
    k_steps
    all_goals (
      dsimp only [TurnPost]
      k_dflt (refine turn_end (by k_asm) (by first | with_reducible assumption | (first | with_reducible assumption | exact drop_news (by assumption) mem1 | exact drop_news (by assumption) mem2 | exact drop_news (by assumption) mem3)) rfl (by intro z h1 h2 h3; simp only [h1, h2, h3, if_false]) (by assumption) ?hp ?hq1 ?hq2)
      case hp => first | exact Heap'.put (by assumption) (by assumption) (by assumption) (by assumption) (by assumption) | exact Heap'.mono (Heap'.taken (Heap'.mono (by assumption) (Nat.le_succ _)) (by assumption) (by assumption) (by assumption) (by assumption) (by assumption) (by assumption)) (Nat.le_succ _)
      case hq1 => omega
      case hq2 => omega)
  case done =>
    intro c u h tk hinv F N
    clear N0 F0 R0
    have hob := off_bag N lbg lsg
    have hos := off_sg N lbg lsg
    obtain ⟨spot, ts, vs, n, cs, tx, tt⟩ := c
    obtain ⟨hsa, hH, hs0, hs1⟩ := hinv
    dsimp only [LedR] at hsa hH hs0 hs1 F N
    dsimp only
    repeat ((fail_if_success (with_reducible show wpAny _ _ (exec (Stmt.While _ _ _ _) _) _ _ _)); first | walk1 | (dsimp only; walk1))
    k_dflt (refine loopOut ⟨spot, ts, vs, n, cs, tx, tt⟩ F N rfl ⟨hsa, hH, hs0, hs1⟩ ?_)
    clear F N hsa hH hs0 hs1
    intro c h tk hinv F N
    obtain ⟨spot, ts, vs, n, cs, tx, tt⟩ := c
    obtain ⟨hsa, hH, hs0, hs1⟩ := hinv
    dsimp only [LedR] at hsa hH hs0 hs1 F N
    have hlen := hH.len
    have heq := hH.eq
    (try k_fold)
    k_steps
    all_goals (try (
      dsimp only [OutPost]
      k_dflt (refine out_end (by k_asm) (by first | with_reducible assumption | (first | with_reducible assumption | exact drop_news (by assumption) mem1 | exact drop_news (by assumption) mem2 | exact drop_news (by assumption) mem3)) rfl (by intro z h1; simp only [h1, if_false]) (by assumption) ?hp (by assumption) (by assumption) (perm_lt (by assumption)))
      case hp => exact Heap'.taken (Heap'.mono (by assumption) (Nat.le_succ _)) (by assumption) (by assumption) (by assumption) (by assumption) (by assumption) (by assumption)))
end
end Mine
theorem PySem.Challenge.cw_xm0066_01_holds : PySem.Challenge.rw_xm0066_01.Holds := by
  exact Mine.law_holds
