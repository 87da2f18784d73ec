import PyProof.Rows.All
import Wide.All
import OpenK.AllK
import Wide.FinOn
import Lean
import PySem.Challenge.RW_qz0095_02
open PySem PySem.W PyProof.Rows
set_option Elab.async false
set_option maxRecDepth 100000
set_option maxHeartbeats 8000000
namespace Mine
noncomputable def stm (n : Nat) : Stmt := (PySem.Challenge.pw_qz0095_02.main.body[n]?).getD default
noncomputable def sub (n k : Nat) : Stmt := match stm n with
  | .ClassDef _ _ _ b .. => (b[k]?).getD default
  | s => s
noncomputable def fo (s : Stmt) (q : Str) (g : Addr) (cl : List (Str × Addr)) (df kw dc md : Value) (an : Option Addr) (cd ct : Value) (bl : Addr) : Obj := match s with
  | .FunctionDef n a b _ _ _ sc _ _ _ => { cls := .type "function", data := .func { name := n, qualname := q, params := a, body := .stmts b, scope := sc, globals := g, closure := cl, defaults := df, kwdefaults := kw, doc := dc, pyModule := md, annotations := an, code := cd, closureTuple := ct, builtins := bl } }
  | _ => default
noncomputable def as39 : List Addr := nat_lit 2 :: nat_lit 3 :: nat_lit 15 :: nat_lit 22 :: nat_lit 24 :: nat_lit 25 :: nat_lit 27 :: nat_lit 28 :: nat_lit 29 :: nat_lit 30 :: nat_lit 31 :: nat_lit 32 :: nat_lit 35 :: nat_lit 42 :: nat_lit 44 :: nat_lit 45 :: nat_lit 47 :: nat_lit 48 :: nat_lit 49 :: nat_lit 50 :: nat_lit 51 :: nat_lit 54 :: nat_lit 55 :: nat_lit 56 :: nat_lit 58 :: nat_lit 59 :: nat_lit 61 :: nat_lit 62 :: nat_lit 63 :: nat_lit 65 :: nat_lit 66 :: nat_lit 68 :: nat_lit 69 :: nat_lit 70 :: nat_lit 72 :: nat_lit 73 :: nat_lit 75 :: nat_lit 76 :: nat_lit 77 :: nat_lit 79 :: nat_lit 80 :: nat_lit 82 :: nat_lit 83 :: nat_lit 84 :: nat_lit 86 :: nat_lit 87 :: nat_lit 89 :: nat_lit 90 :: nat_lit 91 :: nat_lit 93 :: nat_lit 94 :: nat_lit 96 :: nat_lit 97 :: nat_lit 98 :: nat_lit 100 :: nat_lit 101 :: nat_lit 103 :: nat_lit 104 :: nat_lit 105 :: nat_lit 107 :: nat_lit 108 :: nat_lit 110 :: nat_lit 111 :: nat_lit 112 :: nat_lit 114 :: nat_lit 115 :: nat_lit 117 :: nat_lit 118 :: nat_lit 119 :: nat_lit 121 :: nat_lit 122 :: nat_lit 124 :: nat_lit 125 :: nat_lit 126 :: nat_lit 128 :: nat_lit 129 :: nat_lit 131 :: nat_lit 132 :: nat_lit 133 :: nat_lit 135 :: nat_lit 136 :: nat_lit 138 :: nat_lit 139 :: nat_lit 140 :: nat_lit 142 :: nat_lit 143 :: nat_lit 145 :: nat_lit 146 :: nat_lit 147 :: nat_lit 149 :: nat_lit 150 :: nat_lit 152 :: nat_lit 153 :: nat_lit 154 :: nat_lit 156 :: nat_lit 157 :: nat_lit 159 :: nat_lit 160 :: nat_lit 161 :: nat_lit 163 :: nat_lit 164 :: nat_lit 166 :: nat_lit 167 :: nat_lit 168 :: nat_lit 170 :: nat_lit 171 :: nat_lit 173 :: nat_lit 174 :: nat_lit 175 :: nat_lit 177 :: nat_lit 178 :: nat_lit 180 :: nat_lit 181 :: nat_lit 182 :: nat_lit 184 :: nat_lit 185 :: nat_lit 187 :: nat_lit 188 :: nat_lit 189 :: nat_lit 191 :: nat_lit 192 :: nat_lit 194 :: nat_lit 195 :: nat_lit 196 :: nat_lit 198 :: nat_lit 199 :: nat_lit 201 :: nat_lit 202 :: nat_lit 203 :: nat_lit 205 :: nat_lit 206 :: nat_lit 208 :: nat_lit 209 :: nat_lit 210 :: nat_lit 212 :: nat_lit 213 :: nat_lit 215 :: nat_lit 216 :: nat_lit 217 :: nat_lit 219 :: nat_lit 220 :: nat_lit 222 :: nat_lit 223 :: nat_lit 224 :: nat_lit 227 :: nat_lit 228 :: nat_lit 229 :: nat_lit 232 :: nat_lit 233 :: nat_lit 234 :: nat_lit 236 :: nat_lit 237 :: nat_lit 239 :: nat_lit 240 :: nat_lit 241 :: nat_lit 243 :: nat_lit 244 :: nat_lit 246 :: nat_lit 247 :: nat_lit 248 :: nat_lit 250 :: nat_lit 251 :: nat_lit 253 :: nat_lit 254 :: nat_lit 255 :: nat_lit 257 :: nat_lit 258 :: nat_lit 260 :: nat_lit 261 :: nat_lit 262 :: nat_lit 264 :: nat_lit 265 :: nat_lit 267 :: nat_lit 268 :: nat_lit 269 :: nat_lit 272 :: nat_lit 273 :: nat_lit 274 :: nat_lit 277 :: nat_lit 278 :: nat_lit 279 :: nat_lit 282 :: nat_lit 283 :: nat_lit 284 :: nat_lit 287 :: nat_lit 288 :: []
noncomputable def hd.heap_39 (P : Params) : Frag :=
  (nat_lit 2, Obj.mk Value.none none (Data.dict #[DictEntry.mk (PyData.keyHash P (Str.ofString "type.__subclasses__.Exception.0")) (Value.str (Str.ofString "type.__subclasses__.Exception.0") 214) (Value.int 31 0), DictEntry.mk (PyData.keyHash P (Str.ofString "type.__subclasses__.Exception.n")) (Value.str (Str.ofString "type.__subclasses__.Exception.n") 215) (Value.int 1 0)] 2) #[]) ::
  (nat_lit 3, Obj.mk (Value.type "dict") none (Data.dict #[DictEntry.mk (PyData.keyHash P (Str.ofString "__name__")) (Value.str (Str.ofString "__name__") 165) (Value.str (Str.ofString "law_qz0095_02") 571), DictEntry.mk (PyData.keyHash P (Str.ofString "__doc__")) (Value.str (Str.ofString "__doc__") 166) Value.none, DictEntry.mk (PyData.keyHash P (Str.ofString "__package__")) (Value.str (Str.ofString "__package__") 167) Value.none, DictEntry.mk (PyData.keyHash P (Str.ofString "__loader__")) (Value.str (Str.ofString "__loader__") 168) (Value.builtin "__main__.__loader__#opaque"), DictEntry.mk (PyData.keyHash P (Str.ofString "__spec__")) (Value.str (Str.ofString "__spec__") 169) Value.none, DictEntry.mk (PyData.keyHash P (Str.ofString "__annotations__")) (Value.str (Str.ofString "__annotations__") 170) (Value.ref 6), DictEntry.mk (PyData.keyHash P (Str.ofString "__builtins__")) (Value.str (Str.ofString "__builtins__") 171) (Value.ref 4), DictEntry.mk (PyData.keyHash P (Str.ofString "__file__")) (Value.str (Str.ofString "__file__") 173) (Value.str (Str.ofString "/claim/cut.py") 172), DictEntry.mk (PyData.keyHash P (Str.ofString "__cached__")) (Value.str (Str.ofString "__cached__") 174) Value.none, DictEntry.mk (PyData.keyHash P (Str.ofString "PerlError")) (Value.str (Str.ofString "PerlError") 217) (Value.ref 31), DictEntry.mk (PyData.keyHash P (Str.ofString "SyntaxDie")) (Value.str (Str.ofString "SyntaxDie") 243) (Value.ref 51), DictEntry.mk (PyData.keyHash P (Str.ofString "CLOSERS")) (Value.str (Str.ofString "CLOSERS") 258) (Value.ref 54), DictEntry.mk (PyData.keyHash P (Str.ofString "SHORT_ESCAPES")) (Value.str (Str.ofString "SHORT_ESCAPES") 280) (Value.ref 55), DictEntry.mk (PyData.keyHash P (Str.ofString "CODE_FIGURES")) (Value.str (Str.ofString "CODE_FIGURES") 282) (Value.str (Str.ofString "0123456789abcdef") 281), DictEntry.mk (PyData.keyHash P (Str.ofString "TOP_CODE")) (Value.str (Str.ofString "TOP_CODE") 284) (Value.int 1114111 283), DictEntry.mk (PyData.keyHash P (Str.ofString "closer_of")) (Value.str (Str.ofString "closer_of") 291) (Value.ref 62), DictEntry.mk (PyData.keyHash P (Str.ofString "digits_value")) (Value.str (Str.ofString "digits_value") 304) (Value.ref 69), DictEntry.mk (PyData.keyHash P (Str.ofString "coded_sign")) (Value.str (Str.ofString "coded_sign") 311) (Value.ref 76), DictEntry.mk (PyData.keyHash P (Str.ofString "braced_code")) (Value.str (Str.ofString "braced_code") 323) (Value.ref 83), DictEntry.mk (PyData.keyHash P (Str.ofString "escape_at")) (Value.str (Str.ofString "escape_at") 334) (Value.ref 90), DictEntry.mk (PyData.keyHash P (Str.ofString "great_letter")) (Value.str (Str.ofString "great_letter") 341) (Value.ref 97), DictEntry.mk (PyData.keyHash P (Str.ofString "small_letter")) (Value.str (Str.ofString "small_letter") 348) (Value.ref 104), DictEntry.mk (PyData.keyHash P (Str.ofString "is_plain_word_sign")) (Value.str (Str.ofString "is_plain_word_sign") 355) (Value.ref 111), DictEntry.mk (PyData.keyHash P (Str.ofString "cased_text")) (Value.str (Str.ofString "cased_text") 365) (Value.ref 118), DictEntry.mk (PyData.keyHash P (Str.ofString "SHORT_CASES")) (Value.str (Str.ofString "SHORT_CASES") 369) (Value.str (Str.ofString "ul") 368), DictEntry.mk (PyData.keyHash P (Str.ofString "MOST_CASES")) (Value.str (Str.ofString "MOST_CASES") 371) (Value.int 40 370), DictEntry.mk (PyData.keyHash P (Str.ofString "MOST_GUARDS")) (Value.str (Str.ofString "MOST_GUARDS") 373) (Value.int 8 372), DictEntry.mk (PyData.keyHash P (Str.ofString "PUNCTUATION")) (Value.str (Str.ofString "PUNCTUATION") 375) (Value.str (Str.ofString "&,;!@/\"") 374), DictEntry.mk (PyData.keyHash P (Str.ofString "TOLD_SIGNS")) (Value.str (Str.ofString "TOLD_SIGNS") 377) (Value.str (Str.ofString "`'+|.") 376), DictEntry.mk (PyData.keyHash P (Str.ofString "is_name_start")) (Value.str (Str.ofString "is_name_start") 384) (Value.ref 125), DictEntry.mk (PyData.keyHash P (Str.ofString "variable_name_end")) (Value.str (Str.ofString "variable_name_end") 393) (Value.ref 132), DictEntry.mk (PyData.keyHash P (Str.ofString "quote_skip")) (Value.str (Str.ofString "quote_skip") 402) (Value.ref 139), DictEntry.mk (PyData.keyHash P (Str.ofString "subscript_end")) (Value.str (Str.ofString "subscript_end") 415) (Value.ref 146), DictEntry.mk (PyData.keyHash P (Str.ofString "digits_only")) (Value.str (Str.ofString "digits_only") 423) (Value.ref 153), DictEntry.mk (PyData.keyHash P (Str.ofString "is_pattern_part")) (Value.str (Str.ofString "is_pattern_part") 434) (Value.ref 160), DictEntry.mk (PyData.keyHash P (Str.ofString "one_subscript")) (Value.str (Str.ofString "one_subscript") 444) (Value.ref 167), DictEntry.mk (PyData.keyHash P (Str.ofString "all_subscripts")) (Value.str (Str.ofString "all_subscripts") 456) (Value.ref 174), DictEntry.mk (PyData.keyHash P (Str.ofString "base_end")) (Value.str (Str.ofString "base_end") 466) (Value.ref 181), DictEntry.mk (PyData.keyHash P (Str.ofString "is_braced_name")) (Value.str (Str.ofString "is_braced_name") 476) (Value.ref 188), DictEntry.mk (PyData.keyHash P (Str.ofString "scalar_end")) (Value.str (Str.ofString "scalar_end") 488) (Value.ref 195), DictEntry.mk (PyData.keyHash P (Str.ofString "array_end")) (Value.str (Str.ofString "array_end") 498) (Value.ref 202), DictEntry.mk (PyData.keyHash P (Str.ofString "add_part")) (Value.str (Str.ofString "add_part") 507) (Value.ref 209), DictEntry.mk (PyData.keyHash P (Str.ofString "close_case")) (Value.str (Str.ofString "close_case") 516) (Value.ref 216), DictEntry.mk (PyData.keyHash P (Str.ofString "end_case")) (Value.str (Str.ofString "end_case") 523) (Value.ref 223), DictEntry.mk (PyData.keyHash P (Str.ofString "end_letters")) (Value.str (Str.ofString "end_letters") 529) (Value.ref 228), DictEntry.mk (PyData.keyHash P (Str.ofString "begin_case")) (Value.str (Str.ofString "begin_case") 535) (Value.ref 233), DictEntry.mk (PyData.keyHash P (Str.ofString "take_case")) (Value.str (Str.ofString "take_case") 546) (Value.ref 240), DictEntry.mk (PyData.keyHash P (Str.ofString "take_piece")) (Value.str (Str.ofString "take_piece") 559) (Value.ref 247), DictEntry.mk (PyData.keyHash P (Str.ofString "parts_of")) (Value.str (Str.ofString "parts_of") 570) (Value.ref 254), DictEntry.mk (PyData.keyHash P (Str.ofString "_law_rows")) (Value.str (Str.ofString "_law_rows") 578) (Value.ref 261), DictEntry.mk (PyData.keyHash P (Str.ofString "_law_get")) (Value.str (Str.ofString "_law_get") 587) (Value.ref 268), DictEntry.mk (PyData.keyHash P (Str.ofString "_law_marks")) (Value.str (Str.ofString "_law_marks") 593) (Value.ref 273), DictEntry.mk (PyData.keyHash P (Str.ofString "_law_open")) (Value.str (Str.ofString "_law_open") 599) (Value.ref 278), DictEntry.mk (PyData.keyHash P (Str.ofString "_law_cased")) (Value.str (Str.ofString "_law_cased") 605) (Value.ref 283), DictEntry.mk (PyData.keyHash P (Str.ofString "law")) (Value.str (Str.ofString "law") 611) (Value.ref 288)] 55) #[]) ::
  (nat_lit 15, Obj.mk (Value.type "tuple") none (Data.seq #[Value.type "Exception"]) #[]) ::
  (nat_lit 22, Obj.mk (Value.type "tuple") none (Data.seq #[]) #[]) ::
  (nat_lit 24, Obj.mk (Value.type "tuple") none (Data.seq #[Value.str (Str.ofString "self") 204, Value.str (Str.ofString "text") 205]) #[]) ::
  (nat_lit 25, Obj.mk (Value.type "tuple") none (Data.seq #[]) #[]) ::
  (nat_lit 27, Obj.mk (Value.type "code") none (Data.fields #[Value.str (Str.ofString "__init__") 201, Value.str (Str.ofString "PerlError.__init__") 202, Value.str (Str.ofString "/claim/cut.py") 203, Value.int 4 0, Value.int 2 0, Value.int 0 0, Value.int 0 0, Value.int 3 0, Value.ref 22, Value.bool true, Value.int 181 0, Value.ref 23, Value.none, Value.ref 24, Value.ref 25, Value.ref 26, Value.int 206 0, Value.int 4 0, Value.str (Str.ofString "/claim/cut.py") 207]) #[]) ::
  (nat_lit 28, fo (sub 1 0) (Str.ofString "PerlError.__init__") (3) [] (Value.none) (Value.none) (Value.none) (Value.str (Str.ofString "perlcore.errors") 187) (none) (Value.ref 27) (Value.none) 0) ::
  (nat_lit 29, Obj.mk (Value.type "tuple") none (Data.seq #[Value.str (Str.ofString "text") 209]) #[]) ::
  (nat_lit 30, Obj.mk (Value.type "dict") none (Data.dict #[DictEntry.mk (PyData.keyHash P (Str.ofString "__module__")) (Value.str (Str.ofString "__module__") 196) (Value.str (Str.ofString "perlcore.errors") 187), DictEntry.mk (PyData.keyHash P (Str.ofString "__firstlineno__")) (Value.str (Str.ofString "__firstlineno__") 200) (Value.int 2 199), DictEntry.mk (PyData.keyHash P (Str.ofString "__init__")) (Value.str (Str.ofString "__init__") 208) (Value.ref 28), DictEntry.mk (PyData.keyHash P (Str.ofString "__static_attributes__")) (Value.str (Str.ofString "__static_attributes__") 210) (Value.ref 29), DictEntry.mk (PyData.keyHash P (Str.ofString "__weakref__")) (Value.str (Str.ofString "__weakref__") 212) (Value.ref 32), DictEntry.mk (PyData.keyHash P (Str.ofString "__doc__")) (Value.str (Str.ofString "__doc__") 213) Value.none] 3) #[]) ::
  (nat_lit 31, Obj.mk (Value.type "type") none (Data.cls (ClassData.mk (Str.ofString "PerlError") [Value.type "Exception"] [Value.ref 31, Value.type "Exception", Value.type "BaseException", Value.type "object"] 30 (Str.ofString "PerlError") true [] [Value.ref 51] false none false)) #[some (Value.ref 15), none, some (Value.str (Str.ofString "PerlError") 189), some (Value.str (Str.ofString "PerlError") 197), some (Value.builtin "Exception.__new__"), some (Value.bool true)]) ::
  (nat_lit 32, Obj.mk (Value.type "getset_descriptor") none (Data.fields #[Value.str (Str.ofString "__weakref__") 211, Value.ref 31, Value.builtin "ExceptionGroup.__weakref__", Value.none]) #[]) ::
  (nat_lit 35, Obj.mk (Value.type "tuple") none (Data.seq #[Value.ref 31]) #[]) ::
  (nat_lit 42, Obj.mk (Value.type "tuple") none (Data.seq #[]) #[]) ::
  (nat_lit 44, Obj.mk (Value.type "tuple") none (Data.seq #[Value.str (Str.ofString "self") 233, Value.str (Str.ofString "text") 234, Value.str (Str.ofString "line") 235]) #[]) ::
  (nat_lit 45, Obj.mk (Value.type "tuple") none (Data.seq #[]) #[]) ::
  (nat_lit 47, Obj.mk (Value.type "code") none (Data.fields #[Value.str (Str.ofString "__init__") 230, Value.str (Str.ofString "SyntaxDie.__init__") 231, Value.str (Str.ofString "/claim/cut.py") 232, Value.int 9 0, Value.int 3 0, Value.int 0 0, Value.int 0 0, Value.int 3 0, Value.ref 42, Value.bool true, Value.int 181 0, Value.ref 43, Value.none, Value.ref 44, Value.ref 45, Value.ref 46, Value.int 236 0, Value.int 9 0, Value.str (Str.ofString "/claim/cut.py") 237]) #[]) ::
  (nat_lit 48, fo (sub 2 0) (Str.ofString "SyntaxDie.__init__") (3) [] (Value.none) (Value.none) (Value.none) (Value.str (Str.ofString "perlcore.errors") 187) (none) (Value.ref 47) (Value.none) 0) ::
  (nat_lit 49, Obj.mk (Value.type "tuple") none (Data.seq #[Value.str (Str.ofString "line") 239]) #[]) ::
  (nat_lit 50, Obj.mk (Value.type "dict") none (Data.dict #[DictEntry.mk (PyData.keyHash P (Str.ofString "__module__")) (Value.str (Str.ofString "__module__") 225) (Value.str (Str.ofString "perlcore.errors") 187), DictEntry.mk (PyData.keyHash P (Str.ofString "__firstlineno__")) (Value.str (Str.ofString "__firstlineno__") 229) (Value.int 7 228), DictEntry.mk (PyData.keyHash P (Str.ofString "__init__")) (Value.str (Str.ofString "__init__") 238) (Value.ref 48), DictEntry.mk (PyData.keyHash P (Str.ofString "__static_attributes__")) (Value.str (Str.ofString "__static_attributes__") 240) (Value.ref 49), DictEntry.mk (PyData.keyHash P (Str.ofString "__doc__")) (Value.str (Str.ofString "__doc__") 241) Value.none] 2) #[]) ::
  (nat_lit 51, Obj.mk (Value.type "type") none (Data.cls (ClassData.mk (Str.ofString "SyntaxDie") [Value.ref 31] [Value.ref 51, Value.ref 31, Value.type "Exception", Value.type "BaseException", Value.type "object"] 50 (Str.ofString "SyntaxDie") true [] [] false none false)) #[some (Value.ref 35), none, some (Value.str (Str.ofString "SyntaxDie") 218), some (Value.str (Str.ofString "SyntaxDie") 226), some (Value.builtin "Exception.__new__"), some (Value.bool true)]) ::
  (nat_lit 54, Obj.mk (Value.type "dict") none (Data.dict #[DictEntry.mk (PyData.keyHash P (Str.ofString "(")) (Value.str (Str.ofString "(") 246) (Value.str (Str.ofString ")") 247), DictEntry.mk (PyData.keyHash P (Str.ofString "[")) (Value.str (Str.ofString "[") 248) (Value.str (Str.ofString "]") 249), DictEntry.mk (PyData.keyHash P (Str.ofString "{")) (Value.str (Str.ofString "{") 250) (Value.str (Str.ofString "}") 251), DictEntry.mk (PyData.keyHash P (Str.ofString "<")) (Value.str (Str.ofString "<") 252) (Value.str (Str.ofString ">") 253)] 4) #[]) ::
  (nat_lit 55, Obj.mk (Value.type "dict") none (Data.dict #[DictEntry.mk (PyData.keyHash P (Str.ofString "n")) (Value.str (Str.ofString "n") 259) (Value.str (Str.ofString "\n") 260), DictEntry.mk (PyData.keyHash P (Str.ofString "t")) (Value.str (Str.ofString "t") 261) (Value.str (Str.ofString "\t") 262), DictEntry.mk (PyData.keyHash P (Str.ofString "r")) (Value.str (Str.ofString "r") 263) (Value.str (Str.ofString "\x0d") 264), DictEntry.mk (PyData.keyHash P (Str.ofString "f")) (Value.str (Str.ofString "f") 265) (Value.str (Str.ofString "\x0c") 266), DictEntry.mk (PyData.keyHash P (Str.ofString "b")) (Value.str (Str.ofString "b") 267) (Value.str (Str.ofString "\x08") 268), DictEntry.mk (PyData.keyHash P (Str.ofString "a")) (Value.str (Str.ofString "a") 269) (Value.str (Str.ofString "\x07") 270), DictEntry.mk (PyData.keyHash P (Str.ofString "e")) (Value.str (Str.ofString "e") 271) (Value.str (Str.ofString "\x1b") 272)] 7) #[]) ::
  (nat_lit 56, Obj.mk (Value.type "tuple") none (Data.seq #[]) #[]) ::
  (nat_lit 58, Obj.mk (Value.type "tuple") none (Data.seq #[Value.str (Str.ofString "opening") 288]) #[]) ::
  (nat_lit 59, Obj.mk (Value.type "tuple") none (Data.seq #[]) #[]) ::
  (nat_lit 61, Obj.mk (Value.type "code") none (Data.fields #[Value.str (Str.ofString "closer_of") 285, Value.str (Str.ofString "closer_of") 286, Value.str (Str.ofString "/claim/cut.py") 287, Value.int 17 0, Value.int 1 0, Value.int 0 0, Value.int 0 0, Value.int 3 0, Value.ref 56, Value.bool true, Value.int 181 0, Value.ref 57, Value.none, Value.ref 58, Value.ref 59, Value.ref 60, Value.int 289 0, Value.int 17 0, Value.str (Str.ofString "/claim/cut.py") 290]) #[]) ::
  (nat_lit 62, fo (stm 8) (Str.ofString "closer_of") (3) [] (Value.none) (Value.none) (Value.none) (Value.str (Str.ofString "perlcore.quotes") 244) (none) (Value.ref 61) (Value.none) 0) ::
  (nat_lit 63, Obj.mk (Value.type "tuple") none (Data.seq #[]) #[]) ::
  (nat_lit 65, Obj.mk (Value.type "tuple") none (Data.seq #[Value.str (Str.ofString "text") 295, Value.str (Str.ofString "at") 296, Value.str (Str.ofString "most") 297, Value.str (Str.ofString "base") 298, Value.str (Str.ofString "value") 299, Value.str (Str.ofString "end") 300, Value.str (Str.ofString "digit") 301]) #[]) ::
  (nat_lit 66, Obj.mk (Value.type "tuple") none (Data.seq #[]) #[]) ::
  (nat_lit 68, Obj.mk (Value.type "code") none (Data.fields #[Value.str (Str.ofString "digits_value") 292, Value.str (Str.ofString "digits_value") 293, Value.str (Str.ofString "/claim/cut.py") 294, Value.int 19 0, Value.int 4 0, Value.int 0 0, Value.int 0 0, Value.int 3 0, Value.ref 63, Value.bool true, Value.int 181 0, Value.ref 64, Value.none, Value.ref 65, Value.ref 66, Value.ref 67, Value.int 302 0, Value.int 19 0, Value.str (Str.ofString "/claim/cut.py") 303]) #[]) ::
  (nat_lit 69, fo (stm 9) (Str.ofString "digits_value") (3) [] (Value.none) (Value.none) (Value.none) (Value.str (Str.ofString "perlcore.quotes") 244) (none) (Value.ref 68) (Value.none) 0) ::
  (nat_lit 70, Obj.mk (Value.type "tuple") none (Data.seq #[]) #[]) ::
  (nat_lit 72, Obj.mk (Value.type "tuple") none (Data.seq #[Value.str (Str.ofString "code") 308]) #[]) ::
  (nat_lit 73, Obj.mk (Value.type "tuple") none (Data.seq #[]) #[]) ::
  (nat_lit 75, Obj.mk (Value.type "code") none (Data.fields #[Value.str (Str.ofString "coded_sign") 305, Value.str (Str.ofString "coded_sign") 306, Value.str (Str.ofString "/claim/cut.py") 307, Value.int 29 0, Value.int 1 0, Value.int 0 0, Value.int 0 0, Value.int 3 0, Value.ref 70, Value.bool true, Value.int 181 0, Value.ref 71, Value.none, Value.ref 72, Value.ref 73, Value.ref 74, Value.int 309 0, Value.int 29 0, Value.str (Str.ofString "/claim/cut.py") 310]) #[]) ::
  (nat_lit 76, fo (stm 10) (Str.ofString "coded_sign") (3) [] (Value.none) (Value.none) (Value.none) (Value.str (Str.ofString "perlcore.quotes") 244) (none) (Value.ref 75) (Value.none) 0) ::
  (nat_lit 77, Obj.mk (Value.type "tuple") none (Data.seq #[]) #[]) ::
  (nat_lit 79, Obj.mk (Value.type "tuple") none (Data.seq #[Value.str (Str.ofString "text") 315, Value.str (Str.ofString "at") 316, Value.str (Str.ofString "base") 317, Value.str (Str.ofString "end") 318, Value.str (Str.ofString "value") 319, Value.str (Str.ofString "behind") 320]) #[]) ::
  (nat_lit 80, Obj.mk (Value.type "tuple") none (Data.seq #[]) #[]) ::
  (nat_lit 82, Obj.mk (Value.type "code") none (Data.fields #[Value.str (Str.ofString "braced_code") 312, Value.str (Str.ofString "braced_code") 313, Value.str (Str.ofString "/claim/cut.py") 314, Value.int 33 0, Value.int 3 0, Value.int 0 0, Value.int 0 0, Value.int 3 0, Value.ref 77, Value.bool true, Value.int 181 0, Value.ref 78, Value.none, Value.ref 79, Value.ref 80, Value.ref 81, Value.int 321 0, Value.int 33 0, Value.str (Str.ofString "/claim/cut.py") 322]) #[]) ::
  (nat_lit 83, fo (stm 11) (Str.ofString "braced_code") (3) [] (Value.none) (Value.none) (Value.none) (Value.str (Str.ofString "perlcore.quotes") 244) (none) (Value.ref 82) (Value.none) 0) ::
  (nat_lit 84, Obj.mk (Value.type "tuple") none (Data.seq #[]) #[]) ::
  (nat_lit 86, Obj.mk (Value.type "tuple") none (Data.seq #[Value.str (Str.ofString "text") 327, Value.str (Str.ofString "at") 328, Value.str (Str.ofString "sign") 329, Value.str (Str.ofString "value") 330, Value.str (Str.ofString "end") 331]) #[]) ::
  (nat_lit 87, Obj.mk (Value.type "tuple") none (Data.seq #[]) #[]) ::
  (nat_lit 89, Obj.mk (Value.type "code") none (Data.fields #[Value.str (Str.ofString "escape_at") 324, Value.str (Str.ofString "escape_at") 325, Value.str (Str.ofString "/claim/cut.py") 326, Value.int 39 0, Value.int 2 0, Value.int 0 0, Value.int 0 0, Value.int 3 0, Value.ref 84, Value.bool true, Value.int 181 0, Value.ref 85, Value.none, Value.ref 86, Value.ref 87, Value.ref 88, Value.int 332 0, Value.int 39 0, Value.str (Str.ofString "/claim/cut.py") 333]) #[]) ::
  (nat_lit 90, fo (stm 12) (Str.ofString "escape_at") (3) [] (Value.none) (Value.none) (Value.none) (Value.str (Str.ofString "perlcore.quotes") 244) (none) (Value.ref 89) (Value.none) 0) ::
  (nat_lit 91, Obj.mk (Value.type "tuple") none (Data.seq #[]) #[]) ::
  (nat_lit 93, Obj.mk (Value.type "tuple") none (Data.seq #[Value.str (Str.ofString "sign") 338]) #[]) ::
  (nat_lit 94, Obj.mk (Value.type "tuple") none (Data.seq #[]) #[]) ::
  (nat_lit 96, Obj.mk (Value.type "code") none (Data.fields #[Value.str (Str.ofString "great_letter") 335, Value.str (Str.ofString "great_letter") 336, Value.str (Str.ofString "/claim/cut.py") 337, Value.int 62 0, Value.int 1 0, Value.int 0 0, Value.int 0 0, Value.int 3 0, Value.ref 91, Value.bool true, Value.int 181 0, Value.ref 92, Value.none, Value.ref 93, Value.ref 94, Value.ref 95, Value.int 339 0, Value.int 62 0, Value.str (Str.ofString "/claim/cut.py") 340]) #[]) ::
  (nat_lit 97, fo (stm 13) (Str.ofString "great_letter") (3) [] (Value.none) (Value.none) (Value.none) (Value.str (Str.ofString "perlcore.quotes") 244) (none) (Value.ref 96) (Value.none) 0) ::
  (nat_lit 98, Obj.mk (Value.type "tuple") none (Data.seq #[]) #[]) ::
  (nat_lit 100, Obj.mk (Value.type "tuple") none (Data.seq #[Value.str (Str.ofString "sign") 345]) #[]) ::
  (nat_lit 101, Obj.mk (Value.type "tuple") none (Data.seq #[]) #[]) ::
  (nat_lit 103, Obj.mk (Value.type "code") none (Data.fields #[Value.str (Str.ofString "small_letter") 342, Value.str (Str.ofString "small_letter") 343, Value.str (Str.ofString "/claim/cut.py") 344, Value.int 66 0, Value.int 1 0, Value.int 0 0, Value.int 0 0, Value.int 3 0, Value.ref 98, Value.bool true, Value.int 181 0, Value.ref 99, Value.none, Value.ref 100, Value.ref 101, Value.ref 102, Value.int 346 0, Value.int 66 0, Value.str (Str.ofString "/claim/cut.py") 347]) #[]) ::
  (nat_lit 104, fo (stm 14) (Str.ofString "small_letter") (3) [] (Value.none) (Value.none) (Value.none) (Value.str (Str.ofString "perlcore.quotes") 244) (none) (Value.ref 103) (Value.none) 0) ::
  (nat_lit 105, Obj.mk (Value.type "tuple") none (Data.seq #[]) #[]) ::
  (nat_lit 107, Obj.mk (Value.type "tuple") none (Data.seq #[Value.str (Str.ofString "sign") 352]) #[]) ::
  (nat_lit 108, Obj.mk (Value.type "tuple") none (Data.seq #[]) #[]) ::
  (nat_lit 110, Obj.mk (Value.type "code") none (Data.fields #[Value.str (Str.ofString "is_plain_word_sign") 349, Value.str (Str.ofString "is_plain_word_sign") 350, Value.str (Str.ofString "/claim/cut.py") 351, Value.int 70 0, Value.int 1 0, Value.int 0 0, Value.int 0 0, Value.int 3 0, Value.ref 105, Value.bool true, Value.int 181 0, Value.ref 106, Value.none, Value.ref 107, Value.ref 108, Value.ref 109, Value.int 353 0, Value.int 70 0, Value.str (Str.ofString "/claim/cut.py") 354]) #[]) ::
  (nat_lit 111, fo (stm 15) (Str.ofString "is_plain_word_sign") (3) [] (Value.none) (Value.none) (Value.none) (Value.str (Str.ofString "perlcore.quotes") 244) (none) (Value.ref 110) (Value.none) 0) ::
  (nat_lit 112, Obj.mk (Value.type "tuple") none (Data.seq #[]) #[]) ::
  (nat_lit 114, Obj.mk (Value.type "tuple") none (Data.seq #[Value.str (Str.ofString "mark") 359, Value.str (Str.ofString "text") 360, Value.str (Str.ofString "out") 361, Value.str (Str.ofString "sign") 362]) #[]) ::
  (nat_lit 115, Obj.mk (Value.type "tuple") none (Data.seq #[]) #[]) ::
  (nat_lit 117, Obj.mk (Value.type "code") none (Data.fields #[Value.str (Str.ofString "cased_text") 356, Value.str (Str.ofString "cased_text") 357, Value.str (Str.ofString "/claim/cut.py") 358, Value.int 72 0, Value.int 2 0, Value.int 0 0, Value.int 0 0, Value.int 3 0, Value.ref 112, Value.bool true, Value.int 181 0, Value.ref 113, Value.none, Value.ref 114, Value.ref 115, Value.ref 116, Value.int 363 0, Value.int 72 0, Value.str (Str.ofString "/claim/cut.py") 364]) #[]) ::
  (nat_lit 118, fo (stm 16) (Str.ofString "cased_text") (3) [] (Value.none) (Value.none) (Value.none) (Value.str (Str.ofString "perlcore.quotes") 244) (none) (Value.ref 117) (Value.none) 0) ::
  (nat_lit 119, Obj.mk (Value.type "tuple") none (Data.seq #[]) #[]) ::
  (nat_lit 121, Obj.mk (Value.type "tuple") none (Data.seq #[Value.str (Str.ofString "sign") 381]) #[]) ::
  (nat_lit 122, Obj.mk (Value.type "tuple") none (Data.seq #[]) #[]) ::
  (nat_lit 124, Obj.mk (Value.type "code") none (Data.fields #[Value.str (Str.ofString "is_name_start") 378, Value.str (Str.ofString "is_name_start") 379, Value.str (Str.ofString "/claim/cut.py") 380, Value.int 94 0, Value.int 1 0, Value.int 0 0, Value.int 0 0, Value.int 3 0, Value.ref 119, Value.bool true, Value.int 181 0, Value.ref 120, Value.none, Value.ref 121, Value.ref 122, Value.ref 123, Value.int 382 0, Value.int 94 0, Value.str (Str.ofString "/claim/cut.py") 383]) #[]) ::
  (nat_lit 125, fo (stm 23) (Str.ofString "is_name_start") (3) [] (Value.none) (Value.none) (Value.none) (Value.str (Str.ofString "perlcore.interp") 366) (none) (Value.ref 124) (Value.none) 0) ::
  (nat_lit 126, Obj.mk (Value.type "tuple") none (Data.seq #[]) #[]) ::
  (nat_lit 128, Obj.mk (Value.type "tuple") none (Data.seq #[Value.str (Str.ofString "text") 388, Value.str (Str.ofString "at") 389, Value.str (Str.ofString "end") 390]) #[]) ::
  (nat_lit 129, Obj.mk (Value.type "tuple") none (Data.seq #[]) #[]) ::
  (nat_lit 131, Obj.mk (Value.type "code") none (Data.fields #[Value.str (Str.ofString "variable_name_end") 385, Value.str (Str.ofString "variable_name_end") 386, Value.str (Str.ofString "/claim/cut.py") 387, Value.int 96 0, Value.int 2 0, Value.int 0 0, Value.int 0 0, Value.int 3 0, Value.ref 126, Value.bool true, Value.int 181 0, Value.ref 127, Value.none, Value.ref 128, Value.ref 129, Value.ref 130, Value.int 391 0, Value.int 96 0, Value.str (Str.ofString "/claim/cut.py") 392]) #[]) ::
  (nat_lit 132, fo (stm 24) (Str.ofString "variable_name_end") (3) [] (Value.none) (Value.none) (Value.none) (Value.str (Str.ofString "perlcore.interp") 366) (none) (Value.ref 131) (Value.none) 0) ::
  (nat_lit 133, Obj.mk (Value.type "tuple") none (Data.seq #[]) #[]) ::
  (nat_lit 135, Obj.mk (Value.type "tuple") none (Data.seq #[Value.str (Str.ofString "text") 397, Value.str (Str.ofString "at") 398, Value.str (Str.ofString "end") 399]) #[]) ::
  (nat_lit 136, Obj.mk (Value.type "tuple") none (Data.seq #[]) #[]) ::
  (nat_lit 138, Obj.mk (Value.type "code") none (Data.fields #[Value.str (Str.ofString "quote_skip") 394, Value.str (Str.ofString "quote_skip") 395, Value.str (Str.ofString "/claim/cut.py") 396, Value.int 110 0, Value.int 2 0, Value.int 0 0, Value.int 0 0, Value.int 3 0, Value.ref 133, Value.bool true, Value.int 181 0, Value.ref 134, Value.none, Value.ref 135, Value.ref 136, Value.ref 137, Value.int 400 0, Value.int 110 0, Value.str (Str.ofString "/claim/cut.py") 401]) #[]) ::
  (nat_lit 139, fo (stm 25) (Str.ofString "quote_skip") (3) [] (Value.none) (Value.none) (Value.none) (Value.str (Str.ofString "perlcore.interp") 366) (none) (Value.ref 138) (Value.none) 0) ::
  (nat_lit 140, Obj.mk (Value.type "tuple") none (Data.seq #[]) #[]) ::
  (nat_lit 142, Obj.mk (Value.type "tuple") none (Data.seq #[Value.str (Str.ofString "text") 406, Value.str (Str.ofString "at") 407, Value.str (Str.ofString "opening") 408, Value.str (Str.ofString "closing") 409, Value.str (Str.ofString "depth") 410, Value.str (Str.ofString "end") 411, Value.str (Str.ofString "sign") 412]) #[]) ::
  (nat_lit 143, Obj.mk (Value.type "tuple") none (Data.seq #[]) #[]) ::
  (nat_lit 145, Obj.mk (Value.type "code") none (Data.fields #[Value.str (Str.ofString "subscript_end") 403, Value.str (Str.ofString "subscript_end") 404, Value.str (Str.ofString "/claim/cut.py") 405, Value.int 119 0, Value.int 2 0, Value.int 0 0, Value.int 0 0, Value.int 3 0, Value.ref 140, Value.bool true, Value.int 181 0, Value.ref 141, Value.none, Value.ref 142, Value.ref 143, Value.ref 144, Value.int 413 0, Value.int 119 0, Value.str (Str.ofString "/claim/cut.py") 414]) #[]) ::
  (nat_lit 146, fo (stm 26) (Str.ofString "subscript_end") (3) [] (Value.none) (Value.none) (Value.none) (Value.str (Str.ofString "perlcore.interp") 366) (none) (Value.ref 145) (Value.none) 0) ::
  (nat_lit 147, Obj.mk (Value.type "tuple") none (Data.seq #[]) #[]) ::
  (nat_lit 149, Obj.mk (Value.type "tuple") none (Data.seq #[Value.str (Str.ofString "text") 419, Value.str (Str.ofString "sign") 420]) #[]) ::
  (nat_lit 150, Obj.mk (Value.type "tuple") none (Data.seq #[]) #[]) ::
  (nat_lit 152, Obj.mk (Value.type "code") none (Data.fields #[Value.str (Str.ofString "digits_only") 416, Value.str (Str.ofString "digits_only") 417, Value.str (Str.ofString "/claim/cut.py") 418, Value.int 140 0, Value.int 1 0, Value.int 0 0, Value.int 0 0, Value.int 3 0, Value.ref 147, Value.bool true, Value.int 181 0, Value.ref 148, Value.none, Value.ref 149, Value.ref 150, Value.ref 151, Value.int 421 0, Value.int 140 0, Value.str (Str.ofString "/claim/cut.py") 422]) #[]) ::
  (nat_lit 153, fo (stm 27) (Str.ofString "digits_only") (3) [] (Value.none) (Value.none) (Value.none) (Value.str (Str.ofString "perlcore.interp") 366) (none) (Value.ref 152) (Value.none) 0) ::
  (nat_lit 154, Obj.mk (Value.type "tuple") none (Data.seq #[]) #[]) ::
  (nat_lit 156, Obj.mk (Value.type "tuple") none (Data.seq #[Value.str (Str.ofString "inner") 427, Value.str (Str.ofString "opening") 428, Value.str (Str.ofString "low") 429, Value.str (Str.ofString "comma") 430, Value.str (Str.ofString "high") 431]) #[]) ::
  (nat_lit 157, Obj.mk (Value.type "tuple") none (Data.seq #[]) #[]) ::
  (nat_lit 159, Obj.mk (Value.type "code") none (Data.fields #[Value.str (Str.ofString "is_pattern_part") 424, Value.str (Str.ofString "is_pattern_part") 425, Value.str (Str.ofString "/claim/cut.py") 426, Value.int 147 0, Value.int 2 0, Value.int 0 0, Value.int 0 0, Value.int 3 0, Value.ref 154, Value.bool true, Value.int 181 0, Value.ref 155, Value.none, Value.ref 156, Value.ref 157, Value.ref 158, Value.int 432 0, Value.int 147 0, Value.str (Str.ofString "/claim/cut.py") 433]) #[]) ::
  (nat_lit 160, fo (stm 28) (Str.ofString "is_pattern_part") (3) [] (Value.none) (Value.none) (Value.none) (Value.str (Str.ofString "perlcore.interp") 366) (none) (Value.ref 159) (Value.none) 0) ::
  (nat_lit 161, Obj.mk (Value.type "tuple") none (Data.seq #[]) #[]) ::
  (nat_lit 163, Obj.mk (Value.type "tuple") none (Data.seq #[Value.str (Str.ofString "text") 438, Value.str (Str.ofString "at") 439, Value.str (Str.ofString "is_pattern") 440, Value.str (Str.ofString "end") 441]) #[]) ::
  (nat_lit 164, Obj.mk (Value.type "tuple") none (Data.seq #[]) #[]) ::
  (nat_lit 166, Obj.mk (Value.type "code") none (Data.fields #[Value.str (Str.ofString "one_subscript") 435, Value.str (Str.ofString "one_subscript") 436, Value.str (Str.ofString "/claim/cut.py") 437, Value.int 156 0, Value.int 3 0, Value.int 0 0, Value.int 0 0, Value.int 3 0, Value.ref 161, Value.bool true, Value.int 181 0, Value.ref 162, Value.none, Value.ref 163, Value.ref 164, Value.ref 165, Value.int 442 0, Value.int 156 0, Value.str (Str.ofString "/claim/cut.py") 443]) #[]) ::
  (nat_lit 167, fo (stm 29) (Str.ofString "one_subscript") (3) [] (Value.none) (Value.none) (Value.none) (Value.str (Str.ofString "perlcore.interp") 366) (none) (Value.ref 166) (Value.none) 0) ::
  (nat_lit 168, Obj.mk (Value.type "tuple") none (Data.seq #[]) #[]) ::
  (nat_lit 170, Obj.mk (Value.type "tuple") none (Data.seq #[Value.str (Str.ofString "text") 448, Value.str (Str.ofString "at") 449, Value.str (Str.ofString "is_pattern") 450, Value.str (Str.ofString "end") 451, Value.str (Str.ofString "begin") 452, Value.str (Str.ofString "behind") 453]) #[]) ::
  (nat_lit 171, Obj.mk (Value.type "tuple") none (Data.seq #[]) #[]) ::
  (nat_lit 173, Obj.mk (Value.type "code") none (Data.fields #[Value.str (Str.ofString "all_subscripts") 445, Value.str (Str.ofString "all_subscripts") 446, Value.str (Str.ofString "/claim/cut.py") 447, Value.int 163 0, Value.int 3 0, Value.int 0 0, Value.int 0 0, Value.int 3 0, Value.ref 168, Value.bool true, Value.int 181 0, Value.ref 169, Value.none, Value.ref 170, Value.ref 171, Value.ref 172, Value.int 454 0, Value.int 163 0, Value.str (Str.ofString "/claim/cut.py") 455]) #[]) ::
  (nat_lit 174, fo (stm 30) (Str.ofString "all_subscripts") (3) [] (Value.none) (Value.none) (Value.none) (Value.str (Str.ofString "perlcore.interp") 366) (none) (Value.ref 173) (Value.none) 0) ::
  (nat_lit 175, Obj.mk (Value.type "tuple") none (Data.seq #[]) #[]) ::
  (nat_lit 177, Obj.mk (Value.type "tuple") none (Data.seq #[Value.str (Str.ofString "text") 460, Value.str (Str.ofString "at") 461, Value.str (Str.ofString "end") 462, Value.str (Str.ofString "behind") 463]) #[]) ::
  (nat_lit 178, Obj.mk (Value.type "tuple") none (Data.seq #[]) #[]) ::
  (nat_lit 180, Obj.mk (Value.type "code") none (Data.fields #[Value.str (Str.ofString "base_end") 457, Value.str (Str.ofString "base_end") 458, Value.str (Str.ofString "/claim/cut.py") 459, Value.int 173 0, Value.int 2 0, Value.int 0 0, Value.int 0 0, Value.int 3 0, Value.ref 175, Value.bool true, Value.int 181 0, Value.ref 176, Value.none, Value.ref 177, Value.ref 178, Value.ref 179, Value.int 464 0, Value.int 173 0, Value.str (Str.ofString "/claim/cut.py") 465]) #[]) ::
  (nat_lit 181, fo (stm 31) (Str.ofString "base_end") (3) [] (Value.none) (Value.none) (Value.none) (Value.str (Str.ofString "perlcore.interp") 366) (none) (Value.ref 180) (Value.none) 0) ::
  (nat_lit 182, Obj.mk (Value.type "tuple") none (Data.seq #[]) #[]) ::
  (nat_lit 184, Obj.mk (Value.type "tuple") none (Data.seq #[Value.str (Str.ofString "text") 470, Value.str (Str.ofString "at") 471, Value.str (Str.ofString "end") 472, Value.str (Str.ofString "inner") 473]) #[]) ::
  (nat_lit 185, Obj.mk (Value.type "tuple") none (Data.seq #[]) #[]) ::
  (nat_lit 187, Obj.mk (Value.type "code") none (Data.fields #[Value.str (Str.ofString "is_braced_name") 467, Value.str (Str.ofString "is_braced_name") 468, Value.str (Str.ofString "/claim/cut.py") 469, Value.int 182 0, Value.int 3 0, Value.int 0 0, Value.int 0 0, Value.int 3 0, Value.ref 182, Value.bool true, Value.int 181 0, Value.ref 183, Value.none, Value.ref 184, Value.ref 185, Value.ref 186, Value.int 474 0, Value.int 182 0, Value.str (Str.ofString "/claim/cut.py") 475]) #[]) ::
  (nat_lit 188, fo (stm 32) (Str.ofString "is_braced_name") (3) [] (Value.none) (Value.none) (Value.none) (Value.str (Str.ofString "perlcore.interp") 366) (none) (Value.ref 187) (Value.none) 0) ::
  (nat_lit 189, Obj.mk (Value.type "tuple") none (Data.seq #[]) #[]) ::
  (nat_lit 191, Obj.mk (Value.type "tuple") none (Data.seq #[Value.str (Str.ofString "text") 480, Value.str (Str.ofString "at") 481, Value.str (Str.ofString "is_pattern") 482, Value.str (Str.ofString "sign") 483, Value.str (Str.ofString "end") 484, Value.str (Str.ofString "is_over") 485]) #[]) ::
  (nat_lit 192, Obj.mk (Value.type "tuple") none (Data.seq #[]) #[]) ::
  (nat_lit 194, Obj.mk (Value.type "code") none (Data.fields #[Value.str (Str.ofString "scalar_end") 477, Value.str (Str.ofString "scalar_end") 478, Value.str (Str.ofString "/claim/cut.py") 479, Value.int 187 0, Value.int 3 0, Value.int 0 0, Value.int 0 0, Value.int 3 0, Value.ref 189, Value.bool true, Value.int 181 0, Value.ref 190, Value.none, Value.ref 191, Value.ref 192, Value.ref 193, Value.int 486 0, Value.int 187 0, Value.str (Str.ofString "/claim/cut.py") 487]) #[]) ::
  (nat_lit 195, fo (stm 33) (Str.ofString "scalar_end") (3) [] (Value.none) (Value.none) (Value.none) (Value.str (Str.ofString "perlcore.interp") 366) (none) (Value.ref 194) (Value.none) 0) ::
  (nat_lit 196, Obj.mk (Value.type "tuple") none (Data.seq #[]) #[]) ::
  (nat_lit 198, Obj.mk (Value.type "tuple") none (Data.seq #[Value.str (Str.ofString "text") 492, Value.str (Str.ofString "at") 493, Value.str (Str.ofString "is_pattern") 494, Value.str (Str.ofString "end") 495]) #[]) ::
  (nat_lit 199, Obj.mk (Value.type "tuple") none (Data.seq #[]) #[]) ::
  (nat_lit 201, Obj.mk (Value.type "code") none (Data.fields #[Value.str (Str.ofString "array_end") 489, Value.str (Str.ofString "array_end") 490, Value.str (Str.ofString "/claim/cut.py") 491, Value.int 206 0, Value.int 3 0, Value.int 0 0, Value.int 0 0, Value.int 3 0, Value.ref 196, Value.bool true, Value.int 181 0, Value.ref 197, Value.none, Value.ref 198, Value.ref 199, Value.ref 200, Value.int 496 0, Value.int 206 0, Value.str (Str.ofString "/claim/cut.py") 497]) #[]) ::
  (nat_lit 202, fo (stm 34) (Str.ofString "array_end") (3) [] (Value.none) (Value.none) (Value.none) (Value.str (Str.ofString "perlcore.interp") 366) (none) (Value.ref 201) (Value.none) 0) ::
  (nat_lit 203, Obj.mk (Value.type "tuple") none (Data.seq #[]) #[]) ::
  (nat_lit 205, Obj.mk (Value.type "tuple") none (Data.seq #[Value.str (Str.ofString "stack") 502, Value.str (Str.ofString "part") 503, Value.str (Str.ofString "parts") 504]) #[]) ::
  (nat_lit 206, Obj.mk (Value.type "tuple") none (Data.seq #[]) #[]) ::
  (nat_lit 208, Obj.mk (Value.type "code") none (Data.fields #[Value.str (Str.ofString "add_part") 499, Value.str (Str.ofString "add_part") 500, Value.str (Str.ofString "/claim/cut.py") 501, Value.int 211 0, Value.int 2 0, Value.int 0 0, Value.int 0 0, Value.int 3 0, Value.ref 203, Value.bool true, Value.int 181 0, Value.ref 204, Value.none, Value.ref 205, Value.ref 206, Value.ref 207, Value.int 505 0, Value.int 211 0, Value.str (Str.ofString "/claim/cut.py") 506]) #[]) ::
  (nat_lit 209, fo (stm 35) (Str.ofString "add_part") (3) [] (Value.none) (Value.none) (Value.none) (Value.str (Str.ofString "perlcore.interp") 366) (none) (Value.ref 208) (Value.none) 0) ::
  (nat_lit 210, Obj.mk (Value.type "tuple") none (Data.seq #[]) #[]) ::
  (nat_lit 212, Obj.mk (Value.type "tuple") none (Data.seq #[Value.str (Str.ofString "stack") 511, Value.str (Str.ofString "mark") 512, Value.str (Str.ofString "parts") 513]) #[]) ::
  (nat_lit 213, Obj.mk (Value.type "tuple") none (Data.seq #[]) #[]) ::
  (nat_lit 215, Obj.mk (Value.type "code") none (Data.fields #[Value.str (Str.ofString "close_case") 508, Value.str (Str.ofString "close_case") 509, Value.str (Str.ofString "/claim/cut.py") 510, Value.int 219 0, Value.int 1 0, Value.int 0 0, Value.int 0 0, Value.int 3 0, Value.ref 210, Value.bool true, Value.int 181 0, Value.ref 211, Value.none, Value.ref 212, Value.ref 213, Value.ref 214, Value.int 514 0, Value.int 219 0, Value.str (Str.ofString "/claim/cut.py") 515]) #[]) ::
  (nat_lit 216, fo (stm 36) (Str.ofString "close_case") (3) [] (Value.none) (Value.none) (Value.none) (Value.str (Str.ofString "perlcore.interp") 366) (none) (Value.ref 215) (Value.none) 0) ::
  (nat_lit 217, Obj.mk (Value.type "tuple") none (Data.seq #[]) #[]) ::
  (nat_lit 219, Obj.mk (Value.type "tuple") none (Data.seq #[Value.str (Str.ofString "stack") 520]) #[]) ::
  (nat_lit 220, Obj.mk (Value.type "tuple") none (Data.seq #[]) #[]) ::
  (nat_lit 222, Obj.mk (Value.type "code") none (Data.fields #[Value.str (Str.ofString "end_case") 517, Value.str (Str.ofString "end_case") 518, Value.str (Str.ofString "/claim/cut.py") 519, Value.int 225 0, Value.int 1 0, Value.int 0 0, Value.int 0 0, Value.int 3 0, Value.ref 217, Value.bool true, Value.int 181 0, Value.ref 218, Value.none, Value.ref 219, Value.ref 220, Value.ref 221, Value.int 521 0, Value.int 225 0, Value.str (Str.ofString "/claim/cut.py") 522]) #[]) ::
  (nat_lit 223, fo (stm 37) (Str.ofString "end_case") (3) [] (Value.none) (Value.none) (Value.none) (Value.str (Str.ofString "perlcore.interp") 366) (none) (Value.ref 222) (Value.none) 0) ::
  (nat_lit 224, Obj.mk (Value.type "tuple") none (Data.seq #[]) #[]) ::
  (nat_lit 227, Obj.mk (Value.type "code") none (Data.fields #[Value.str (Str.ofString "end_letters") 524, Value.str (Str.ofString "end_letters") 525, Value.str (Str.ofString "/claim/cut.py") 526, Value.int 230 0, Value.int 1 0, Value.int 0 0, Value.int 0 0, Value.int 3 0, Value.ref 224, Value.bool true, Value.int 181 0, Value.ref 225, Value.none, Value.none, Value.none, Value.ref 226, Value.int 527 0, Value.int 230 0, Value.str (Str.ofString "/claim/cut.py") 528]) #[]) ::
  (nat_lit 228, fo (stm 38) (Str.ofString "end_letters") (3) [] (Value.none) (Value.none) (Value.none) (Value.str (Str.ofString "perlcore.interp") 366) (none) (Value.ref 227) (Value.none) 0) ::
  (nat_lit 229, Obj.mk (Value.type "tuple") none (Data.seq #[]) #[]) ::
  (nat_lit 232, Obj.mk (Value.type "code") none (Data.fields #[Value.str (Str.ofString "begin_case") 530, Value.str (Str.ofString "begin_case") 531, Value.str (Str.ofString "/claim/cut.py") 532, Value.int 233 0, Value.int 2 0, Value.int 0 0, Value.int 0 0, Value.int 3 0, Value.ref 229, Value.bool true, Value.int 181 0, Value.ref 230, Value.none, Value.none, Value.none, Value.ref 231, Value.int 533 0, Value.int 233 0, Value.str (Str.ofString "/claim/cut.py") 534]) #[]) ::
  (nat_lit 233, fo (stm 39) (Str.ofString "begin_case") (3) [] (Value.none) (Value.none) (Value.none) (Value.str (Str.ofString "perlcore.interp") 366) (none) (Value.ref 232) (Value.none) 0) ::
  (nat_lit 234, Obj.mk (Value.type "tuple") none (Data.seq #[]) #[]) ::
  (nat_lit 236, Obj.mk (Value.type "tuple") none (Data.seq #[Value.str (Str.ofString "stack") 539, Value.str (Str.ofString "text") 540, Value.str (Str.ofString "at") 541, Value.str (Str.ofString "mark") 542, Value.str (Str.ofString "pair") 543]) #[]) ::
  (nat_lit 237, Obj.mk (Value.type "tuple") none (Data.seq #[]) #[]) ::
  (nat_lit 239, Obj.mk (Value.type "code") none (Data.fields #[Value.str (Str.ofString "take_case") 536, Value.str (Str.ofString "take_case") 537, Value.str (Str.ofString "/claim/cut.py") 538, Value.int 239 0, Value.int 3 0, Value.int 0 0, Value.int 0 0, Value.int 3 0, Value.ref 234, Value.bool true, Value.int 181 0, Value.ref 235, Value.none, Value.ref 236, Value.ref 237, Value.ref 238, Value.int 544 0, Value.int 239 0, Value.str (Str.ofString "/claim/cut.py") 545]) #[]) ::
  (nat_lit 240, fo (stm 40) (Str.ofString "take_case") (3) [] (Value.none) (Value.none) (Value.none) (Value.str (Str.ofString "perlcore.interp") 366) (none) (Value.ref 239) (Value.none) 0) ::
  (nat_lit 241, Obj.mk (Value.type "tuple") none (Data.seq #[]) #[]) ::
  (nat_lit 243, Obj.mk (Value.type "tuple") none (Data.seq #[Value.str (Str.ofString "stack") 550, Value.str (Str.ofString "text") 551, Value.str (Str.ofString "at") 552, Value.str (Str.ofString "is_pattern") 553, Value.str (Str.ofString "sign") 554, Value.str (Str.ofString "piece") 555, Value.str (Str.ofString "behind") 556]) #[]) ::
  (nat_lit 244, Obj.mk (Value.type "tuple") none (Data.seq #[]) #[]) ::
  (nat_lit 246, Obj.mk (Value.type "code") none (Data.fields #[Value.str (Str.ofString "take_piece") 547, Value.str (Str.ofString "take_piece") 548, Value.str (Str.ofString "/claim/cut.py") 549, Value.int 252 0, Value.int 4 0, Value.int 0 0, Value.int 0 0, Value.int 3 0, Value.ref 241, Value.bool true, Value.int 181 0, Value.ref 242, Value.none, Value.ref 243, Value.ref 244, Value.ref 245, Value.int 557 0, Value.int 252 0, Value.str (Str.ofString "/claim/cut.py") 558]) #[]) ::
  (nat_lit 247, fo (stm 41) (Str.ofString "take_piece") (3) [] (Value.none) (Value.none) (Value.none) (Value.str (Str.ofString "perlcore.interp") 366) (none) (Value.ref 246) (Value.none) 0) ::
  (nat_lit 248, Obj.mk (Value.type "tuple") none (Data.seq #[]) #[]) ::
  (nat_lit 250, Obj.mk (Value.type "tuple") none (Data.seq #[Value.str (Str.ofString "text") 563, Value.str (Str.ofString "is_pattern") 564, Value.str (Str.ofString "stack") 565, Value.str (Str.ofString "at") 566, Value.str (Str.ofString "follower") 567]) #[]) ::
  (nat_lit 251, Obj.mk (Value.type "tuple") none (Data.seq #[]) #[]) ::
  (nat_lit 253, Obj.mk (Value.type "code") none (Data.fields #[Value.str (Str.ofString "parts_of") 560, Value.str (Str.ofString "parts_of") 561, Value.str (Str.ofString "/claim/cut.py") 562, Value.int 271 0, Value.int 2 0, Value.int 0 0, Value.int 0 0, Value.int 3 0, Value.ref 248, Value.bool true, Value.int 181 0, Value.ref 249, Value.none, Value.ref 250, Value.ref 251, Value.ref 252, Value.int 568 0, Value.int 271 0, Value.str (Str.ofString "/claim/cut.py") 569]) #[]) ::
  (nat_lit 254, fo (stm 42) (Str.ofString "parts_of") (3) [] (Value.none) (Value.none) (Value.none) (Value.str (Str.ofString "perlcore.interp") 366) (none) (Value.ref 253) (Value.none) 0) ::
  (nat_lit 255, Obj.mk (Value.type "tuple") none (Data.seq #[]) #[]) ::
  (nat_lit 257, Obj.mk (Value.type "tuple") none (Data.seq #[]) #[]) ::
  (nat_lit 258, Obj.mk (Value.type "tuple") none (Data.seq #[]) #[]) ::
  (nat_lit 260, Obj.mk (Value.type "code") none (Data.fields #[Value.str (Str.ofString "_law_rows") 573, Value.str (Str.ofString "_law_rows") 574, Value.str (Str.ofString "/claim/cut.py") 575, Value.int 284 0, Value.int 0 0, Value.int 0 0, Value.int 0 0, Value.int 3 0, Value.ref 255, Value.bool true, Value.int 181 0, Value.ref 256, Value.none, Value.ref 257, Value.ref 258, Value.ref 259, Value.int 576 0, Value.int 284 0, Value.str (Str.ofString "/claim/cut.py") 577]) #[]) ::
  (nat_lit 261, fo (stm 44) (Str.ofString "_law_rows") (3) [] (Value.none) (Value.none) (Value.none) (Value.str (Str.ofString "law_qz0095_02") 571) (none) (Value.ref 260) (Value.none) 0) ::
  (nat_lit 262, Obj.mk (Value.type "tuple") none (Data.seq #[]) #[]) ::
  (nat_lit 264, Obj.mk (Value.type "tuple") none (Data.seq #[Value.str (Str.ofString "sack") 582, Value.str (Str.ofString "many") 583, Value.str (Str.ofString "at") 584]) #[]) ::
  (nat_lit 265, Obj.mk (Value.type "tuple") none (Data.seq #[]) #[]) ::
  (nat_lit 267, Obj.mk (Value.type "code") none (Data.fields #[Value.str (Str.ofString "_law_get") 579, Value.str (Str.ofString "_law_get") 580, Value.str (Str.ofString "/claim/cut.py") 581, Value.int 286 0, Value.int 2 0, Value.int 0 0, Value.int 0 0, Value.int 3 0, Value.ref 262, Value.bool true, Value.int 181 0, Value.ref 263, Value.none, Value.ref 264, Value.ref 265, Value.ref 266, Value.int 585 0, Value.int 286 0, Value.str (Str.ofString "/claim/cut.py") 586]) #[]) ::
  (nat_lit 268, fo (stm 45) (Str.ofString "_law_get") (3) [] (Value.none) (Value.none) (Value.none) (Value.str (Str.ofString "law_qz0095_02") 571) (none) (Value.ref 267) (Value.none) 0) ::
  (nat_lit 269, Obj.mk (Value.type "tuple") none (Data.seq #[]) #[]) ::
  (nat_lit 272, Obj.mk (Value.type "code") none (Data.fields #[Value.str (Str.ofString "_law_marks") 588, Value.str (Str.ofString "_law_marks") 589, Value.str (Str.ofString "/claim/cut.py") 590, Value.int 290 0, Value.int 1 0, Value.int 0 0, Value.int 0 0, Value.int 3 0, Value.ref 269, Value.bool true, Value.int 181 0, Value.ref 270, Value.none, Value.none, Value.none, Value.ref 271, Value.int 591 0, Value.int 290 0, Value.str (Str.ofString "/claim/cut.py") 592]) #[]) ::
  (nat_lit 273, fo (stm 46) (Str.ofString "_law_marks") (3) [] (Value.none) (Value.none) (Value.none) (Value.str (Str.ofString "law_qz0095_02") 571) (none) (Value.ref 272) (Value.none) 0) ::
  (nat_lit 274, Obj.mk (Value.type "tuple") none (Data.seq #[]) #[]) ::
  (nat_lit 277, Obj.mk (Value.type "code") none (Data.fields #[Value.str (Str.ofString "_law_open") 594, Value.str (Str.ofString "_law_open") 595, Value.str (Str.ofString "/claim/cut.py") 596, Value.int 296 0, Value.int 1 0, Value.int 0 0, Value.int 0 0, Value.int 3 0, Value.ref 274, Value.bool true, Value.int 181 0, Value.ref 275, Value.none, Value.none, Value.none, Value.ref 276, Value.int 597 0, Value.int 296 0, Value.str (Str.ofString "/claim/cut.py") 598]) #[]) ::
  (nat_lit 278, fo (stm 47) (Str.ofString "_law_open") (3) [] (Value.none) (Value.none) (Value.none) (Value.str (Str.ofString "law_qz0095_02") 571) (none) (Value.ref 277) (Value.none) 0) ::
  (nat_lit 279, Obj.mk (Value.type "tuple") none (Data.seq #[]) #[]) ::
  (nat_lit 282, Obj.mk (Value.type "code") none (Data.fields #[Value.str (Str.ofString "_law_cased") 600, Value.str (Str.ofString "_law_cased") 601, Value.str (Str.ofString "/claim/cut.py") 602, Value.int 306 0, Value.int 2 0, Value.int 0 0, Value.int 0 0, Value.int 3 0, Value.ref 279, Value.bool true, Value.int 181 0, Value.ref 280, Value.none, Value.none, Value.none, Value.ref 281, Value.int 603 0, Value.int 306 0, Value.str (Str.ofString "/claim/cut.py") 604]) #[]) ::
  (nat_lit 283, fo (stm 48) (Str.ofString "_law_cased") (3) [] (Value.none) (Value.none) (Value.none) (Value.str (Str.ofString "law_qz0095_02") 571) (none) (Value.ref 282) (Value.none) 0) ::
  (nat_lit 284, Obj.mk (Value.type "tuple") none (Data.seq #[]) #[]) ::
  (nat_lit 287, Obj.mk (Value.type "code") none (Data.fields #[Value.str (Str.ofString "law") 606, Value.str (Str.ofString "law") 607, Value.str (Str.ofString "/claim/cut.py") 608, Value.int 312 0, Value.int 1 0, Value.int 0 0, Value.int 0 0, Value.int 3 0, Value.ref 284, Value.bool true, Value.int 181 0, Value.ref 285, Value.none, Value.none, Value.none, Value.ref 286, Value.int 609 0, Value.int 312 0, Value.str (Str.ofString "/claim/cut.py") 610]) #[]) ::
  (nat_lit 288, fo (stm 49) (Str.ofString "law") (3) [] (Value.none) (Value.none) (Value.none) (Value.str (Str.ofString "law_qz0095_02") 571) (none) (Value.ref 287) (Value.none) 0) :: []
noncomputable def hd.view_39 : Program := { PySem.Challenge.pw_qz0095_02 with main := { PySem.Challenge.pw_qz0095_02.main with body := (((PySem.Challenge.pw_qz0095_02.main.body.eraseIdx 43).eraseIdx 17).eraseIdx 3).eraseIdx 0 } }
theorem as39_eq : ∀ P, as39 = (hd.heap_39 P).map (·.1) := fun _ => by kernel_rfl
theorem left_f (w : World) : (fencedOpening treeTable PySem.Challenge.pw_qz0095_02 w 3784).map (fun s₀ => (topFrom treeTable PySem.Challenge.pw_qz0095_02 (w.withFollow "special-get-raises" false) 3784 s₀).map (fun s => (openSeen hd.view_39 [Str.ofString "CLOSERS", Str.ofString "SHORT_ESCAPES"] (importedModules PySem.Challenge.pw_qz0095_02.main.body) (fun s => xlAt hd.view_39 [] s && recOk [] s) true s, List.map s.heap.get? as39))) =
    some (some (openGood hd.view_39 [Str.ofString "CLOSERS", Str.ofString "SHORT_ESCAPES"], List.map (fun p => some p.snd) (hd.heap_39 (w.withFollow "special-get-raises" false).params))) := by
  unfold fencedOpening topFrom
  simp only [PySem.W.Fast.te14364793385576792824, PySem.W.Fast.te4187177175401517315, PySem.W.Fast.te5923862056798008813, PySem.W.Fast.te14082659384304107361, PySem.W.Fast.te10274390034422433532, PySem.W.Fast.te14289696077712309145, PySem.W.Fast.te1435165496053646825, PySem.W.Fast.te8920871248978507458]
  kernel_rfl
theorem left_t (w : World) : (fencedOpening treeTable PySem.Challenge.pw_qz0095_02 w 3784).map (fun s₀ => (topFrom treeTable PySem.Challenge.pw_qz0095_02 (w.withFollow "special-get-raises" true) 3784 s₀).map (fun s => (openSeen hd.view_39 [Str.ofString "CLOSERS", Str.ofString "SHORT_ESCAPES"] (importedModules PySem.Challenge.pw_qz0095_02.main.body) (fun s => xlAt hd.view_39 [] s && recOk [] s) true s, List.map s.heap.get? as39))) =
    some (some (openGood hd.view_39 [Str.ofString "CLOSERS", Str.ofString "SHORT_ESCAPES"], List.map (fun p => some p.snd) (hd.heap_39 (w.withFollow "special-get-raises" true).params))) := by
  unfold fencedOpening topFrom
  simp only [PySem.W.Fast.te14364793385576792824, PySem.W.Fast.te4187177175401517315, PySem.W.Fast.te5923862056798008813, PySem.W.Fast.te14082659384304107361, PySem.W.Fast.te10274390034422433532, PySem.W.Fast.te14289696077712309145, PySem.W.Fast.te1435165496053646825, PySem.W.Fast.te8920871248978507458]
  kernel_rfl
theorem both_map {α β : Type} {o : Option α} {f g : α → β} {a b : β} (h1 : o.map f = some a) (h2 : o.map g = some b) : o.map (fun s => (f s, g s)) = some (a, b) := by
  obtain ⟨s, rfl, rfl⟩ := Option.map_eq_some_iff.mp h1
  exact congrArg some (Prod.ext rfl (Option.some.inj h2))
theorem left : LeftO PySem.Challenge.pw_qz0095_02 hd.view_39 [Str.ofString "CLOSERS", Str.ofString "SHORT_ESCAPES"] (fun s => xlAt hd.view_39 [] s && recOk [] s)
    (fun s => List.map s.heap.get? as39) (fun w => List.map (fun p => some p.snd) (hd.heap_39 w.params)) 3784 :=
  LeftO.of_split "special-get-raises" (fun w => both_map (left_f w) (left_t w))
theorem said : PySem.Challenge.rw_qz0095_02.wellSaid = true := by kernel_rfl
noncomputable abbrev H39 : Hook := kHook hd.heap_39 as39 as39_eq
theorem fill_all : hd.heap_39 = hd.heap_39 ∧ PySem.Challenge.rw_qz0095_02 = PySem.Challenge.rw_qz0095_02 := by
  k_fill
  exact ⟨rfl, rfl⟩
section
noncomputable abbrev LO : List Str := looseW hd.view_39 [Str.ofString "CLOSERS", Str.ofString "SHORT_ESCAPES"]
section
variable {prog : Program} {w : World} {A : Around} {E : Value → Shared → Prop} {s : Shared} {env : Env} {h₀ : Heap} {x : PySem.Str} {body : List Stmt} {Q : Flow → Shared → Prop}
/-- where a turn of a for over a text ends: back at the loop with J, or out -/
noncomputable def TurnEnd (h₀ : Heap) (L : Addr) (J : (Str → Option Value) → List (Addr × Obj) → Prop) (I : Addr) (o : Obj) (s₁ : Shared) (s₂ : Shared) : Prop :=
  ∃ h' tk m' news', s₂ = { s₁ with heap := h', toks := tk } ∧ Fr h₀ L h' m' ∧ News h₀ L h' ((I, o) :: news') ∧ (∀ p ∈ news', p.1 ≠ I) ∧ J m' news'
noncomputable def TurnPost (h₀ : Heap) (L : Addr) (J : (Str → Option Value) → List (Addr × Obj) → Prop) (I : Addr) (o : Obj) (s₁ : Shared) (Q : Flow → Shared → Prop) (f : Flow) (s₂ : Shared) : Prop :=
  match f with
  | .ret v => Q (.ret v) s₂
  | .brk => Q .next s₂
  | _ => TurnEnd h₀ L J I o s₁ s₂

theorem iter_str {tx : Tok} {x : PySem.Str} {Q : Value → Shared → Prop}
    (hQ : ∀ (o : Obj) (St : Nat → Heap → Prop), (∀ A' : Around, A'.handled = none → Walks prog w A' s.heap.objs.size [s.heap.objs.size] [s.heap.objs.size] x.cps.size (SignAt x) St) → St 0 (s.heap.push o) →
      (∀ i h, St i h → ∃ o', h.get? s.heap.objs.size = some o') → Q (.ref s.heap.objs.size) { s with heap := s.heap.push o }) : wpAny (model prog w) A (pyIter (.str x tx)) Q E s := by
  cases ha : x.cps.all (· < 128)
  · exact wpAny_pyIter_wide ha (hQ _ _ (fun A' hA => Walks.strWide hA _ x tx) ⟨_, Heap.get?_push_size _ rfl, rfl, rfl⟩ fun _ _ st => let ⟨o, ho, _⟩ := st; ⟨o, ho⟩)
  · exact wpAny_pyIter_ascii ha (hQ _ _ (fun A' hA => Walks.strAscii hA _ x tx) ⟨_, Heap.get?_push_size _ rfl, rfl, rfl⟩ fun _ _ st => let ⟨o, ho, _⟩ := st; ⟨o, ho⟩)

theorem loop_text {xt : PySem.Str} {tx : Tok} {m₀ : PySem.Str → Option Value} {news : List (Addr × Obj)} (J : Nat → (Str → Option Value) → List (Addr × Obj) → Prop)
    (hh : A.handled = none) (F : Fr h₀ env.locals s.heap m₀) (N : News h₀ env.locals s.heap news) (h0 : J 0 m₀ news)
    (turn : ∀ i c t m₁ news₁ h tk I o, xt.cps[i]? = some c → J i m₁ news₁ → (∀ p ∈ news₁, p.1 ≠ I) →
      Fr h₀ env.locals h (fun y => if y = x then some (.str ⟨#[c]⟩ t) else m₁ y) → News h₀ env.locals h ((I, o) :: news₁) →
      wpAny (model prog w) A (execs body env) (TurnPost h₀ env.locals (J (i + 1)) I o { s with heap := h, toks := tk } Q) E { s with heap := h, toks := tk })
    (done : ∀ m₁ news₁ h tk, J xt.cps.size m₁ news₁ → Fr h₀ env.locals h m₁ → News h₀ env.locals h news₁ → Q .next { s with heap := h, toks := tk }) :
    wpAny (model prog w) A (pyIter (.str xt tx)) (fun it s₂ => LoopAtV prog w A h₀ env x body Q E it s₂) E s := by
  refine iter_str fun o St hW hst hSt => ?_
  have W := hW A hh
  refine ⟨_, _, _, _, _, _, m₀, news, J, rfl, W, ?_, ?_, ?_, hst, F.push _, (fun p hp => ⟨Heap.get?_push_of_some _ (N p hp).1, (N p hp).2⟩), h0, ?_, ?_⟩
  · intro hm
    exact absurd F.ns.lt ((List.mem_singleton.mp hm) ▸ Nat.lt_irrefl _)
  · intro b' hb
    rw [List.mem_singleton.mp hb]
    exact next_is_new F
  · intro p hp hI
    exact absurd (Heap.lt_size (N p hp).1) ((List.mem_singleton.mp hI) ▸ Nat.lt_irrefl _)
  · rintro i v m₁ news₁ s₁ own ⟨hh', tk', rfl⟩ hin ⟨c, u, hc, rfl⟩ hJ hoff hown hget hall hst₁ F₁ N₁
    have hI : h₀.get? s.heap.objs.size = none := next_is_new F
    obtain ⟨oI, hoI⟩ := hSt _ _ hst₁
    have hmem := hall _ (List.mem_singleton.mpr rfl) hI oI hoI
    have hoff' : ∀ p ∈ news₁, p.1 ≠ s.heap.objs.size := fun p hp e => hoff p hp (List.mem_singleton.mpr e)
    have N₂ : News h₀ env.locals hh' ((s.heap.objs.size, oI) :: news₁) := fun p hp => by
      rcases List.mem_cons.mp hp with rfl | hp
      · exact N₁ _ (List.mem_append_left _ hmem)
      · exact N₁ _ (List.mem_append_right _ hp)
    refine wpAny_mono (turn i c u m₁ news₁ hh' tk' _ oI hc hJ hoff' F₁ N₂) (fun f s₂ p => ?_) fun _ _ e => e
    have fin : TurnEnd h₀ env.locals (J (i + 1)) s.heap.objs.size oI { s with heap := hh', toks := tk' } s₂ → LoopStepU h₀ env.locals [s.heap.objs.size] own (J (i + 1)) { s with heap := hh', toks := tk' } .next s₂ := by
      rintro ⟨h', tk, m', news', e, F', N', hn, hj⟩
      refine ⟨rfl, h', tk, m', news', e, F', fun p hp => ?_, fun p hp hq => hn p hp (List.mem_singleton.mp hq), hj⟩
      rcases List.mem_append.mp hp with hp | hp
      · have h1 := List.mem_singleton.mp (hown p hp)
        have h2 := hget p hp
        rw [h1, hoI] at h2
        have : p = (s.heap.objs.size, oI) := by
          rw [← h1]; exact Prod.ext rfl (Option.some.inj h2).symm
        rw [this]
        exact N' _ (.head _)
      · exact N' _ (.tail _ hp)
    cases f with
    | ret v => exact .ret p
    | brk => exact .brk p
    | next => exact .next (fin p)
    | cont => exact .cont (fin p)
  · rintro h' tk m' news' F' N' _ hJ
    exact done m' news' h' tk hJ F' N'

noncomputable def KeepsBut (x y : Str) (m₀ : Str → Option Value) (V : Tok → Value) (news : List (Addr × Obj)) (m' : Str → Option Value) (n' : List (Addr × Obj)) : Prop :=
  n' = news ∧ (∃ t', m' y = some (V t')) ∧ ∀ z, z ≠ x → z ≠ y → m' z = m₀ z
theorem KeepsBut.map {x y : Str} {m₀ m' : Str → Option Value} {V : Tok → Value} {news n' : List (Addr × Obj)} (h : KeepsBut x y m₀ V news m' n') (v : Option Value) :
    ∃ t, (fun z => if z = x then v else m' z) = fun z => if z = x then v else if z = y then some (V t) else m₀ z := by
  obtain ⟨_, ⟨t, ht⟩, hk⟩ := h
  refine ⟨t, ?_⟩
  funext z
  by_cases h1 : z = x
  · simp [h1]
  · simp only [if_neg h1]
    by_cases h2 : z = y
    · subst h2; simp [ht]
    · simp only [if_neg h2]; exact hk z h1 h2
theorem KeepsBut.map' {x y : Str} {m₀ m' : Str → Option Value} {V : Tok → Value} {news n' : List (Addr × Obj)} (h : KeepsBut x y m₀ V news m' n') :
    ∃ u t, m' = fun z => if z = x then u else if z = y then some (V t) else m₀ z := by
  obtain ⟨t, ht⟩ := h.map (m' x)
  refine ⟨m' x, t, ?_⟩
  rw [← ht]
  funext z
  by_cases h1 : z = x
  · simp [h1]
  · simp [h1]
theorem loop_text1 {xt : PySem.Str} {tx t₀ : Tok} {m₀ : PySem.Str → Option Value} {news : List (Addr × Obj)} (y : Str) (V : Nat → Tok → Value)
    (hh : A.handled = none) (F : Fr h₀ env.locals s.heap m₀) (N : News h₀ env.locals s.heap news) (h0 : m₀ y = some (V 0 t₀))
    (turn : ∀ i c t ta h tk I o, xt.cps[i]? = some c → (∀ p ∈ news, p.1 ≠ I) →
      Fr h₀ env.locals h (fun z => if z = x then some (.str ⟨#[c]⟩ t) else if z = y then some (V i ta) else m₀ z) → News h₀ env.locals h ((I, o) :: news) →
      wpAny (model prog w) A (execs body env) (TurnPost h₀ env.locals (KeepsBut x y m₀ (V (i + 1)) news) I o { s with heap := h, toks := tk } Q) E { s with heap := h, toks := tk })
    (done : ∀ u t h tk, Fr h₀ env.locals h (fun z => if z = x then u else if z = y then some (V xt.cps.size t) else m₀ z) → News h₀ env.locals h news → Q .next { s with heap := h, toks := tk }) :
    wpAny (model prog w) A (pyIter (.str xt tx)) (fun it s₂ => LoopAtV prog w A h₀ env x body Q E it s₂) E s := by
  refine loop_text (fun i m' n' => KeepsBut x y m₀ (V i) news m' n') hh F N ⟨rfl, ⟨t₀, h0⟩, fun _ _ _ => rfl⟩ ?_ ?_
  · intro i c t m₁ news₁ h tk I o hc hJ hI F₁ N₁
    obtain ⟨ta, e⟩ := hJ.map (some (.str ⟨#[c]⟩ t))
    rw [e] at F₁
    rw [hJ.1] at N₁
    exact turn i c t ta h tk I o hc (hJ.1 ▸ hI) F₁ N₁
  · intro m₁ news₁ h tk hJ F₁ N₁
    obtain ⟨u, t, e⟩ := hJ.map'
    rw [hJ.1] at N₁
    rw [e] at F₁
    exact done u t h tk F₁ N₁
theorem turn_end {L I : Addr} {x y : Str} {o : Obj} {m₀ m' : Str → Option Value} {V : Tok → Value} {news led : List (Addr × Obj)} {s₁ : Shared} {h' : Heap} {tk : Nat} {t : Tok} (F : Fr h₀ L h' m') (N : News h₀ L h' led)
    (hs : ∀ p ∈ (I, o) :: news, p ∈ led) (hI : ∀ p ∈ news, p.1 ≠ I) (hy : m' y = some (V t)) (hk : ∀ z, z ≠ x → z ≠ y → m' z = m₀ z) :
    TurnEnd h₀ L (KeepsBut x y m₀ V news) I o s₁ { s₁ with heap := h', toks := tk } :=
  ⟨h', tk, m', news, rfl, F, fun p hp => N p (hs p hp), hI, rfl, ⟨t, hy⟩, hk⟩
end
noncomputable def CallOk (w : World) (mean : ExcName → Option Value) (mg mb : Str → Option Value) (f : Addr) (D U : Nat) (vs : List Value) (led : List (Addr × Obj)) (Ret : Value → List (Addr × Obj) → Prop) : Prop :=
  ∀ (dp un : Nat) (gd : Option (List Code)) (cn : Str) (cs : Scope) (a : Addr) (ccd : Value) (cl : List (Str × Addr)) (outer : List Env) (A₀ : Around) (base h₀ : Heap) (L : Addr) (m : Str → Option Value)
    (s : Shared) (Q E : Value → Shared → Prop),
    Below A₀ base outer h₀ → Fr h₀ L s.heap m → (hd.heap_39 w.params).In h₀ → News h₀ L s.heap led → Top hd.view_39 LO mean mg mb h₀ → cs.kind = .function → dp + D < recursionLimit → un + U < cLine →
    (∀ v led' (h' : Heap) (tk' : Nat), Ret v led' → Fr h₀ L h' m → News h₀ L h' led' → Q v { s with heap := h', toks := tk' }) →
    wpAny (model PySem.Challenge.rw_qz0095_02.row.prog w) (ktrTop dp un gd cn cs L a ccd cl outer) (call (.ref f) vs) Q E s

theorem CallOk.use {w : World} {mean : ExcName → Option Value} {mg mb : Str → Option Value} {f : Addr} {D U : Nat} {vs : List Value} {led : List (Addr × Obj)} {Ret : Value → List (Addr × Obj) → Prop}
    {dp un : Nat} {gd : Option (List Code)} {cn : Str} {cs : Scope} {a : Addr} {ccd : Value} {cl : List (Str × Addr)} {outer : List Env} {A₀ : Around} {base h₀ : Heap} {L : Addr} {m : Str → Option Value}
    {s : Shared} {Q E : Value → Shared → Prop} (C : CallOk w mean mg mb f D U vs led Ret)
    (B : Below A₀ base outer h₀) (F : Fr h₀ L s.heap m) (X : (hd.heap_39 w.params).In h₀) (N : News h₀ L s.heap led) (T : Top hd.view_39 LO mean mg mb h₀) (hk : cs.kind = .function) (hdp : dp + D < recursionLimit) (hun : un + U < cLine)
    (h : ∀ v led' (h' : Heap) (tk' : Nat), Ret v led' → Fr h₀ L h' m → News h₀ L h' led' → Q v { s with heap := h', toks := tk' }) :
    wpAny (model PySem.Challenge.rw_qz0095_02.row.prog w) (ktrTop dp un gd cn cs L a ccd cl outer) (call (.ref f) vs) Q E s := C _ _ _ _ _ _ _ _ _ _ _ _ _ _ _ _ _ B F X N T hk hdp hun h

noncomputable def Stop (P : Prop) : Prop := P
theorem stop {P : Prop} (h : Stop P) : P := h


theorem turn_str {h₀ : Heap} {L I : Addr} {x y : Str} {o : Obj} {m₀ m' : Str → Option Value} {V : Tok → Value} {news led : List (Addr × Obj)} {s₁ : Shared} {h' : Heap} {tk : Nat} {t : Tok} {X : Str} (F : Fr h₀ L h' m') (N : News h₀ L h' led)
    (hs : ∀ p ∈ (I, o) :: news, p ∈ led) (hI : ∀ p ∈ news, p.1 ≠ I) (hy : m' y = some (.str X t)) (hV : ∀ t, V t = .str X t) (hk : ∀ z, z ≠ x → z ≠ y → m' z = m₀ z) :
    TurnEnd h₀ L (KeepsBut x y m₀ V news) I o s₁ { s₁ with heap := h', toks := tk } := turn_end F N hs hI (hy.trans (by rw [hV])) hk
theorem app_l (a b : List Nat) : (⟨a.toArray⟩ : Str) ++ ⟨b.toArray⟩ = ⟨(a ++ b).toArray⟩ := by
  refine Str.ext' ?_
  rw [Str.cps_append]
  simp
theorem len_l (a : List Nat) : (⟨a.toArray⟩ : Str).length = a.length := by simp [Str.length]
theorem s46 : (⟨#[46]⟩ : Str) = Str.ofString "." := by decide +kernel
theorem s92 : (⟨#[92]⟩ : Str) = Str.ofString "\\" := by decide +kernel
theorem s97 : (⟨#[97]⟩ : Str) = Str.ofString "a" := by decide +kernel
theorem s120 : (⟨#[120]⟩ : Str) = Str.ofString "x" := by decide +kernel
theorem s65 : (⟨#[65]⟩ : Str) = Str.ofString "A" := by decide +kernel
theorem s85 : (⟨#[85]⟩ : Str) = Str.ofString "U" := by decide +kernel
theorem s76 : (⟨#[76]⟩ : Str) = Str.ofString "L" := by decide +kernel
theorem s70 : (⟨#[70]⟩ : Str) = Str.ofString "F" := by decide +kernel
theorem s81 : (⟨#[81]⟩ : Str) = Str.ofString "Q" := by decide +kernel
theorem s117 : (⟨#[117]⟩ : Str) = Str.ofString "u" := by decide +kernel
theorem s108 : (⟨#[108]⟩ : Str) = Str.ofString "l" := by decide +kernel
theorem s36 : (⟨#[36, 120]⟩ : Str) = Str.ofString "$x" := by decide +kernel
section
variable {prog : Program} {w : World} {A : Around} {E : Value → Shared → Prop} {s : Shared} {X Y : Str} {l₁ l₂ : List Nat} {t u : Tok} {Q : Value → Shared → Prop}
theorem iadd_l (hx : X = ⟨l₁.toArray⟩) (hy : Y = ⟨l₂.toArray⟩) (hsz : l₁.length + l₂.length ≤ sizeLine) (h : ∀ t' k, Q (.str ⟨(l₁ ++ l₂).toArray⟩ t') { s with toks := k }) :
    wpAny (model prog w) A (inplaceOp .Add (.str X t) (.str Y u)) Q E s := by
  subst hx
  subst hy
  refine SBL.iadd (fun t' k => ?_) (by rw [len_l, len_l]; exact hsz)
  rw [app_l]
  exact fun _ => h t' k
theorem add_l (hx : X = ⟨l₁.toArray⟩) (hy : Y = ⟨l₂.toArray⟩) (hsz : l₁.length + l₂.length ≤ sizeLine) (h : ∀ t' k, Q (.str ⟨(l₁ ++ l₂).toArray⟩ t') { s with toks := k }) :
    wpAny (model prog w) A (binaryOp .Add (.str X t) (.str Y u)) Q E s := by
  subst hx
  subst hy
  refine SBL.add (fun t' k => ?_) (by rw [len_l, len_l]; exact hsz)
  rw [app_l]
  exact fun _ => h t' k
end

section
open PySem.Builtin PySem.Builtin.Str
theorem nat_not_neg (i : Nat) : ¬ ((i : Int) < 0) := Int.not_lt.mpr (Int.natCast_nonneg i)
theorem clip_nat (i n : Nat) : max 0 (min (i : Int) (n : Int)) = ((min i n : Nat) : Int) := by
  rcases Nat.le_total i n with h | h
  · rw [Nat.min_eq_left h, Int.min_eq_left (Int.ofNat_le.mpr h), Int.max_eq_right (Int.natCast_nonneg i)]
  · rw [Nat.min_eq_right h, Int.min_eq_right (Int.ofNat_le.mpr h), Int.max_eq_right (Int.natCast_nonneg n)]
theorem sl_idx (i j n : Nat) : strSliceIndices (some (i : Int)) (some (j : Int)) 1 n = sliceRange ((min i n : Nat) : Int) ((min j n : Nat) : Int) 1 := by
  simp only [strSliceIndices, if_neg (nat_not_neg i), if_neg (nat_not_neg j), if_pos (show (1 : Int) > 0 by decide), clip_nat]
theorem sl_clip (i j n : Nat) : strSliceIndices (some (i : Int)) (some (j : Int)) 1 n = strSliceIndices (some ((min i n : Nat) : Int)) (some ((min j n : Nat) : Int)) 1 n := by
  rw [sl_idx, sl_idx, Nat.min_assoc, Nat.min_self, Nat.min_assoc, Nat.min_self]
theorem drop_min (l : List Nat) (i : Nat) : l.drop i = l.drop (min i l.length) := by
  rcases Nat.le_total i l.length with h | h
  · rw [Nat.min_eq_left h]
  · rw [Nat.min_eq_right h, List.drop_eq_nil_of_le h, List.drop_length]
theorem take_min (l : List Nat) (j : Nat) : l.take j = l.take (min j l.length) := by
  rcases Nat.le_total j l.length with h | h
  · rw [Nat.min_eq_left h]
  · rw [Nat.min_eq_right h, List.take_of_length_le h, List.take_length]
theorem sl_ss (l : List Nat) (i j : Nat) : Txt.slice ⟨l.toArray⟩ (some (i : Int)) (some (j : Int)) = ⟨((l.take j).drop i).toArray⟩ := by
  have hl : Str.length ⟨l.toArray⟩ = l.length := by simp [Str.length]
  have e : Txt.slice ⟨l.toArray⟩ (some (i : Int)) (some (j : Int)) = Txt.slice ⟨l.toArray⟩ (some ((min i l.length : Nat) : Int)) (some ((min j l.length : Nat) : Int)) := by
    unfold Txt.slice
    rw [hl, sl_clip]
  rw [e, List.drop_take, drop_min l i]
  obtain ⟨a, ha⟩ : ∃ a, a = min i l.length := ⟨_, rfl⟩
  obtain ⟨b, hb⟩ : ∃ b, b = min j l.length := ⟨_, rfl⟩
  have hbl : b ≤ l.length := hb ▸ Nat.min_le_right _ _
  have e4 : (l.drop a).take (j - i) = (l.drop a).take (b - a) := by
    rcases Nat.le_total i l.length with h | h
    · rw [Nat.min_eq_left h] at ha
      subst ha
      rw [← List.drop_take, ← List.drop_take, take_min l j, ← hb]
    · rw [Nat.min_eq_right h] at ha
      subst ha
      rw [List.drop_length, List.take_nil, List.take_nil]
  rw [← ha, ← hb, e4]
  by_cases h : a ≤ b
  · rw [beq_iff_eq.mp (slice_closes (x := ⟨l.toArray⟩) (i := (a : Int)) (j := (b : Int)) ⟨Int.natCast_nonneg a, Int.ofNat_le.mpr h, Int.ofNat_le.mpr hbl⟩), Int.toNat_sub, Int.toNat_natCast]
  · have h' : b ≤ a := Nat.le_of_not_le h
    have hal : a ≤ l.length := ha ▸ Nat.min_le_right _ _
    have h0 : strSliceIndices (some (a : Int)) (some (b : Int)) 1 l.length = [] := by
      rw [sl_idx, Nat.min_eq_left hbl, Nat.min_eq_left hal]
      unfold sliceRange
      rw [if_pos (show (1 : Int) > 0 by decide), if_neg (Int.not_lt.mpr (Int.ofNat_le.mpr h'))]
      rfl
    unfold Txt.slice
    rw [hl, h0, Nat.sub_eq_zero_of_le h', List.take_zero]
    split
    · rename_i hc
      simp at hc
      rw [List.eq_nil_of_length_eq_zero hc.symm]
    · rfl
theorem sl_ns (l : List Nat) (j : Nat) : Txt.slice ⟨l.toArray⟩ none (some (j : Int)) = ⟨(l.take j).toArray⟩ := by
  have e : ∀ n : Nat, strSliceIndices none (some (j : Int)) 1 n = strSliceIndices (some ((0 : Nat) : Int)) (some (j : Int)) 1 n := fun n => by
    simp only [strSliceIndices, if_neg (nat_not_neg 0), if_pos (show (1 : Int) > 0 by decide)]
    congr 1
  have e2 : Txt.slice ⟨l.toArray⟩ none (some (j : Int)) = Txt.slice ⟨l.toArray⟩ (some ((0 : Nat) : Int)) (some (j : Int)) := by
    unfold Txt.slice
    rw [e]
  rw [e2, sl_ss]
  simp
theorem sl_sn (l : List Nat) (i : Nat) : Txt.slice ⟨l.toArray⟩ (some (i : Int)) none = ⟨(l.drop i).toArray⟩ := by
  have e : strSliceIndices (some (i : Int)) none 1 l.length = strSliceIndices (some (i : Int)) (some (l.length : Int)) 1 l.length := by
    rw [sl_idx]
    simp only [strSliceIndices, if_neg (nat_not_neg i), if_pos (show (1 : Int) > 0 by decide), clip_nat]
    rw [Nat.min_self]
  have e2 : Txt.slice ⟨l.toArray⟩ (some (i : Int)) none = Txt.slice ⟨l.toArray⟩ (some (i : Int)) (some (l.length : Int)) := by
    unfold Txt.slice
    rw [show Str.length ⟨l.toArray⟩ = l.length by simp [Str.length], e]
  rw [e2, sl_ss]
  simp
theorem sl_item (l : List Nat) (i : Nat) {c : Nat} (h : l[i]? = some c) : Txt.item ⟨l.toArray⟩ (i : Int) = ⟨#[c]⟩ := by
  have hl : i < l.length := (List.getElem?_eq_some_iff.mp h).1
  have e : seqIndex? (i : Int) l.length = some i := by
    unfold seqIndex?
    rw [if_neg (nat_not_neg i), if_pos (by simp; exact hl)]
    simp
  unfold Txt.item Txt.charAt
  rw [show Str.length ⟨l.toArray⟩ = l.length by simp [Str.length], e]
  simp [h]

variable {prog : Program} {w : World} {A : Around} {E : Value → Shared → Prop} {s : Shared} {value slice : Expr} {x y : Str} {t : Tok} {h₀ : Heap} {L : Addr} {m : Str → Option Value} {news : List (Addr × Obj)} {Q : Value → Shared → Prop}
theorem slr_ss {i j : Int} {ui uj : Tok} (hF : Fr h₀ L s.heap m) (hN : News h₀ L s.heap news) (e : Txt.slice x (some i) (some j) = y) (hsz : x.length ≤ sizeLine) (h : ∀ h' t' k, Fr h₀ L h' m → News h₀ L h' news → Q (.str y t') { s with heap := h', toks := k })
    (hs : subscripted slice false (.str x t) (.ref s.heap.objs.size) = operate [.ref s.heap.objs.size, .str x t] (getItem (.str x t) (.ref s.heap.objs.size)) := by with_unfolding_all rfl)
    (ht : ∀ r, letTemporaryGo value (.str x t) r = pure () := by intro _; with_unfolding_all rfl) :
    wpAny (model prog w) A (subscriptTail value slice (.str x t) (.ref s.heap.objs.size)) Q E { s with heap := s.heap.push { cls := .type "slice", data := .fields #[.int i ui, .int j uj, .none] } } := by
  subst e
  exact slice_strN_ss hF hN h hs ht hsz
theorem slr_ns {j : Int} {uj : Tok} (hF : Fr h₀ L s.heap m) (hN : News h₀ L s.heap news) (e : Txt.slice x none (some j) = y) (hsz : x.length ≤ sizeLine) (h : ∀ h' t' k, Fr h₀ L h' m → News h₀ L h' news → Q (.str y t') { s with heap := h', toks := k })
    (hs : subscripted slice false (.str x t) (.ref s.heap.objs.size) = operate [.ref s.heap.objs.size, .str x t] (getItem (.str x t) (.ref s.heap.objs.size)) := by with_unfolding_all rfl)
    (ht : ∀ r, letTemporaryGo value (.str x t) r = pure () := by intro _; with_unfolding_all rfl) :
    wpAny (model prog w) A (subscriptTail value slice (.str x t) (.ref s.heap.objs.size)) Q E { s with heap := s.heap.push { cls := .type "slice", data := .fields #[.none, .int j uj, .none] } } := by
  subst e
  exact slice_strN_ns hF hN h hs ht hsz
theorem slr_sn {i : Int} {ui : Tok} (hF : Fr h₀ L s.heap m) (hN : News h₀ L s.heap news) (e : Txt.slice x (some i) none = y) (hsz : x.length ≤ sizeLine) (h : ∀ h' t' k, Fr h₀ L h' m → News h₀ L h' news → Q (.str y t') { s with heap := h', toks := k })
    (hs : subscripted slice false (.str x t) (.ref s.heap.objs.size) = operate [.ref s.heap.objs.size, .str x t] (getItem (.str x t) (.ref s.heap.objs.size)) := by with_unfolding_all rfl)
    (ht : ∀ r, letTemporaryGo value (.str x t) r = pure () := by intro _; with_unfolding_all rfl) :
    wpAny (model prog w) A (subscriptTail value slice (.str x t) (.ref s.heap.objs.size)) Q E { s with heap := s.heap.push { cls := .type "slice", data := .fields #[.int i ui, .none, .none] } } := by
  subst e
  exact slice_strN_sn hF hN h hs ht hsz
theorem slr_item {i : Int} {u : Tok} (hr : fitsSsize i = true) (h1 : -(x.length : Int) ≤ i) (h2 : i < x.length) (e : Txt.item x i = y) (h : ∀ t' k, Q (.str y t') { s with toks := k })
    (hs : subscripted slice false (.str x t) (.int i u) = operate [.str x t, .int i u] (getItem (.str x t) (.int i u)) := by with_unfolding_all rfl)
    (ht : ∀ r, letTemporaryGo value (.str x t) r = pure () := by intro _; with_unfolding_all rfl) :
    wpAny (model prog w) A (subscriptTail value slice (.str x t) (.int i u)) Q E s := by
  subst e
  exact item_str hr h1 h2 (fun _ => h _ _) hs ht
theorem tlen {l : List Nat} {n : Nat} (h : l.length ≤ n) (h2 : n ≤ 1000000) : (⟨l.toArray⟩ : Str).length ≤ sizeLine := by
  rw [len_l, PySem.sizeLine_eq]
  omega
end

section
variable {prog : Program} {w : World} {A : Around} {E : Value → Shared → Prop} {s : Shared} {x y : Str} {t u : Tok} {Q : Value → Shared → Prop} {b : Bool}
theorem in_b (e : Txt.contains x y = b) (h : Q (.bool b) s) : wpAny (model prog w) A (compareOp .In (.str y u) (.str x t)) Q E s := by
  subst e
  exact P.in_str h
theorem eq_b (e : (x == y) = b) (h : Q (.bool b) s) : wpAny (model prog w) A (compareOp .Eq (.str x t) (.str y u)) Q E s := by
  subst e
  exact eq_str h
theorem ne_b (e : (!(x == y)) = b) (h : Q (.bool b) s) : wpAny (model prog w) A (compareOp .NotEq (.str x t) (.str y u)) Q E s := by
  subst e
  exact ne_str h
end
end
local macro_rules | `(tactic| walk_at "my enter") => `(tactic| (k_dflt (refine' code_def ?k1 ?k2 ?k3 ?k4 ?k5 ?kA ?kF ?kK ?k6 ?k7 ?k8 ?k9 ?kB ?_ ?c2 ?c3 ?c4 ?c5; (case kA => exact rfl); (case kF => exact rfl); (case kK => first | exact rfl | assumption); (case k1 => k_asm); (case k2 => k_asm); (case k3 => k_asm); (case k4 => k_asm); (case k5 => k_asm); (case k6 => k_is); (case k7 => k_is); (case k8 => ktr_room); (case k9 => exact BindsTo.of_eq rfl); (case c5 => decide); (case kB => exact locs rfl); (case c2 => exact rfl); (case c3 => exact rfl); (case c4 => exact rfl); k_whole; intro g' L' h' FG' F' N' B' X' T'; (try dsimp only); (try k_lift B'); (try k_fold))))
local macro_rules | `(tactic| walk_at "call ref") => `(tactic| (k_here; refine wpAny_call ?_; walk_at "my enter"))
local macro_rules | `(tactic| walk_at "my use") => `(tactic| ((case B => k_asm); (case F => k_asm); (case N => k_asm); (case X => k_asm); (case T => k_asm); (case hk => first | exact rfl | assumption); (case hdp => ktr_room); (case hun => ktr_units)))
local macro_rules | `(tactic| walk_at "my str") => `(tactic| first | with_reducible rfl | exact s46.symm | exact s92.symm | exact s97.symm | exact s65.symm | exact s120.symm | exact s85.symm | exact s76.symm | exact s70.symm | exact s81.symm | exact s117.symm | exact s108.symm | exact s36.symm | (decide +kernel))
local macro_rules | `(tactic| walk_at "my size") => `(tactic| ((try simp only [List.length_append, List.length_cons, List.length_nil]); rw [PySem.sizeLine_eq]; omega))
local macro_rules | `(tactic| walk_at "inplaceOp Add str str") => `(tactic| (k_here; k_dflt (refine' iadd_l ?hx ?hy ?hsz ?_; (case hx => walk_at "my str"); (case hy => walk_at "my str"); (case hsz => walk_at "my size"); intro _ _)))
local macro_rules | `(tactic| walk_at "binaryOp Add str str") => `(tactic| (k_here; k_dflt (refine' add_l ?hx ?hy ?hsz ?_; (case hx => walk_at "my str"); (case hy => walk_at "my str"); (case hsz => walk_at "my size"); intro _ _)))
local macro_rules | `(tactic| walk_at "my slice") => `(tactic| first | with_reducible assumption | exact sl_ns _ 1 | exact sl_sn _ 1 | exact sl_ns _ 80)
local macro_rules | `(tactic| walk_at "my tlen") => `(tactic| (refine' tlen ?q1 ?q2; (case q1 => first | assumption); (case q2 => decide)))
local macro_rules | `(tactic| walk_at "subscriptTail Name Slice str ref") => `(tactic| (k_here; (with_reducible show wpAny _ _ (subscriptTail _ (Expr.Slice (some _) (some _) none _) _ _) _ _ _); k_dflt (refine' slr_ss (s := ⟨_, _, _, _, _⟩) ?F ?N ?e ?hsz ?_; (case F => k_asm); (case N => k_asm); (case e => walk_at "my slice"); (case hsz => walk_at "my tlen")); intro h' t' k' F' N'))
local macro_rules | `(tactic| walk_at "subscriptTail Name Slice str ref") => `(tactic| (k_here; (with_reducible show wpAny _ _ (subscriptTail _ (Expr.Slice none (some _) none _) _ _) _ _ _); k_dflt (refine' slr_ns (s := ⟨_, _, _, _, _⟩) ?F ?N ?e ?hsz ?_; (case F => k_asm); (case N => k_asm); (case e => walk_at "my slice"); (case hsz => walk_at "my tlen")); intro h' t' k' F' N'))
local macro_rules | `(tactic| walk_at "subscriptTail Name Slice str ref") => `(tactic| (k_here; (with_reducible show wpAny _ _ (subscriptTail _ (Expr.Slice (some _) none none _) _ _) _ _ _); k_dflt (refine' slr_sn (s := ⟨_, _, _, _, _⟩) ?F ?N ?e ?hsz ?_; (case F => k_asm); (case N => k_asm); (case e => walk_at "my slice"); (case hsz => walk_at "my tlen")); intro h' t' k' F' N'))
local macro_rules | `(tactic| walk_at "compareOp In str str") => `(tactic| (k_here; k_dflt (first | (refine' in_b (b := true) ?e ?_; (case e => (try dsimp only); decide +kernel)) | (refine' in_b (b := false) ?e ?_; (case e => (try dsimp only); decide +kernel)))))
local macro_rules | `(tactic| walk_at "compareOp NotEq str str") => `(tactic| (k_here; k_dflt (first | (refine' ne_b (b := true) ?e ?_; (case e => (try dsimp only); decide +kernel)) | (refine' ne_b (b := false) ?e ?_; (case e => (try dsimp only); decide +kernel)))))
local macro_rules | `(tactic| walk_at "my use0") => `(tactic| ((case B => k_asm); (case F => k_asm); (case X => k_asm); (case T => k_asm); (case hk => first | exact rfl | assumption); (case hdp => ktr_room); (case hun => ktr_units)))
theorem reset_P1 {prog : Program} {w : World} {A : Around} {env : Env} {Q : Flow → Shared → Prop} {E : Value → Shared → Prop} {s : Shared} (h : Q .next s) : wpAny (model prog w) A (execs [] env) Q E s := by
  walk1
  exact h
section
section
variable (w : World) (mean : ExcName → Option Value) (mg mb : Str → Option Value)

theorem get_spec (news : List (Addr × Obj)) (S l : Addr) (vs : List Value) (ns : List Int) (i : Int) (t : Tok) (n k : Nat) (many : Int) (tm : Tok)
    (hi : IntsAre vs ns) (hlen : ns.length ≤ 63) (h0 : 0 ≤ i) (h1 : i < 1000) (hm : 0 < many) (hm' : many < 1000) (ho : OwnOff news [S, l]) (hSl : @Ne Nat l S) :
    CallOk w mean mg mb 268 1 8 [.ref S, .int many tm] ((S, listOf #[.ref l, .int i t] n) :: (l, listOf vs.toArray k) :: news)
      (fun v led' => ∃ r t' u, v = .int r u ∧ 0 ≤ r ∧ r < many ∧ led' = (S, listOf #[.ref l, .int (i + 1) t'] n) :: (l, listOf vs.toArray k) :: news) := by
  intro dp un gd cn cs a ccd cl outer A₀ base h₀ L m s Q E B F X N T hk hdp hun hret
  refine wpAny_call ?_
  k_dflt cell_enter
  k_steps
  all_goals refine hret _ _ _ _ ⟨_, _, _, rfl, ?_, ?_, rfl⟩ (by k_asm) (by k_asm)
  all_goals first | exact Int.fmod_nonneg_of_pos _ hm | exact Int.fmod_lt_of_pos _ hm

end
end
theorem reset_P2 {prog : Program} {w : World} {A : Around} {env : Env} {Q : Flow → Shared → Prop} {E : Value → Shared → Prop} {s : Shared} (h : Q .next s) : wpAny (model prog w) A (execs [] env) Q E s := by
  walk1
  exact h
section
noncomputable def great (c : Nat) : Nat := if 97 ≤ c ∧ c ≤ 122 then c - 32 else c
noncomputable def small (c : Nat) : Nat := if 65 ≤ c ∧ c ≤ 90 then c + 32 else c
noncomputable def plainC (c : Nat) : Bool := (decide (97 ≤ c) && decide (c ≤ 122)) || (decide (65 ≤ c) && decide (c ≤ 90)) || (decide (48 ≤ c) && decide (c ≤ 57)) || c == 95
noncomputable def Sign4 (c : Nat) : Prop := c = 46 ∨ c = 92 ∨ c = 97 ∨ c = 65
noncomputable def one (mk c : Nat) : List Nat := if mk = 85 then [great c] else if mk = 81 then (if plainC c then [c] else [92, c]) else [small c]
noncomputable def many (mk : Nat) (x : List Nat) : List Nat := x.flatMap (one mk)

theorem many_take {mk : Nat} {x : List Nat} {i c : Nat} (h : x[i]? = some c) : many mk (x.take (i + 1)) = many mk (x.take i) ++ one mk c := by
  rw [List.take_add_one, h]
  simp [many]
theorem one_len (mk c : Nat) : (one mk c).length ≤ 2 := by
  unfold one
  repeat' split
  all_goals simp
theorem many_len (mk : Nat) (x : List Nat) : (many mk x).length ≤ 2 * x.length := by
  unfold many
  induction x with
  | nil => simp
  | cons c r ih =>
    rw [List.flatMap_cons, List.length_append, List.length_cons]
    have := one_len mk c
    omega

section
variable (w : World) (mean : ExcName → Option Value) (mg mb : Str → Option Value)

theorem great_spec (news : List (Addr × Obj)) (c : Nat) (hc : Sign4 c) (t1 : Tok) :
    CallOk w mean mg mb 97 1 8 [.str ⟨#[c]⟩ t1] news (fun v led' => led' = news ∧ ∃ t, v = .str ⟨#[great c]⟩ t) := by
  intro dp un gd cn cs a ccd cl outer A₀ base h₀ L m s Q E B F X N T hk hdp hun hret
  rcases hc with rfl | rfl | rfl | rfl
  all_goals simp only [s46, s92, s97, s65]
  all_goals (
    walk_at "call ref"
    k_steps)
  all_goals refine hret _ _ _ _ ⟨rfl, ?_⟩ (by k_asm) (by k_asm)
  all_goals (refine ⟨_, congrArg (fun z => Value.str z _) ?_⟩; decide +kernel)
theorem small_spec (news : List (Addr × Obj)) (c : Nat) (hc : Sign4 c) (t1 : Tok) :
    CallOk w mean mg mb 104 1 8 [.str ⟨#[c]⟩ t1] news (fun v led' => led' = news ∧ ∃ t, v = .str ⟨#[small c]⟩ t) := by
  intro dp un gd cn cs a ccd cl outer A₀ base h₀ L m s Q E B F X N T hk hdp hun hret
  rcases hc with rfl | rfl | rfl | rfl
  all_goals simp only [s46, s92, s97, s65]
  all_goals (
    walk_at "call ref"
    k_steps)
  all_goals refine hret _ _ _ _ ⟨rfl, ?_⟩ (by k_asm) (by k_asm)
  all_goals (refine ⟨_, congrArg (fun z => Value.str z _) ?_⟩; decide +kernel)
theorem plain_spec (news : List (Addr × Obj)) (c : Nat) (hc : Sign4 c ∨ c = 120) (t1 : Tok) :
    CallOk w mean mg mb 111 1 8 [.str ⟨#[c]⟩ t1] news (fun v led' => led' = news ∧ v = .bool (plainC c)) := by
  intro dp un gd cn cs a ccd cl outer A₀ base h₀ L m s Q E B F X N T hk hdp hun hret
  rcases hc with (rfl | rfl | rfl | rfl) | rfl
  all_goals simp only [s46, s92, s97, s65, s120]
  all_goals (
    walk_at "call ref"
    k_steps)
  all_goals refine hret _ _ _ _ ⟨rfl, ?_⟩ (by k_asm) (by k_asm)
  all_goals first | rfl | (refine congrArg Value.bool ?_; decide +kernel)
local macro_rules | `(tactic| walk_at "call ref") => `(tactic| (k_here; (with_reducible show wpAny _ _ (call (Value.ref 97) _) _ _ _); k_dflt (refine' CallOk.use (great_spec _ _ _ _ _ _ ?hc _) ?B ?F ?X ?N ?T ?hk ?hdp ?hun ?_; walk_at "my use"; (case hc => assumption)); intro v' led' h' tk' R' F' N'; obtain ⟨e', t', r'⟩ := R'; subst e'; subst r'))
local macro_rules | `(tactic| walk_at "call ref") => `(tactic| (k_here; (with_reducible show wpAny _ _ (call (Value.ref 104) _) _ _ _); k_dflt (refine' CallOk.use (small_spec _ _ _ _ _ _ ?hc _) ?B ?F ?X ?N ?T ?hk ?hdp ?hun ?_; walk_at "my use"; (case hc => assumption)); intro v' led' h' tk' R' F' N'; obtain ⟨e', t', r'⟩ := R'; subst e'; subst r'))
local macro_rules | `(tactic| walk_at "call ref") => `(tactic| (k_here; (with_reducible show wpAny _ _ (call (Value.ref 111) _) _ _ _); k_dflt (refine' CallOk.use (plain_spec _ _ _ _ _ _ ?hc _) ?B ?F ?X ?N ?T ?hk ?hdp ?hun ?_; walk_at "my use"; (case hc => first | (left; assumption) | assumption)); intro v' led' h' tk' R' F' N'; obtain ⟨e', r'⟩ := R'; subst e'; subst r'))
local macro_rules | `(tactic| walk_at "exec For Name Name cons nil") => `(tactic| (k_here; (with_reducible show wpAny _ _ (exec (Stmt.For (Expr.Name (Str.ofString "sign") _) _ _ _ _) _) _ _ _); refine stop ?_))

theorem cased_U (news : List (Addr × Obj)) (mk : Nat) (M : Str) (hM : (M = Str.ofString "U" ∧ mk = 85) ∨ (M = Str.ofString "Q" ∧ mk = 81) ∨ (M = Str.ofString "L" ∧ mk = 76) ∨ (M = Str.ofString "F" ∧ mk = 70))
    (x : List Nat) (t1 t2 : Tok) (hx : ∀ c ∈ x, Sign4 c) (hl : x.length ≤ 1000) :
    CallOk w mean mg mb 118 4 32 [.str M t1, .str ⟨x.toArray⟩ t2] news (fun v led' => led' = news ∧ ∃ t, v = .str ⟨(many mk x).toArray⟩ t) := by
  intro dp un gd cn cs a ccd cl outer A₀ base h₀ L m s Q E B F X N T hk hdp hun hret
  refine wpAny_call ?_
  k_dflt cell_enter
  rcases hM with ⟨rfl, hmk⟩ | ⟨rfl, hmk⟩ | ⟨rfl, hmk⟩ | ⟨rfl, hmk⟩
  all_goals k_steps
  all_goals unfold Stop
  all_goals (rename Fr _ _ _ _ => F1)
  all_goals (rename News _ _ _ _ => N1)
  all_goals refine For_invVF F1 (by rfl) (by rfl) ?_
  all_goals k_steps
  all_goals (
    refine loop_text1 (Str.ofString "out") (fun i t => .str ⟨(many mk (x.take i)).toArray⟩ t) (by rfl) F1 N1 (by rfl) ?_ ?_
    · intro i c t ta h tk I o hc hI F2 N2
      clear F1 N1
      simp only [List.getElem?_toArray] at hc
      have hc4 : Sign4 c := hx c (List.mem_of_getElem? hc)
      have hz := many_len mk (x.take i)
      have hz2 : (x.take i).length ≤ x.length := by simp; omega
      k_steps
      all_goals (show TurnEnd _ _ _ _ _ _ _)
      all_goals refine turn_str (by k_asm) (by k_asm) (fun _ h => h) hI (by with_unfolding_all rfl) ?_ ?_
      all_goals first
        | (intro z h1 h2; with_unfolding_all (simp only [h1, h2, if_false]))
        | (intro t; rw [many_take hc]; simp only [one, hmk]; simp_all; done)
        | (intro t; rw [many_take hc, ← s92, show (⟨#[92]⟩ : Str) = ⟨[92].toArray⟩ from rfl, show (⟨#[c]⟩ : Str) = ⟨[c].toArray⟩ from rfl, app_l, app_l]; simp only [one, hmk]; simp_all; done)
        | (intro t; rw [many_take hc]; simp only [one, hmk]; exfalso; rcases hc4 with rfl | rfl | rfl | rfl <;> simp_all; done)
        | skip
    · intro u t h tk F2 N2
      clear F1 N1
      k_steps
      rw [show List.take x.toArray.size x = x by simp]
      exact hret _ _ _ _ ⟨rfl, _, rfl⟩ (by k_asm) (by k_asm))
end
end
theorem reset_P3 {prog : Program} {w : World} {A : Around} {env : Env} {Q : Flow → Shared → Prop} {E : Value → Shared → Prop} {s : Shared} (h : Q .next s) : wpAny (model prog w) A (execs [] env) Q E s := by
  walk1
  exact h
section

noncomputable def casedL (mk : Nat) (x : List Nat) : List Nat := if mk = 117 then many 85 (x.take 1) ++ x.drop 1 else if mk = 108 then many 76 (x.take 1) ++ x.drop 1 else many mk x
theorem casedL_len (mk : Nat) (x : List Nat) : (casedL mk x).length ≤ 2 * x.length := by
  unfold casedL
  split
  · rw [List.length_append]
    have h1 := many_len 85 (x.take 1)
    simp at h1 ⊢
    omega
  · split
    · rw [List.length_append]
      have h1 := many_len 76 (x.take 1)
      simp at h1 ⊢
      omega
    · exact many_len mk x
section
variable (w : World) (mean : ExcName → Option Value) (mg mb : Str → Option Value)
noncomputable def MarkStr (M : Str) (mk : Nat) : Prop := (M = Str.ofString "U" ∧ mk = 85) ∨ (M = Str.ofString "Q" ∧ mk = 81) ∨ (M = Str.ofString "L" ∧ mk = 76) ∨ (M = Str.ofString "F" ∧ mk = 70) ∨ (M = Str.ofString "u" ∧ mk = 117) ∨ (M = Str.ofString "l" ∧ mk = 108)
section
local macro_rules | `(tactic| walk_at "call ref") => `(tactic| (k_here; (with_reducible show wpAny _ _ (call (Value.ref 118) [Value.str (Str.ofString "U") _, _]) _ _ _); k_dflt (refine' CallOk.use (cased_U _ _ _ _ _ 85 _ (.inl ⟨rfl, rfl⟩) _ _ _ ?hx ?hl) ?B ?F ?X ?N ?T ?hk ?hdp ?hun ?_; walk_at "my use"; (case hx => assumption); (case hl => assumption)); intro v' led' h' tk' R' F' N'; obtain ⟨e', t', r'⟩ := R'; subst e'; subst r'))
local macro_rules | `(tactic| walk_at "call ref") => `(tactic| (k_here; (with_reducible show wpAny _ _ (call (Value.ref 118) [Value.str (Str.ofString "L") _, _]) _ _ _); k_dflt (refine' CallOk.use (cased_U _ _ _ _ _ 76 _ (.inr (.inr (.inl ⟨rfl, rfl⟩))) _ _ _ ?hx ?hl) ?B ?F ?X ?N ?T ?hk ?hdp ?hun ?_; walk_at "my use"; (case hx => assumption); (case hl => assumption)); intro v' led' h' tk' R' F' N'; obtain ⟨e', t', r'⟩ := R'; subst e'; subst r'))
theorem cased_spec (news : List (Addr × Obj)) (mk : Nat) (M : Str) (hM : MarkStr M mk)
    (x : List Nat) (t1 t2 : Tok) (hx : ∀ c ∈ x, Sign4 c) (hl : x.length ≤ 1000) :
    CallOk w mean mg mb 118 8 64 [.str M t1, .str ⟨x.toArray⟩ t2] news (fun v led' => led' = news ∧ ∃ t, v = .str ⟨(casedL mk x).toArray⟩ t) := by
  intro dp un gd cn cs a ccd cl outer A₀ base h₀ L m s Q E B F X N T hk hdp hun hret
  rcases hM with h | h | h | h | ⟨rfl, rfl⟩ | ⟨rfl, rfl⟩
  · obtain ⟨rfl, rfl⟩ := h
    exact (cased_U w mean mg mb news 85 _ (.inl ⟨rfl, rfl⟩) x t1 t2 hx hl) _ _ _ _ _ _ _ _ _ _ _ _ _ _ _ _ _ B F X N T hk (by omega) (by omega) hret
  · obtain ⟨rfl, rfl⟩ := h
    exact (cased_U w mean mg mb news 81 _ (.inr (.inl ⟨rfl, rfl⟩)) x t1 t2 hx hl) _ _ _ _ _ _ _ _ _ _ _ _ _ _ _ _ _ B F X N T hk (by omega) (by omega) hret
  · obtain ⟨rfl, rfl⟩ := h
    exact (cased_U w mean mg mb news 76 _ (.inr (.inr (.inl ⟨rfl, rfl⟩))) x t1 t2 hx hl) _ _ _ _ _ _ _ _ _ _ _ _ _ _ _ _ _ B F X N T hk (by omega) (by omega) hret
  · obtain ⟨rfl, rfl⟩ := h
    exact (cased_U w mean mg mb news 70 _ (.inr (.inr (.inr ⟨rfl, rfl⟩))) x t1 t2 hx hl) _ _ _ _ _ _ _ _ _ _ _ _ _ _ _ _ _ B F X N T hk (by omega) (by omega) hret
  all_goals (
    refine wpAny_call ?_
    k_dflt cell_enter
    have hx1 : ∀ c ∈ x.take 1, Sign4 c := fun c h => hx c (List.mem_of_mem_take h)
    have hl1 : (x.take 1).length ≤ 1000 := by simp; omega
    have hz := many_len 85 (x.take 1)
    have hz2 := many_len 76 (x.take 1)
    have hz3 : (x.drop 1).length ≤ 1000 := by simp; omega
    k_steps)
  all_goals exact hret _ _ _ _ ⟨rfl, _, rfl⟩ (by k_asm) (by k_asm)
end
end
end
theorem reset_P4 {prog : Program} {w : World} {A : Around} {env : Env} {Q : Flow → Shared → Prop} {E : Value → Shared → Prop} {s : Shared} (h : Q .next s) : wpAny (model prog w) A (execs [] env) Q E s := by
  walk1
  exact h
section
/-- one row of the stack: its list, its parts' list, its mark -/
structure Row where
  a : Nat
  b : Nat
  h : Str
  c : Nat
  t : Tok
  n1 : Nat
  n2 : Nat
@[irreducible] noncomputable def items (rows : List Row) : Array Value := (rows.reverse.map fun r => Value.ref r.a).toArray
theorem items_cons (r : Row) (rest : List Row) : items (r :: rest) = (items rest).push (.ref r.a) := by
  unfold items
  simp
theorem items_size (rows : List Row) : (items rows).size = rows.length := by
  unfold items
  simp
theorem items_top (r : Row) (rest : List Row) : (items (r :: rest))[rest.length]? = some (.ref r.a) := by
  rw [items_cons, ← items_size rest]
  simp
noncomputable abbrev rowA (r : Row) : Addr × Obj := (r.a, listOf #[.str r.h r.t, .ref r.b] r.n1)
noncomputable abbrev rowB (r : Row) (ps : Array Value) : Addr × Obj := (r.b, listOf ps r.n2)
noncomputable def Led : List Row → List (Addr × Obj)
  | [] => []
  | r :: rest => rowA r :: rowB r #[] :: Led rest
noncomputable def addrs : List Row → List Nat
  | [] => []
  | r :: rest => r.a :: r.b :: addrs rest
/-- the stack's own addresses are apart, and off the rest -/
noncomputable def Apart (S : Nat) (rows : List Row) (news : List (Addr × Obj)) : Prop := (S :: addrs rows).Nodup ∧ ∀ p ∈ news, ∀ b ∈ S :: addrs rows, @Ne Nat p.1 b
theorem led_addrs {rows : List Row} {p : Addr × Obj} (h : p ∈ Led rows) : p.1 ∈ addrs rows := by
  induction rows with
  | nil => cases h
  | cons r rest ih =>
    rcases List.mem_cons.mp h with rfl | h
    · exact .head _
    · rcases List.mem_cons.mp h with rfl | h
      · exact .tail _ (.head _)
      · exact .tail _ (.tail _ (ih h))
theorem Apart.ne {S : Nat} {r : Row} {rest : List Row} {news : List (Addr × Obj)} (h : Apart S (r :: rest) news) : @Ne Nat r.a S ∧ @Ne Nat r.b S ∧ @Ne Nat r.b r.a := by
  have h1 := h.1
  simp only [addrs, List.nodup_cons, List.mem_cons, not_or] at h1
  exact ⟨fun e => h1.1.1 e.symm, fun e => h1.1.2.1 e.symm, fun e => h1.2.1.1 e.symm⟩
theorem Apart.tail {S : Nat} {r : Row} {rest : List Row} {news : List (Addr × Obj)} (h : Apart S (r :: rest) news) : Apart S rest news := by
  refine ⟨?_, fun p hp b hb => h.2 p hp b ?_⟩
  · have h1 := h.1
    simp only [addrs, List.nodup_cons, List.mem_cons, not_or] at h1 ⊢
    exact ⟨h1.1.2.2, h1.2.2.2⟩
  · rcases List.mem_cons.mp hb with rfl | hb
    · exact .head _
    · exact .tail _ (.tail _ (.tail _ hb))
/-- what is below the top is off the top's addresses -/
theorem Apart.off {S : Nat} {r : Row} {rest : List Row} {news : List (Addr × Obj)} (h : Apart S (r :: rest) news) : OwnOff (Led rest ++ news) [S, r.a, r.b] := by
  intro p hp b hb
  have h1 := h.1
  simp only [addrs, List.nodup_cons, List.mem_cons, not_or] at h1
  have hb' : b = S ∨ b = r.a ∨ b = r.b := by simpa using hb
  rcases List.mem_append.mp hp with hp | hp
  · have hq := led_addrs hp
    intro e
    rcases hb' with rfl | rfl | rfl
    · exact h1.1.2.2 (e ▸ hq)
    · exact h1.2.1.2 (e ▸ hq)
    · exact h1.2.2.1 (e ▸ hq)
  · refine h.2 p hp b ?_
    rcases hb' with rfl | rfl | rfl
    · exact .head _
    · exact .tail _ (.head _)
    · exact .tail _ (.tail _ (.head _))
/-- a row that is popped goes to the rest -/
theorem Apart.pop {S : Nat} {r : Row} {rest : List Row} {news : List (Addr × Obj)} {o1 o2 : Obj} (h : Apart S (r :: rest) news) : Apart S rest ((r.a, o1) :: (r.b, o2) :: news) := by
  have h1 := h.1
  simp only [addrs, List.nodup_cons, List.mem_cons, not_or] at h1
  refine ⟨h.tail.1, fun p hp b hb e => ?_⟩
  have hb' : b = S ∨ b ∈ addrs rest := List.mem_cons.mp hb
  rcases List.mem_cons.mp hp with rfl | hp
  · rcases hb' with rfl | hb'
    · exact h1.1.1 e.symm
    · exact h1.2.1.2 (by rw [show r.a = b from e]; exact hb')
  · rcases List.mem_cons.mp hp with rfl | hp
    · rcases hb' with rfl | hb'
      · exact h1.1.2.1 e.symm
      · exact h1.2.2.1 (by rw [show r.b = b from e]; exact hb')
    · exact h.tail.2 p hp b hb e
/-- a new object -/
theorem Apart.more {S : Nat} {rows : List Row} {news : List (Addr × Obj)} {p : Addr × Obj} (h : Apart S rows news) (hp : ∀ b ∈ S :: addrs rows, @Ne Nat p.1 b) : Apart S rows (p :: news) :=
  ⟨h.1, fun q hq b hb => by
    rcases List.mem_cons.mp hq with rfl | hq
    · exact hp b hb
    · exact h.2 q hq b hb⟩

section
variable {prog : Program} {w : World} {A : Around} {E : Value → Shared → Prop} {s : Shared} {h₀ : Heap} {L S : Addr} {m : Str → Option Value} {led led' : List (Addr × Obj)} {r : Row} {rows rest : List Row} {n : Nat} {Q : Value → Shared → Prop}
theorem stk_len (N : News h₀ L s.heap led) (hm : (S, listOf (items rows) n) ∈ led) (hz : rows.length ≤ 1000) (h : ∀ t k, Q (.int (rows.length : Int) t) { s with toks := k }) : wpAny (model prog w) A (call (.builtin "len") [.ref S]) Q E s := by
  have hl : s.heap.IsList S (items rows) := PySem.IsL.isList (n := n) (N _ hm).1
  refine PyProof.Rows.len_list hl ?_ ?_
  · rw [items_size]; omega
  · rw [items_size]; exact h _ _
theorem stk_top {value slice : Expr} {i : Int} {u : Tok} (N : News h₀ L s.heap led) (hm : (S, listOf (items (r :: rest)) n) ∈ led) (hi : i = (rest.length : Int)) (hz : rest.length ≤ 1000) (h : Q (.ref r.a) s)
    (hs : subscripted slice false (.ref S) (.int i u) = operate [.ref S, .int i u] (getItem (.ref S) (.int i u)) := by with_unfolding_all rfl) : wpAny (model prog w) A (subscriptTail value slice (.ref S) (.int i u)) Q E s := by
  subst hi
  have hl : s.heap.IsList S (items (r :: rest)) := PySem.IsL.isList (n := n) (N _ hm).1
  refine item_litK (vs := (items (r :: rest)).toList) (by simpa using hl) (by omega) (by omega) ?_ h hs
  rw [Int.toNat_natCast, Array.getElem?_toList]
  exact items_top r rest
theorem kl_last_snoc (y : Value) : ∀ p : List Value, kl_last (p ++ [y]) = some (p, y)
  | [] => rfl
  | x :: p => by
    show (match kl_last (p ++ [y]) with | some (q, z) => some (x :: q, z) | none => some ([], x)) = some (x :: p, y)
    rw [kl_last_snoc y p]
theorem stk_pop (F : Fr h₀ L s.heap m) (N : News h₀ L s.heap led) (hz : rest.length ≤ 1000) (U : Upd S (listOf (items (r :: rest)) n) (listOf (items rest) (n + 1)) led led')
    (h : ∀ h', Fr h₀ L h' m → News h₀ L h' led' → Q (.ref r.a) { s with heap := h' }) : wpAny (model prog w) A (call (.builtin "list.pop") [.ref S]) Q E s := by
  have e : items rest = (items rest).toList.toArray := by simp
  rw [e] at U
  refine kl_pop F N (p := (items rest).toList) ?_ U ?_ h
  · rw [items_cons, Array.toList_push]
    exact kl_last_snoc _ _
  · rw [Array.length_toList, items_size, List.length_cons, PySem.sizeLine_eq]
    omega
theorem stk_push (F : Fr h₀ L s.heap m) (N : News h₀ L s.heap led) (hz : rest.length ≤ 1000) (U : Upd S (listOf (items rest) n) (listOf (items (r :: rest)) (n + 1)) led led')
    (h : ∀ h', Fr h₀ L h' m → News h₀ L h' led' → Q .none { s with heap := h' }) : wpAny (model prog w) A (call (.builtin "list.append") [.ref S, .ref r.a]) Q E s := by
  rw [items_cons] at U
  exact append_K F N U h (by rw [items_size, PySem.sizeLine_eq]; omega)
end

noncomputable abbrev tupOf (vs : List Value) : Obj := { cls := .type "tuple", data := .seq vs.toArray }
noncomputable def short (c : Nat) : Bool := c == 117 || c == 108
noncomputable def RowsOk : List Row → Prop
  | [] => False
  | r :: rest => (rest = [] ∧ r.h = Str.ofString "" ∧ r.c = 0) ∨ (MarkStr r.h r.c ∧ RowsOk rest)
noncomputable def addT : List Row → List Nat → List Row × List Nat
  | [], x => ([], x)
  | r :: rest, x => if short r.c = true then addT rest (casedL r.c x) else (r :: rest, x)
theorem one_sign4 (mk c : Nat) (h : Sign4 c) : ∀ d ∈ one mk c, Sign4 d := by
  intro d hd
  unfold one at hd
  have g : Sign4 (great c) := by rcases h with rfl | rfl | rfl | rfl <;> (unfold Sign4; decide)
  have sm : Sign4 (small c) := by rcases h with rfl | rfl | rfl | rfl <;> (unfold Sign4; decide)
  repeat' split at hd
  · rw [List.mem_singleton.mp hd]; exact g
  · rw [List.mem_singleton.mp hd]; exact h
  · rcases List.mem_cons.mp hd with rfl | hd
    · exact .inr (.inl rfl)
    · rw [List.mem_singleton.mp hd]; exact h
  · rw [List.mem_singleton.mp hd]; exact sm
theorem many_sign4 (mk : Nat) {x : List Nat} (h : ∀ c ∈ x, Sign4 c) : ∀ d ∈ many mk x, Sign4 d := by
  intro d hd
  obtain ⟨c, hc, hd⟩ := List.mem_flatMap.mp hd
  exact one_sign4 mk c (h c hc) d hd
theorem casedL_sign4 (mk : Nat) {x : List Nat} (h : ∀ c ∈ x, Sign4 c) : ∀ d ∈ casedL mk x, Sign4 d := by
  intro d hd
  unfold casedL at hd
  split at hd
  · rcases List.mem_append.mp hd with hd | hd
    · exact many_sign4 85 (fun c hc => h c (List.mem_of_mem_take hc)) d hd
    · exact h d (List.mem_of_mem_drop hd)
  · split at hd
    · rcases List.mem_append.mp hd with hd | hd
      · exact many_sign4 76 (fun c hc => h c (List.mem_of_mem_take hc)) d hd
      · exact h d (List.mem_of_mem_drop hd)
    · exact many_sign4 mk h d hd
theorem many_len1 (mk : Nat) (hm : mk ≠ 81) (x : List Nat) : (many mk x).length = x.length := by
  unfold many
  induction x with
  | nil => rfl
  | cons c r ih =>
    rw [List.flatMap_cons, List.length_append, List.length_cons, ih]
    unfold one
    split
    · simp; omega
    · simp; omega
theorem casedL_short {c : Nat} (h : short c = true) (x : List Nat) : (casedL c x).length = x.length := by
  unfold casedL
  simp only [short, Bool.or_eq_true, beq_iff_eq] at h
  split
  · rw [List.length_append, many_len1 85 (by decide)]
    simp; omega
  · rw [if_pos (h.resolve_left ‹_›), List.length_append, many_len1 76 (by decide)]
    simp; omega

theorem tup_item {prog : Program} {w : World} {A : Around} {E : Value → Shared → Prop} {s : Shared} {h₀ : Heap} {L p : Addr} {led : List (Addr × Obj)} {vs : List Value} {k : Int} {j : Nat} {u : Tok} {x : Value} {value slice : Expr} {Q : Value → Shared → Prop}
    (N : News h₀ L s.heap led) (hm : (p, tupOf vs) ∈ led) (hlo : -(2 ^ 63) ≤ k) (hhi : k < 2 ^ 63) (hj : seqIndex? k vs.length = some j) (hx : vs[j]? = some x) (h : Q x s)
    (hs : subscripted slice false (.ref p) (.int k u) = operate [.ref p, .int k u] (getItem (.ref p) (.int k u)) := by with_unfolding_all rfl) :
    wpAny (model prog w) A (subscriptTail value slice (.ref p) (.int k u)) Q E s :=
  item_tupleT ⟨_, (N _ hm).1, rfl, 0, rfl⟩ hlo hhi hj hx h hs
theorem tup_head {prog : Program} {w : World} {A : Around} {E : Value → Shared → Prop} {s : Shared} {h₀ : Heap} {L p : Addr} {led : List (Addr × Obj)} {vs : List Value} {u : Tok} {x : Value} {value slice : Expr} {Q : Value → Shared → Prop}
    (N : News h₀ L s.heap led) (hm : (p, tupOf (x :: vs)) ∈ led) (h : Q x s)
    (hs : subscripted slice false (.ref p) (.int 0 u) = operate [.ref p, .int 0 u] (getItem (.ref p) (.int 0 u)) := by with_unfolding_all rfl) :
    wpAny (model prog w) A (subscriptTail value slice (.ref p) (.int 0 u)) Q E s :=
  tup_item (j := 0) N hm (by decide) (by decide) (by unfold seqIndex?; simp) rfl h hs
theorem allLt_mem {d : Addr} : ∀ {l : List (Addr × Obj)}, AllLt d l → ∀ p ∈ l, @LT.lt Nat _ p.1 d
  | [], _, _, h => nomatch h
  | q :: l, h, p, hp => by
    rcases List.mem_cons.mp hp with rfl | hp
    · exact h.1
    · exact allLt_mem h.2 p hp
theorem addrs_lt {d : Nat} {rows : List Row} {news : List (Addr × Obj)} (h : AllLt d (Led rows ++ news)) : ∀ b ∈ addrs rows, b < d := by
  induction rows with
  | nil => intro b hb; cases hb
  | cons r rest ih =>
    intro b hb
    have h2 : AllLt d (rowA r :: rowB r #[] :: (Led rest ++ news)) := h
    simp only [addrs, List.mem_cons] at hb
    rcases hb with rfl | rfl | hb
    · exact h2.1
    · exact h2.2.1
    · exact ih h2.2.2 b hb
end
local macro_rules | `(tactic| walk_at "my mem") => `(tactic| first | exact List.mem_cons_self | with_reducible assumption | (refine' List.mem_cons_of_mem _ ?_; walk_at "my mem"))
local macro_rules | `(tactic| walk_at "my rows") => `(tactic| first | assumption | (simp only [List.length_cons]; omega) | omega)
local macro_rules | `(tactic| walk_at "call builtin:len") => `(tactic| (k_here; (with_reducible show wpAny _ _ (call (Value.builtin "len") [Value.ref _]) _ _ _); k_dflt (refine' stk_len ?N ?hm ?hz ?_; (case N => k_asm); (case hm => walk_at "my mem"); (case hz => walk_at "my rows")); intro t' k'))
local macro_rules | `(tactic| walk_at "subscriptTail") => `(tactic| (k_here; (with_reducible show wpAny _ _ (subscriptTail _ _ (Value.ref _) (Value.int _ _)) _ _ _); k_dflt (refine' stk_top ?N ?hm ?hi ?hz ?_ ?hs; (case N => k_asm); (case hm => walk_at "my mem"); (case hi => (simp only [List.length_cons]; omega)); (case hz => walk_at "my rows"); (case hs => with_unfolding_all rfl))))
local macro_rules | `(tactic| walk_at "call builtin:list.pop") => `(tactic| (k_here; (with_reducible show wpAny _ _ (call (Value.builtin _) [Value.ref _]) _ _ _); k_dflt (refine' stk_pop ?F ?N ?hz ?U ?_; (case F => k_asm); (case N => k_asm); (case U => k_upd); (case hz => walk_at "my rows")); intro h' F' N'))
local macro_rules | `(tactic| walk_at "subscriptTail") => `(tactic| (k_here; (with_reducible show wpAny _ _ (subscriptTail _ _ (Value.ref _) (Value.int _ _)) _ _ _); k_dflt (refine' tup_item ?N ?hm ?hlo ?hhi ?hj ?hx ?_ ?hs; (case N => k_asm); (case hm => walk_at "my mem"); (case hlo => decide); (case hhi => decide); (case hj => rfl); (case hx => rfl); (case hs => with_unfolding_all rfl))))
local macro_rules | `(tactic| walk_at "subscriptTail") => `(tactic| (k_here; (with_reducible show wpAny _ _ (subscriptTail _ _ (Value.ref _) (Value.int 0 _)) _ _ _); k_dflt (refine' tup_head ?N ?hm ?_ ?hs; (case N => k_asm); (case hm => walk_at "my mem"); (case hs => with_unfolding_all rfl))))
theorem reset_P5 {prog : Program} {w : World} {A : Around} {env : Env} {Q : Flow → Shared → Prop} {E : Value → Shared → Prop} {s : Shared} (h : Q .next s) : wpAny (model prog w) A (execs [] env) Q E s := by
  walk1
  exact h
section
section
variable (w : World) (mean : ExcName → Option Value) (mg mb : Str → Option Value)
theorem close_empty (S n : Nat) (r : Row) (rest : List Row) (news : List (Addr × Obj)) (hA : Apart S (r :: rest) news) (hz : rest.length ≤ 900) :
    CallOk w mean mg mb 216 1 8 [.ref S] ((S, listOf (items (r :: rest)) n) :: rowA r :: rowB r #[] :: (Led rest ++ news))
      (fun v led' => v = .none ∧ led' = (S, listOf (items rest) (n + 1)) :: rowA r :: rowB r #[] :: (Led rest ++ news)) := by
  intro dp un gd cn cs a ccd cl outer A₀ base h₀ L m s Q E B F X N T hk hdp hun hret
  have hne := hA.ne
  have hoff := hA.off
  refine wpAny_call ?_
  k_dflt cell_enter
  k_steps
  all_goals exact hret _ _ _ _ ⟨rfl, rfl⟩ (by k_asm) (by k_asm)

/-- what the two calls on a text leave: the text is laid in the row where it stops -/
noncomputable def Laid (S : Nat) (rows : List Row) (x : List Nat) (news : List (Addr × Obj)) (v : Value) (led' : List (Addr × Obj)) : Prop :=
  v = .none ∧ ∃ r' rest' y n' k' p' t1 t2 news', addT rows x = (r' :: rest', y) ∧
    led' = (S, listOf (items (r' :: rest')) n') :: rowA r' :: (r'.b, listOf #[.ref p'] k') :: (Led rest' ++ news') ∧
    (p', tupOf [.str (Str.ofString "text") t1, .str ⟨y.toArray⟩ t2]) ∈ news' ∧ Apart S (r' :: rest') news' ∧ ∀ q ∈ news, q ∈ news'
noncomputable def AddText (rows : List Row) : Prop :=
  ∀ (S n p : Nat) (x : List Nat) (t1 t2 : Tok) (news : List (Addr × Obj)), RowsOk rows → Apart S rows news → rows.length ≤ 60 → (p, tupOf [.str (Str.ofString "text") t1, .str ⟨x.toArray⟩ t2]) ∈ news → (∀ c ∈ x, Sign4 c) → x.length ≤ 900 →
    CallOk w mean mg mb 209 (4 * rows.length + 12) (32 * rows.length + 100) [.ref S, .ref p] ((S, listOf (items rows) n) :: (Led rows ++ news)) (Laid S rows x news)
noncomputable def CloseText (r : Row) (rest : List Row) : Prop :=
  ∀ (S n k p : Nat) (x : List Nat) (t1 t2 : Tok) (news : List (Addr × Obj)), MarkStr r.h r.c → RowsOk rest → Apart S (r :: rest) news → rest.length ≤ 59 → (p, tupOf [.str (Str.ofString "text") t1, .str ⟨x.toArray⟩ t2]) ∈ news → (∀ c ∈ x, Sign4 c) →
    x.length ≤ 900 → (casedL r.c x).length ≤ 900 →
    CallOk w mean mg mb 216 (4 * rest.length + 14) (32 * rest.length + 116) [.ref S] ((S, listOf (items (r :: rest)) n) :: rowA r :: (r.b, listOf #[.ref p] k) :: (Led rest ++ news)) (Laid S rest (casedL r.c x) news)
section
local macro_rules | `(tactic| walk_at "call ref") => `(tactic| (k_here; (with_reducible show wpAny _ _ (call (Value.ref 118) _) _ _ _); k_dflt (refine' CallOk.use (cased_spec _ _ _ _ _ _ _ ?hM _ _ _ ?hx ?hl) ?B ?F ?X ?N ?T ?hk ?hdp ?hun ?_; walk_at "my use"; (case hM => assumption); (case hx => assumption); (case hl => first | assumption | omega)); intro v' led' h' tk' R' F' N'; obtain ⟨e', t', r'⟩ := R'; subst e'; subst r'))
local macro_rules | `(tactic| walk_at "call ref") => `(tactic| (k_here; (with_reducible show wpAny _ _ (call (Value.ref 209) _) _ _ _); refine stop ?_))
theorem close_text (r : Row) (rest : List Row) (ih : AddText w mean mg mb rest) : CloseText w mean mg mb r rest := by
  intro S n k p x t1 t2 news hM hR hA hz hp hx hl hl2
  intro dp un gd cn cs a ccd cl outer A₀ base h₀ L m s Q E B F X N T hk hdp hun hret
  have hne := hA.ne
  have hoff := hA.off
  have hp2 : (p, tupOf [.str (Str.ofString "text") t1, .str ⟨x.toArray⟩ t2]) ∈ (Led rest ++ news) := List.mem_append_right _ hp
  refine wpAny_call ?_
  k_dflt cell_enter
  k_steps
  unfold Stop
  rename_i t3 D h1 F1 N1 l1
  have hA2 : ∀ o : Obj, Apart S rest ((D, o) :: (r.a, listOf #[.str r.h r.t, .ref r.b] r.n1) :: (r.b, listOf #[.ref p] k) :: news) :=
    fun o => hA.pop.more fun b hb => by
      rcases List.mem_cons.mp hb with rfl | hb
      · exact Nat.ne_of_gt l1.1
      · exact Nat.ne_of_gt (addrs_lt l1.2.2.2 b hb)
  obtain ⟨t4, N1⟩ : ∃ t4, News _ _ h1 ((D, tupOf [.str (Str.ofString "text") t4, .str ⟨(casedL r.c x).toArray⟩ t3]) :: (S, listOf (items rest) (n + 1)) :: rowA r :: (r.b, listOf #[.ref p] k) :: (Led rest ++ news)) := ⟨_, N1⟩
  refine' CallOk.use (ih S (n + 1) D (casedL r.c x) t4 t3 _ hR (hA2 _) (by omega) List.mem_cons_self (casedL_sign4 _ hx) hl2) ?B ?F ?X ?N ?T ?hk ?hdp ?hun ?_
  case N =>
    intro q hq
    refine N1 q ?_
    simp only [List.mem_cons, List.mem_append] at hq ⊢
    rcases hq with h | h | h | h | h | h
    · exact .inr (.inl h)
    · exact .inr (.inr (.inr (.inr (.inl h))))
    · exact .inl h
    · exact .inr (.inr (.inl h))
    · exact .inr (.inr (.inr (.inl h)))
    · exact .inr (.inr (.inr (.inr (.inr h))))
  case B => k_asm
  case F => k_asm
  case X => k_asm
  case T => k_asm
  case hk => exact rfl
  case hdp => ktr_room
  case hun => ktr_units
  intro v' led' h2 tk2 R' F2 N2
  obtain ⟨rfl, r', rest', y, n', k', p', t1', t2', news', e1, rfl, hp', hA', hs'⟩ := R'
  k_steps
  refine hret _ _ _ _ ⟨rfl, r', rest', y, n', k', p', t1', t2', news', e1, rfl, hp', hA', fun q hq => hs' q ?_⟩ (by k_asm) (by k_asm)
  exact .tail _ (.tail _ (.tail _ hq))
end
section
local macro_rules | `(tactic| walk_at "call ref") => `(tactic| (k_here; (with_reducible show wpAny _ _ (call (Value.ref 216) _) _ _ _); refine stop ?_))
local macro_rules | `(tactic| walk_at "compareOp In str str") => `(tactic| (k_here; k_dflt (first | (refine' in_b (b := true) ?e ?_; (case e => with_reducible assumption)) | (refine' in_b (b := false) ?e ?_; (case e => with_reducible assumption)))))
local macro_rules | `(tactic| walk_at "compareOp NotEq str str") => `(tactic| (k_here; k_dflt (refine' ne_b (b := true) ?e ?_; (case e => with_reducible assumption))))
theorem short_in {M : Str} {c : Nat} (h : MarkStr M c) : Txt.contains (Str.ofString "ul") M = short c := by
  rcases h with ⟨rfl, rfl⟩ | ⟨rfl, rfl⟩ | ⟨rfl, rfl⟩ | ⟨rfl, rfl⟩ | ⟨rfl, rfl⟩ | ⟨rfl, rfl⟩ <;> decide +kernel
theorem mark_ne {M : Str} {c : Nat} (h : MarkStr M c) : (!(M == Str.ofString "")) = true := by
  rcases h with ⟨rfl, rfl⟩ | ⟨rfl, rfl⟩ | ⟨rfl, rfl⟩ | ⟨rfl, rfl⟩ | ⟨rfl, rfl⟩ | ⟨rfl, rfl⟩ <;> decide +kernel
theorem add_text_step (r : Row) (rest : List Row) (ih : CloseText w mean mg mb r rest) : AddText w mean mg mb (r :: rest) := by
  intro S n p x t1 t2 news hR hA hz hp hx hl
  intro dp un gd cn cs a ccd cl outer A₀ base h₀ L m s Q E B F X N T hk hdp hun hret
  have hp2 : (p, tupOf [.str (Str.ofString "text") t1, .str ⟨x.toArray⟩ t2]) ∈ (Led rest ++ news) := List.mem_append_right _ hp
  have N0 : News h₀ L s.heap ((S, listOf (items (r :: rest)) n) :: rowA r :: rowB r #[] :: (Led rest ++ news)) := N
  clear N
  obtain ⟨ra, rb, rh, rc, rt, rn1, rn2⟩ := r
  have hne := hA.ne
  have hoff := hA.off
  dsimp only at hne hoff
  simp only [List.length_cons] at hz hdp hun
  refine wpAny_call ?_
  k_dflt cell_enter
  have hres : ∀ news' : List (Addr × Obj), (short rc = false) → news' = news → addT (⟨ra, rb, rh, rc, rt, rn1, rn2⟩ :: rest) x = (⟨ra, rb, rh, rc, rt, rn1, rn2⟩ :: rest, x) := fun _ h _ => by
    unfold addT
    rw [h]
    rfl
  have hclose : ∀ (h' : Heap) (tk : Nat) (k : Nat), short rc = false → Fr h₀ L h' m → News h₀ L h' ((S, listOf (items (⟨ra, rb, rh, rc, rt, rn1, rn2⟩ :: rest)) n) :: rowA ⟨ra, rb, rh, rc, rt, rn1, rn2⟩ :: (rb, listOf #[.ref p] k) :: (Led rest ++ news)) →
      Q .none { s with heap := h', toks := tk } := fun h' tk k hs F' N' =>
    hret _ _ _ _ ⟨rfl, ⟨ra, rb, rh, rc, rt, rn1, rn2⟩, rest, x, n, k, p, t1, t2, news, hres news hs rfl, rfl, hp, hA, fun q hq => hq⟩ F' N'
  rcases hR with ⟨rfl, h1, h2⟩ | ⟨hM, hR⟩
  · simp only at h1 h2
    subst h1 h2
    k_steps
    exact hclose _ _ _ rfl (by k_asm) (by k_asm)
  · simp only at hM hR
    cases hsh : short rc with
    | false =>
      have hin := (short_in hM).trans hsh
      k_steps
      exact hclose _ _ _ hsh (by k_asm) (by k_asm)
    | true =>
      have hin := (short_in hM).trans hsh
      have hnq := mark_ne hM
      k_steps
      unfold Stop
      rename News _ _ _ _ => N1
      have e0 : addT (⟨ra, rb, rh, rc, rt, rn1, rn2⟩ :: rest) x = addT rest (casedL rc x) := if_pos hsh
      refine' CallOk.use (ih S n _ p x t1 t2 news hM hR hA (by omega) hp hx hl (by rw [casedL_short hsh]; exact hl)) ?B ?F ?X ?N ?T ?hk ?hdp ?hun ?_
      case N => exact N1
      case B => k_asm
      case F => k_asm
      case X => k_asm
      case T => k_asm
      case hk => exact rfl
      case hdp => ktr_room
      case hun => ktr_units
      intro v' led' h2 tk2 R' F2 N2
      obtain ⟨rfl, r', rest', y, n', k', p', t1', t2', news', e1, rfl, hp', hA', hs'⟩ := R'
      k_steps
      exact hret _ _ _ _ ⟨rfl, r', rest', y, n', k', p', t1', t2', news', e0.trans e1, rfl, hp', hA', hs'⟩ (by k_asm) (by k_asm)
end
theorem add_text : ∀ rows : List Row, AddText w mean mg mb rows
  | [] => fun _ _ _ _ _ _ _ h => absurd h (by simp [RowsOk])
  | r :: rest => add_text_step w mean mg mb r rest (close_text w mean mg mb r rest (add_text rest))
theorem close_txt (r : Row) (rest : List Row) : CloseText w mean mg mb r rest := close_text w mean mg mb r rest (add_text w mean mg mb rest)
end
end
theorem reset_P6 {prog : Program} {w : World} {A : Around} {env : Env} {Q : Flow → Shared → Prop} {E : Value → Shared → Prop} {s : Shared} (h : Q .next s) : wpAny (model prog w) A (execs [] env) Q E s := by
  walk1
  exact h
section
noncomputable def Tagged (vs : List Value) : Prop := (∃ t1 t2, vs = [.str (Str.ofString "expr") t1, .str (Str.ofString "$x") t2]) ∨ ∃ t1 M t2 b, vs = [.str (Str.ofString "case") t1, .str M t2, .ref b]
theorem Tagged.head {vs : List Value} (h : Tagged vs) : ∃ g tg r, vs = .str g tg :: r ∧ (g == Str.ofString "text") = false := by
  rcases h with ⟨t1, t2, rfl⟩ | ⟨t1, M, t2, b, rfl⟩
  · exact ⟨_, _, _, rfl, by decide +kernel⟩
  · exact ⟨_, _, _, rfl, by decide +kernel⟩
section
variable (w : World) (mean : ExcName → Option Value) (mg mb : Str → Option Value)
local macro_rules | `(tactic| walk_at "compareOp Eq str str") => `(tactic| (k_here; k_dflt (refine' eq_b (b := false) ?e ?_; (case e => with_reducible assumption))))
theorem add_tag (S n p : Nat) (r : Row) (rest : List Row) (vs : List Value) (news : List (Addr × Obj)) (hA : Apart S (r :: rest) news) (hz : rest.length ≤ 60) (hp : (p, tupOf vs) ∈ news) (hv : Tagged vs) :
    CallOk w mean mg mb 209 4 40 [.ref S, .ref p] ((S, listOf (items (r :: rest)) n) :: rowA r :: rowB r #[] :: (Led rest ++ news))
      (fun v led' => v = .none ∧ led' = (S, listOf (items (r :: rest)) n) :: rowA r :: (r.b, listOf #[.ref p] (r.n2 + 1)) :: (Led rest ++ news)) := by
  intro dp un gd cn cs a ccd cl outer A₀ base h₀ L m s Q E B F X N T hk hdp hun hret
  have hne := hA.ne
  have hoff := hA.off
  have hp2 : (p, tupOf vs) ∈ (Led rest ++ news) := List.mem_append_right _ hp
  refine wpAny_call ?_
  k_dflt cell_enter
  obtain ⟨g, tg, vs, rfl, hg⟩ := hv.head
  k_steps
  all_goals exact hret _ _ _ _ ⟨rfl, rfl⟩ (by k_asm) (by k_asm)
section
local macro_rules | `(tactic| walk_at "call ref") => `(tactic| (k_here; (with_reducible show wpAny _ _ (call (Value.ref 209) _) _ _ _); refine stop ?_))
theorem close_tag (S n k p : Nat) (r r2 : Row) (rest : List Row) (vs : List Value) (news : List (Addr × Obj)) (hA : Apart S (r :: r2 :: rest) news) (hz : rest.length ≤ 58) (hp : (p, tupOf vs) ∈ news) (hv : Tagged vs) :
    CallOk w mean mg mb 216 8 60 [.ref S] ((S, listOf (items (r :: r2 :: rest)) n) :: rowA r :: (r.b, listOf #[.ref p] k) :: (Led (r2 :: rest) ++ news))
      (fun v led' => v = .none ∧ ∃ p' t, led' = (S, listOf (items (r2 :: rest)) (n + 1)) :: rowA r2 :: (r2.b, listOf #[.ref p'] (r2.n2 + 1)) :: (Led rest ++ ((p', tupOf [.str (Str.ofString "case") t, .str r.h r.t, .ref r.b]) :: rowA r :: (r.b, listOf #[.ref p] k) :: news)) ∧
        Apart S (r2 :: rest) ((p', tupOf [.str (Str.ofString "case") t, .str r.h r.t, .ref r.b]) :: rowA r :: (r.b, listOf #[.ref p] k) :: news)) := by
  intro dp un gd cn cs a ccd cl outer A₀ base h₀ L m s Q E B F X N T hk hdp hun hret
  have hne := hA.ne
  have hoff := hA.off
  have hp2 : (p, tupOf vs) ∈ (Led (r2 :: rest) ++ news) := List.mem_append_right _ hp
  refine wpAny_call ?_
  k_dflt cell_enter
  have hz2 : (r2 :: rest).length ≤ 900 := by simp only [List.length_cons]; omega
  obtain ⟨g, tg, vs, rfl, hg⟩ := hv.head
  k_steps
  all_goals (
    unfold Stop
    rename_i D h1 F1 N1 l1
    obtain ⟨t4, N1⟩ : ∃ t4, News _ _ h1 ((D, tupOf [.str (Str.ofString "case") t4, .str r.h r.t, .ref r.b]) :: (S, listOf (items (r2 :: rest)) (n + 1)) :: rowA r :: (r.b, listOf #[.ref p] k) :: (Led (r2 :: rest) ++ news)) := ⟨_, N1⟩
    have hA2 : Apart S (r2 :: rest) ((D, tupOf [.str (Str.ofString "case") t4, .str r.h r.t, .ref r.b]) :: (r.a, listOf #[.str r.h r.t, .ref r.b] r.n1) :: (r.b, listOf #[.ref p] k) :: news) :=
      hA.pop.more fun b hb => by
        rcases List.mem_cons.mp hb with rfl | hb
        · exact Nat.ne_of_gt l1.1
        · exact Nat.ne_of_gt (addrs_lt l1.2.2.2 b hb)
    refine' CallOk.use (add_tag w mean mg mb S (n + 1) D r2 rest _ _ hA2 (by omega) List.mem_cons_self (.inr ⟨_, _, _, _, rfl⟩)) ?B ?F ?X ?N ?T ?hk ?hdp ?hun ?_
    case N =>
      intro q hq
      refine N1 q ?_
      simp only [Led, List.mem_cons, List.mem_append] at hq ⊢
      rcases hq with h | h | h | h | h | h | h | h <;> simp [h]
    case B => k_asm
    case F => k_asm
    case X => k_asm
    case T => k_asm
    case hk => exact rfl
    case hdp => ktr_room
    case hun => ktr_units
    intro v' led' h2 tk2 R' F2 N2
    obtain ⟨rfl, rfl⟩ := R'
    k_steps
    exact hret _ _ _ _ ⟨rfl, D, t4, rfl, hA2⟩ (by k_asm) (by k_asm))
end
end
end
theorem reset_P7 {prog : Program} {w : World} {A : Around} {env : Env} {Q : Flow → Shared → Prop} {E : Value → Shared → Prop} {s : Shared} (h : Q .next s) : wpAny (model prog w) A (execs [] env) Q E s := by
  walk1
  exact h
section
noncomputable def isLet (c : Nat) : Bool := c == 85 || c == 76 || c == 70
noncomputable def RowOk (r : Row) : Prop := (r.h = Str.ofString "" ∧ r.c = 0) ∨ MarkStr r.h r.c
theorem rowsOk_mem {rows : List Row} (h : RowsOk rows) : ∀ r ∈ rows, RowOk r := by
  induction rows with
  | nil => exact absurd h (by simp [RowsOk])
  | cons r rest ih =>
    intro q hq
    rcases h with ⟨h1, h2, h3⟩ | ⟨h1, h2⟩
    · subst h1
      rw [List.mem_singleton.mp hq]
      exact .inl ⟨h2, h3⟩
    · rcases List.mem_cons.mp hq with rfl | hq
      · exact .inr h1
      · exact ih h2 q hq
theorem led_memA {rows : List Row} {r : Row} (h : r ∈ rows) : rowA r ∈ Led rows := by
  induction rows with
  | nil => cases h
  | cons q rest ih =>
    rcases List.mem_cons.mp h with rfl | h
    · exact .head _
    · exact .tail _ (.tail _ (ih h))
theorem led_memB {rows : List Row} {r : Row} (h : r ∈ rows) : rowB r #[] ∈ Led rows := by
  induction rows with
  | nil => cases h
  | cons q rest ih =>
    rcases List.mem_cons.mp h with rfl | h
    · exact .tail _ (.head _)
    · exact .tail _ (.tail _ (ih h))
noncomputable def refs (rows : List Row) : List Value := rows.map fun r => Value.ref r.a
theorem items_get {rows : List Row} {i : Nat} {v : Value} (h : (items rows)[i]? = some v) : ∃ r, rows.reverse[i]? = some r ∧ v = .ref r.a := by
  unfold items at h
  simp only [List.getElem?_toArray, List.getElem?_map] at h
  cases e : rows.reverse[i]? with
  | none => rw [e] at h; simp at h
  | some r => rw [e] at h; simp at h; exact ⟨r, rfl, h.symm⟩
/-- rows as data -/
noncomputable def rowsD (rows : List Row) : List PyData := rows.map fun r => PyData.list [.str r.h, .list []]
theorem reads_row {h₀ h : Heap} {L : Addr} {led : List (Addr × Obj)} (N : News h₀ L h led) {r : Row} (ha : rowA r ∈ led) (hb : rowB r #[] ∈ led) : ∃ as, Reads h (.ref r.a) (.list [.str r.h, .list []]) as :=
  ⟨_, reads_list_at (N.get ha) rfl rfl (ReadsAll.cons (Reads.str _ _) (ReadsAll.cons (reads_list_at (N.get hb) rfl rfl ReadsAll.nil) ReadsAll.nil))⟩
theorem reads_rows {h₀ h : Heap} {L : Addr} {led : List (Addr × Obj)} (N : News h₀ L h led) : ∀ {rows : List Row}, (∀ r ∈ rows, rowA r ∈ led ∧ rowB r #[] ∈ led) → ∃ as, ReadsAll h (refs rows) (rowsD rows) as
  | [], _ => ⟨_, ReadsAll.nil⟩
  | r :: rest, H => by
    obtain ⟨as, h1⟩ := reads_row N (H r (.head _)).1 (H r (.head _)).2
    obtain ⟨bs, h2⟩ := reads_rows N (rows := rest) fun q hq => H q (.tail _ hq)
    exact ⟨_, ReadsAll.cons h1 h2⟩
theorem mark_ok {M : Str} {mk : Nat} (h : MarkStr M mk) : PyData.strOk M = true := by
  rcases h with ⟨rfl, _⟩ | ⟨rfl, _⟩ | ⟨rfl, _⟩ | ⟨rfl, _⟩ | ⟨rfl, _⟩ | ⟨rfl, _⟩ <;> decide +kernel
theorem rows_lay : ∀ {rows : List Row}, (∀ r ∈ rows, RowOk r) → PyData.canLayAll0 (rowsD rows) = true ∧ PyData.depthAll (rowsD rows) ≤ 4
  | [], _ => by simp [rowsD, PyData.canLayAll0, PyData.depthAll]
  | r :: rest, h => by
    obtain ⟨h1, h2⟩ := rows_lay (rows := rest) fun q hq => h q (.tail _ hq)
    have h3 : PyData.strOk r.h = true := by
      rcases h r (.head _) with ⟨e, _⟩ | e
      · rw [e]; decide +kernel
      · exact mark_ok e
    unfold rowsD at h1 h2 ⊢
    simp only [List.map_cons, PyData.canLayAll0, PyData.canLay0, PyData.depthAll, PyData.depth, h1, h3, Bool.and_self, true_and]
    omega
theorem ne_nil_rows {prog : Program} {w : World} {A : Around} {E : Value → Shared → Prop} {s : Shared} {h₀ : Heap} {L a b : Addr} {led : List (Addr × Obj)} {rows : List Row} {n1 n2 : Nat} {Q : Value → Shared → Prop}
    (N : News h₀ L s.heap led) (ha : (a, listOf (refs rows).toArray n1) ∈ led) (hb : (b, listOf #[] n2) ∈ led) (H : ∀ r ∈ rows, rowA r ∈ led ∧ rowB r #[] ∈ led) (hok : ∀ r ∈ rows, RowOk r) (hu : A.units + 64 < cLine)
    (h : Q (.bool (!rows.isEmpty)) s) : wpAny (model prog w) A (compareOp .NotEq (.ref a) (.ref b)) Q E s := by
  obtain ⟨as, h1⟩ := reads_rows N H
  obtain ⟨l1, l2⟩ := rows_lay hok
  refine ne_dataH (reads_list_at (N.get ha) rfl rfl (by simpa using h1)) (reads_list_at (N.get hb) rfl rfl (by simpa using ReadsAll.nil)) ?_ (by decide +kernel) hu ?_
  · unfold SeqAt.shaped
    simp only [PyData.canLay0, PyData.depth, l1, Bool.true_and]
    exact decide_eq_true (by omega)
  · have e : PyData.eqv (.list (rowsD rows)) (.list []) = rows.isEmpty := by
      cases rows with
      | nil => rfl
      | cons r rest => simp [rowsD, PyData.eqv, PyData.eqvAll]
    rw [e]
    exact h
theorem lst_item {prog : Program} {w : World} {A : Around} {E : Value → Shared → Prop} {s : Shared} {h₀ : Heap} {L p : Addr} {led : List (Addr × Obj)} {vs : List Value} {n : Nat} {k : Int} {u : Tok} {x : Value} {value slice : Expr} {Q : Value → Shared → Prop}
    (N : News h₀ L s.heap led) (hm : (p, listOf vs.toArray n) ∈ led) (h0 : 0 ≤ k) (hhi : k < 2 ^ 63) (hx : vs[k.toNat]? = some x) (h : Q x s)
    (hs : subscripted slice false (.ref p) (.int k u) = operate [.ref p, .int k u] (getItem (.ref p) (.int k u)) := by with_unfolding_all rfl) :
    wpAny (model prog w) A (subscriptTail value slice (.ref p) (.int k u)) Q E s :=
  item_litK (PySem.IsL.isList (n := n) (N _ hm).1) h0 hhi hx h hs
section
variable {prog : Program} {w : World} {A : Around} {E : Value → Shared → Prop} {s : Shared} {env : Env} {test : Expr} {body orelse : List Stmt} {Q : Flow → Shared → Prop}
noncomputable def WhlEnd {σ : Type} (g : Heap) (L : Addr) (J : σ → (Str → Option Value) → List (Addr × Obj) → Prop) (μ : σ → Nat) (b : Nat) (s : Shared) (Q : Flow → Shared → Prop) (f : Flow) (s₃ : Shared) : Prop :=
  match f with
  | .ret v => Q (.ret v) s₃
  | .brk => Q .next s₃
  | _ => ∃ c' m led h tk, s₃ = { s with heap := h, toks := tk } ∧ μ c' < b ∧ J c' m led ∧ Fr g L h m ∧ News g L h led
theorem whl_inv {σ : Type} {g : Heap} {L : Addr} {m₀ : Str → Option Value} {led₀ : List (Addr × Obj)} (μ : σ → Nat) (J : (Str → Option Value) → σ → (Str → Option Value) → List (Addr × Obj) → Prop) (c₀ : σ) (hE : PassesOwn (model prog w) A env E)
    (F : Fr g L s.heap m₀) (N : News g L s.heap led₀) (h0 : J m₀ c₀ m₀ led₀)
    (turn : ∀ c m led h tk, J m₀ c m led → Fr g L h m → News g L h led →
      wpAny (model prog w) A (isTrue test env (eval test env)) (fun b s₂ => WhlIf b (wpAny (model prog w) A (execs body env) (WhlEnd g L (J m₀) μ (μ c) s Q) E s₂) (wpAny (model prog w) A (execs orelse env) Q E s₂)) E { s with heap := h, toks := tk }) :
    WhlRest prog w A E env test body orelse Q 0 s := by
  have all : ∀ b c m led h tk, μ c < b → J m₀ c m led → Fr g L h m → News g L h led → WhlRest prog w A E env test body orelse Q 0 { s with heap := h, toks := tk } := by
    intro b
    induction b with
    | zero => intro c m led h tk hb; exact absurd hb (Nat.not_lt_zero _)
    | succ b ih =>
      intro c m led h tk hb hJ hF hN
      refine whl_turn (k := 0) hE (wpAny_mono (turn c m led h tk hJ hF hN) (fun d s₂ hd => ?_) fun _ _ e => e)
      cases d with
      | false =>
        unfold WhlIf at hd ⊢
        rw [if_neg Bool.false_ne_true] at hd ⊢
        exact hd
      | true =>
        unfold WhlIf at hd ⊢
        rw [if_pos rfl] at hd ⊢
        refine wpAny_mono hd (fun f s₃ hf => ?_) fun _ _ e => e
        have back : (∃ c' m led h tk, s₃ = { s with heap := h, toks := tk } ∧ μ c' < μ c ∧ J m₀ c' m led ∧ Fr g L h m ∧ News g L h led) → WhlRest prog w A E env test body orelse Q 0 s₃ := by
          rintro ⟨c', m', led', h', tk', rfl, hlt, hJ', hF', hN'⟩
          exact ih c' m' led' h' tk' (by omega) hJ' hF' hN'
        cases f with
        | next => exact back hf
        | cont => exact back hf
        | brk => exact hf
        | ret v => exact hf
  exact all _ c₀ m₀ led₀ s.heap s.toks (Nat.lt_succ_self _) h0 F N
end
section
variable {prog : Program} {w : World} {A : Around} {s : Shared} {h₀ : Heap} {L : Addr} {m : Str → Option Value} {env : Env} {ct elt : Expr} {x : Str} {scope : Scope} {cl : List (Str × Addr)} {SS : List (Addr × Obj) → Prop} {P : Nat → Value → Prop}
  {Fin : List Value → List (Addr × Obj) → Prop} {n : Nat}
theorem restT (f : Nat → List Value) (g : Nat → List (Addr × Obj)) (h0 : f 0 = []) (step : ∀ k i, i < n → LCt.CompRestT prog w A h₀ L m env ct elt x scope cl s SS P Fin k (i + 1) (f (i + 1)) (g (i + 1)) → LCt.CompRestT prog w A h₀ L m env ct elt x scope cl s SS P Fin (k + 1) i (f i) (g i))
    (fin : Fin (f n) (g n)) : LCt.CompRestT prog w A h₀ L m env ct elt x scope cl s SS P Fin n 0 [] (g 0) := by
  have all : ∀ k i, i + k = n → LCt.CompRestT prog w A h₀ L m env ct elt x scope cl s SS P Fin k i (f i) (g i) := by
    intro k
    induction k with
    | zero => intro i h; rw [show i = n by omega]; exact LCt.CompRestT.zero fin
    | succ k ih => intro i h; exact step k i (by omega) (ih (i + 1) (by omega))
  have := all n 0 (by omega)
  rw [h0] at this
  exact this
end
noncomputable def endL : List Row → List Row
  | [] => []
  | r :: rest => if (r :: rest).any (fun r => isLet r.c) = true then endL rest else r :: rest
theorem row_let {r : Row} (h : RowOk r) : ([Str.ofString "U", Str.ofString "L", Str.ofString "F"].any fun x => x == r.h) = isLet r.c := by
  rcases h with ⟨e1, e2⟩ | ⟨e1, e2⟩ | ⟨e1, e2⟩ | ⟨e1, e2⟩ | ⟨e1, e2⟩ | ⟨e1, e2⟩ | ⟨e1, e2⟩ <;> (rw [e1, e2]; decide +kernel)
section
variable (w : World) (mean : ExcName → Option Value) (mg mb : Str → Option Value)
local macro_rules | `(tactic| walk_at "exec While Compare cons nil") => `(tactic| (k_here; refine stop ?_))
local macro_rules | `(tactic| walk_at "eval ListComp") => `(tactic| (k_here; refine stop ?_))
local macro_rules | `(tactic| walk_at "subscriptTail") => `(tactic| (k_here; (with_reducible show wpAny _ _ (subscriptTail _ _ (Value.ref _) (Value.int _ _)) _ _ _); k_dflt (refine' lst_item ?N ?hm ?hlo ?hhi ?hx ?_ ?hs; (case N => k_asm); (case hm => walk_at "my mem"); (case hlo => decide); (case hhi => decide); (case hx => rfl); (case hs => with_unfolding_all rfl))))
local macro_rules | `(tactic| walk_at "call ref") => `(tactic| (k_here; (with_reducible show wpAny _ _ (call (Value.ref 216) _) _ _ _); refine stop ?_))
local macro_rules | `(tactic| walk_at "compareOp NotEq ref ref") => `(tactic| (k_here; refine stop ?_))
theorem end_letters_spec (S n : Nat) (rows : List Row) (news : List (Addr × Obj)) (hR : RowsOk rows) (hA : Apart S rows news) (hz : rows.length ≤ 60) :
    CallOk w mean mg mb 228 20 200 [.ref S] ((S, listOf (items rows) n) :: (Led rows ++ news))
      (fun v led' => v = .none ∧ ∃ n' news', led' = (S, listOf (items (endL rows)) n') :: (Led (endL rows) ++ news') ∧ Apart S (endL rows) news' ∧ RowsOk (endL rows) ∧ ∀ q ∈ news, q ∈ news') := by
  intro dp un gd cn cs a ccd cl outer A₀ base h₀ L m s Q E B F X N T hk hdp hun hret
  refine wpAny_call ?_
  k_dflt cell_enter
  k_steps
  unfold Stop
  rename Fr _ _ _ _ => F1
  rename News _ _ _ _ => N1
  refine whl_start 0 ?_
  refine whl_inv (σ := List Row × Nat × List (Addr × Obj)) (fun c => c.1.length) (fun m₀ c m led => m = m₀ ∧ led = (S, listOf (items c.1) c.2.1) :: (Led c.1 ++ c.2.2) ∧ endL c.1 = endL rows ∧ RowsOk c.1 ∧ Apart S c.1 c.2.2 ∧ c.1.length ≤ 60 ∧ ∀ q ∈ news, q ∈ c.2.2)
    (rows, n, news) (by passes_own) F1 N1 ⟨rfl, rfl, rfl, hR, hA, hz, fun q hq => hq⟩ ?_
  rintro ⟨rows', n', news'⟩ m' led' h1 tk1 ⟨rfl, rfl, hend, hR', hA', hz', hsub⟩ F2 N2
  clear F1 N1 hA hR hz
  dsimp only at hend hR' hA' hz' hsub N2
  obtain ⟨r0, rest, e0⟩ : ∃ r0 rest, rows' = r0 :: rest := by
    cases rows' with
    | nil => exact absurd hR' (by simp [RowsOk])
    | cons r0 rest => exact ⟨r0, rest, rfl⟩
  k_steps
  unfold Stop
  rename Fr _ _ _ _ => F1
  rename News _ _ _ _ => N1
  k_dflt (refine LCt.ListComp_T (F₀ := F1) (by with_unfolding_all rfl) (by decide) (by rfl) (by decide) (by rfl) ?_)
  k_steps
  refine LCt.CompSrcT.ledger (by rfl) F1 N1 List.mem_cons_self (by rw [items_size, PySem.sizeLine_eq]; omega) ?_
  intro g
  refine restT (fun i => refs ((rows'.reverse.take i).filter fun r => isLet r.c)) (fun _ => _) rfl ?_ ?_
  · intro k i hi ih
    refine LCt.CompRestT.succ ?_
    intro v I oI C oC D m₂ h2 tk2 E2 hv hC hx F2 N2 off ne
    obtain ⟨r, hr, rfl⟩ := items_get hv
    have hrm : r ∈ rows' := List.mem_reverse.mp (List.mem_of_getElem? hr)
    have hmem : rowA r ∈ Led rows' ++ news' := List.mem_append_left _ (led_memA hrm)
    have hrk := rowsOk_mem hR' r hrm
    rw [List.take_add_one, hr] at ih
    clear F1 N1
    obtain ⟨ra, rb, rh, rc, rt, rn1, rn2⟩ := r
    k_steps
    · rename List.any _ _ = true => ha
      have ha : isLet rc = true := (row_let hrk).symm.trans ha
      exact LCg.CompEnd.intro (by k_asm) (by k_asm) ((S, listOf (items rows') n') :: (Led rows' ++ news')) (fun p hp => .tail _ hp) off (.inr ⟨_, List.mem_cons_self, rfl, _, rfl⟩) (by simpa [refs, ha] using ih)
    · rename List.any _ _ = false => ha
      have ha : isLet rc = false := (row_let hrk).symm.trans ha
      exact LCg.CompEnd.intro (by k_asm) (by k_asm) ((S, listOf (items rows') n') :: (Led rows' ++ news')) (fun p hp => .tail _ hp) off (.inr ⟨_, List.mem_cons_self, rfl, _, rfl⟩) (by simpa [refs, ha] using ih)
  · unfold LCg.FinE
    intro D h3 tk3 F3 N3 o1
    clear F1 N1
    k_steps
    unfold Stop
    rename_i l4 h4 F4 N4 l1
    have e6 : List.take (items rows').size rows'.reverse = rows'.reverse := by rw [items_size, ← List.length_reverse, List.take_length]
    rw [e6] at N4
    have hmm : ∀ r ∈ rows'.reverse.filter fun r => isLet r.c, r ∈ rows' := fun r hr => List.mem_reverse.mp (List.mem_filter.mp hr).1
    refine ne_nil_rows N4 (.tail _ (.head _)) (.head _) (fun r hr => ⟨.tail _ (.tail _ (.tail _ (List.mem_append_left _ (led_memA (hmm r hr))))), .tail _ (.tail _ (.tail _ (List.mem_append_left _ (led_memB (hmm r hr)))))⟩) (fun r hr => rowsOk_mem hR' r (hmm r hr)) (by ktr_units) ?_
    cases he : (List.filter (fun r => isLet r.c) rows'.reverse).isEmpty
    · k_steps
      unfold Stop
      have hany : (r0 :: rest).any (fun r => isLet r.c) = true := by
        rw [← e0]
        cases q : rows'.any (fun r => isLet r.c) with
        | true => rfl
        | false =>
          rw [List.any_eq_false] at q
          rw [List.isEmpty_eq_false_iff] at he
          exact absurd (List.filter_eq_nil_iff.mpr fun r hr => by simpa using q r (List.mem_reverse.mp hr)) he
      subst e0
      have hrest : RowsOk rest := by
        rcases hR' with ⟨h1, h2, h3⟩ | ⟨_, h⟩
        · subst h1
          simp [isLet, h3] at hany
        · exact h
      simp only [List.length_cons] at hz'
      refine' CallOk.use (close_empty w mean mg mb S n' r0 rest news' hA' (by omega)) ?B ?F ?X ?N ?T ?hk ?hdp ?hun ?_
      case N => exact fun q hq => N4 q (.tail _ (.tail _ hq))
      case B => k_asm
      case F => k_asm
      case X => k_asm
      case T => k_asm
      case hk => exact rfl
      case hdp => ktr_room
      case hun => ktr_units
      intro v' led' h2 tk2 R' F5 N5
      obtain ⟨rfl, rfl⟩ := R'
      k_steps
      refine ⟨(rest, n' + 1, rowA r0 :: rowB r0 #[] :: news'), _, _, _, _, rfl, Nat.lt_succ_self _, ⟨rfl, rfl, ?_, hrest, hA'.pop, by dsimp only; omega, fun q hq => .tail _ (.tail _ (hsub q hq))⟩, by k_asm, ?_⟩
      · rw [← hend]
        show endL rest = endL (r0 :: rest)
        conv => rhs; unfold endL
        rw [if_pos hany]
      · intro q hq
        refine N5 q ?_
        simp only [List.mem_cons, List.mem_append] at hq ⊢
        rcases hq with h | h | h | h | h <;> simp [h]
    · k_steps
      have hany : ¬ (r0 :: rest).any (fun r => isLet r.c) = true := by
        rw [← e0]
        intro q
        obtain ⟨r, hr, hq⟩ := List.any_eq_true.mp q
        have hm : r ∈ List.filter (fun r => isLet r.c) rows'.reverse := List.mem_filter.mpr ⟨List.mem_reverse.mpr hr, hq⟩
        rw [List.isEmpty_iff] at he
        rw [he] at hm
        cases hm
      have e7 : endL rows = rows' := by
        rw [← hend, e0]
        unfold endL
        rw [if_neg hany]
      rename News _ _ _ _ => N9
      refine hret _ ((S, listOf (items rows') n') :: (Led rows' ++ news')) _ _ ⟨rfl, n', news', by rw [e7], by rw [e7]; exact hA', by rw [e7]; exact hR', hsub⟩ (by k_asm) ?_
      intro q hq
      exact N9 q (.tail _ (.tail _ hq))
end
end
theorem reset_PE {prog : Program} {w : World} {A : Around} {env : Env} {Q : Flow → Shared → Prop} {E : Value → Shared → Prop} {s : Shared} (h : Q .next s) : wpAny (model prog w) A (execs [] env) Q E s := by
  walk1
  exact h
section
section
open PySem.Builtin
variable {M : Model} {A : Around} {E : Value → Shared → Prop} {h : Heap} {g : Array GenState} {d : Drawn} {t : Nat} {os : OsState}
variable {nm q : Str} {C N : Addr} {bs bm : List Value} {hdct : Bool} {sn : List Str} {sub : List Value} {ab : Bool} {col : Option Bool} {dd : Option Addr} {k0 k1 k2 k3 k5 : Option Value} {Bn newId inN : String} {bmN : List Value}
theorem exc_check (Fn : ExcBaseFacts Bn newId inN bmN) (hBn : bm.contains (.type Bn) = true) {rest : List Value} {Q : Unit → Shared → Prop} (hC : h.get? C = some (excClassObj nm q C N bs bm hdct sn sub ab col dd k0 k1 k2 k3 k5 newId))
    (hq : Q () ⟨h, g, d, t, os⟩) : wpAny M A (checkBuiltinCall newId ⟨.ref C :: rest, []⟩) Q E ⟨h, g, d, t, os⟩ := by
  have hcont : (Value.ref C :: bm).contains (.type Bn) = true := by rw [List.contains_cons, hBn, Bool.or_true]
  have hstar := Fn.noStar
  simp only [checkBuiltinCall, Fn.newKind, Fn.newSplit, Fn.newRow]
  repeat (first | refine wpAny_loadPart_at hC ?_ | (refine wpAny_isSubtype_exc hC ?_; rw [hcont]) | refine wpAny_staticBase_exc hC ?_ | refine wpAny_madeBy_exc hC ?_ | simp only [bne_self_eq_false, Bool.false_eq_true, if_false] | wp_step)
  exact hq
end
section
open PySem.Builtin
variable {prog : Program} {w : World} {A : Around} {E : Value → Shared → Prop} {R : Result → Shared → Prop} {h : Heap} {g : Array GenState} {d : Drawn} {t : Nat} {os : OsState}
variable {nm q : Str} {C N : Addr} {bs bm : List Value} {hdct : Bool} {sn : List Str} {sub : List Value} {ab : Bool} {col : Option Bool} {dd : Option Addr} {k0 k1 k2 k3 k5 : Option Value} {Bn newId inN : String} {bmN : List Value}
noncomputable abbrev excFields (t : Value) : Data := .fields #[t, .none, .none, .none, .bool false, .none]
theorem exc_made (Fn : ExcBaseFacts Bn newId inN bmN) (hBn : bm.contains (.type Bn) = true) (hAt : bm.contains (.type "AttributeError") = false) (hNm : bm.contains (.type "NameError") = false) {rest : List Value}
    (hC : h.get? C = some (excClassObj nm q C N bs bm hdct sn sub ab col dd k0 k1 k2 k3 k5 newId))
    (hq : R (.ok (.ret (.ref (h.objs.size + 1)))) ⟨(h.push { cls := .type "tuple", data := .seq rest.toArray }).push { cls := .ref C, data := excFields (.ref h.objs.size) }, g, d, t, os⟩) (hrest : rest.length ≤ sizeLine) :
    codeAny (model prog w) A (.builtin newId ⟨.ref C :: rest, []⟩) R ⟨h, g, d, t, os⟩ := by
  have hends := Fn.ends
  have hcB : (Value.ref C :: bm).contains (.type Bn) = true := by rw [List.contains_cons, hBn, Bool.or_true]
  have hcA : (Value.ref C :: bm).contains (.type "AttributeError") = false := by rw [List.contains_cons, hAt]; rfl
  have hcN : (Value.ref C :: bm).contains (.type "NameError") = false := by rw [List.contains_cons, hNm]; rfl
  refine codeAny_builtinAt Fn.entry ?_
  unfold Builtin.«BaseException.__new__»
  refine PySem.wpAt_bind ?_
  show PySem.wpAt _ _ _ (stack >>= _) _ _ _
  refine PySem.wpAt_bind (PySem.wpAt_stack fun p below => PySem.wpAt_of_wpAny ?_)
  wp_walk
  refine PySem.wpAt_of_wpAny ?_
  rw [Fn.owner]
  repeat (first | with_reducible refine wpAny_madeHere_exc Fn.canon hC ?_ | with_reducible refine wpAny_loadPart_at hC ?_ | (with_reducible refine wpAny_isSubtype_exc hC ?_; first | rw [hcB] | rw [hcA] | rw [hcN]) | wp_step)
  show R _ _
  rw [Heap.size_push]
  exact hq
theorem exc_typeCall (Fn : ExcBaseFacts Bn newId inN bmN) (hBn : bm.contains (.type Bn) = true) (hAt : bm.contains (.type "AttributeError") = false) (hNm : bm.contains (.type "NameError") = false) {mN : Str → Option Value} {rest : List Value} {fI : Addr} {oI : Obj} {Q : Fin → Shared → Prop}
    (hC : h.get? C = some (excClassObj nm q C N bs bm hdct sn sub ab col dd k0 k1 k2 k3 k5 newId)) (hn : h.Ns N mN) (hi : mN "__init__" = some (.ref fI)) (hfI : h.get? fI = some oI) (hfc : oI.cls = .type "function")
    (hq : ∀ h', h' = (h.push { cls := .type "tuple", data := .seq rest.toArray }).push { cls := .ref C, data := excFields (.ref h.objs.size) } →
      wpAny (model prog w) A (call (.ref fI) (.ref (h.objs.size + 1) :: rest)) (fun r s' => r = .none ∧ Q (.done (.ret (.ref (h.objs.size + 1)))) s') E ⟨h', g, d, t, os⟩) (hrest : rest.length ≤ sizeLine) :
    wpAny (model prog w) A (Builtin.«type.__call__» ⟨.ref C :: rest, []⟩) Q E ⟨h, g, d, t, os⟩ := by
  repeat (first | with_reducible refine wpAny_loadPart_at hC ?_ | with_reducible refine wpAny_madeBy_exc hC ?_ | wp_step)
  refine codeAny_call_builtin_code (Code.quiet_builtin _ Fn.quiet) (exc_check Fn hBn hC ?_)
  refine exc_made Fn hBn hAt hNm hC ?_ hrest
  show wpAny _ _ _ _ _ _
  have hC₁ := Heap.get?_push_of_some { cls := .ref C, data := .fields #[.ref h.objs.size, .none, .none, .none, .bool false, .none] }
    (Heap.get?_push_of_some { cls := .type "tuple", data := .seq rest.toArray } hC)
  have hfI₁ := Heap.get?_push_of_some { cls := .ref C, data := .fields #[.ref h.objs.size, .none, .none, .none, .bool false, .none] }
    (Heap.get?_push_of_some { cls := .type "tuple", data := .seq rest.toArray } hfI)
  have hn₁ : ((h.push { cls := .type "tuple", data := .seq rest.toArray }).push { cls := .ref C, data := .fields #[.ref h.objs.size, .none, .none, .none, .bool false, .none] }).Ns N mN :=
    let ⟨o, es, ep, e, r⟩ := hn; ⟨o, es, ep, Heap.get?_push_of_some _ (Heap.get?_push_of_some _ e), r⟩
  have hget : ((h.push { cls := .type "tuple", data := .seq rest.toArray }).push
      { cls := .ref C, data := .fields #[.ref h.objs.size, .none, .none, .none, .bool false, .none] }).get? (h.objs.size + 1) = some
      { cls := .ref C, data := .fields #[.ref h.objs.size, .none, .none, .none, .bool false, .none] } := by heap_get
  have hcC : (Value.ref C :: bm).contains (.ref C) = true := by simp
  unfold isInstance
  repeat (first | with_reducible refine wpAny_loadPart_at hget ?_ | (with_reducible refine wpAny_isSubtype_exc hC₁ ?_; rw [hcC]) | wp_step)
  show wpAny _ _ (typeLookup (.ref C) _) _ _ _
  rw [typeLookup_eq]
  refine wpAny_bind (wpAny_mroOf_exc hC₁ ?_)
  rw [lookupAlong_cons]
  refine wpAny_bind (wpAny_classOwn_exc hC₁ hn₁ ?_)
  rw [hi]
  refine wpAny_pure ?_
  refine wpAny_holding (wpAny_bind ?_)
  unfold bindSpecial
  refine wpAny_bind (wpAny_typeOf (T := "function") ⟨_, hfI₁, hfc⟩ ?_)
  rw [if_pos (by decide)]
  refine wpAny_pure (wpAny_bind (wpAny_mono (hq _ rfl) (fun r s' hr => ?_) fun _ _ x => x))
  obtain ⟨rfl, hQ⟩ := hr
  wp_walk
  exact hQ
theorem exc_call (Fn : ExcBaseFacts Bn newId inN bmN) (hBn : bm.contains (.type Bn) = true) (hAt : bm.contains (.type "AttributeError") = false) (hNm : bm.contains (.type "NameError") = false) {mN : Str → Option Value} {rest : List Value} {fI : Addr} {oI : Obj} {Q : Value → Shared → Prop}
    (hC : h.get? C = some (excClassObj nm q C N bs bm hdct sn sub ab col dd k0 k1 k2 k3 k5 newId)) (hn : h.Ns N mN) (hi : mN "__init__" = some (.ref fI)) (hfI : h.get? fI = some oI) (hfc : oI.cls = .type "function")
    (hq : ∀ h', h' = (h.push { cls := .type "tuple", data := .seq rest.toArray }).push { cls := .ref C, data := excFields (.ref h.objs.size) } →
      wpAny (model prog w) (A.under (.builtin "type.__call__" ⟨.ref C :: rest, []⟩)) (call (.ref fI) (.ref (h.objs.size + 1) :: rest)) (fun r s' => r = .none ∧ Q (.ref (h.objs.size + 1)) s') E ⟨h', g, d, t, os⟩) (hrest : rest.length ≤ sizeLine) :
    wpAny (model prog w) A (call (.ref C) rest) Q E ⟨h, g, d, t, os⟩ := by
  have f1 := tc_lookup
  have f2 := tc_bind (.ref C)
  have hT : (⟨h, g, d, t, os⟩ : Shared).TypeIs (.ref C) "type" := ⟨_, hC, rfl⟩
  refine wpAny_call (codeAny_of_tree ?_)
  show wpAny _ _ (callAny (.ref C) _) _ _ _
  repeat (any_goals (first | assumption | with_reducible refine wpAny_loadPart_at hC ?_ | wp_step))
  refine ⟨rfl, ?_⟩
  refine codeAny_call_builtin_at (Code.quiet_builtin _ (by decide +kernel)) entry_typeCall (wpAny_check_type_call_sub hC (exc_typeCall Fn hBn hAt hNm hC hn hi hfI hfc (fun h' e => ?_) hrest))
  exact hq h' e
end
theorem ns_at {K : Frag} {h : Heap} {N : Addr} {m : Str → Option Value} {n : Str} {v : Value} (X : K.In h) (G : h.Ns N m) (e : nsIn K N n = some (some v)) : m n = some v := by
  obtain ⟨o, es, ep, ho, hd, _, hf⟩ := G
  unfold nsIn at e
  split at e
  · rename_i c d es' n' sl q
    have := X _ _ q
    rw [ho] at this
    cases this
    cases hd
    split at e
    · rename_i en he
      cases e
      rw [← hf]
      unfold nsFind findBy
      rw [← Array.find?_toList, he]
      rfl
    · split at e <;> cases e
  · cases e
theorem meta_exc : typeOf (.type "Exception") = pure (.type "type") := by kernel_rfl
section
open PySem.Builtin
variable {prog : Program} {w : World} {A : Around} {E : Value → Shared → Prop} {h : Heap} {g : Array GenState} {d : Drawn} {t : Nat} {os : OsState}
variable {nm q : Str} {C N : Addr} {bs bm : List Value} {hdct : Bool} {sn : List Str} {sub : List Value} {ab : Bool} {col : Option Bool} {dd : Option Addr} {k0 k1 k2 k3 k5 : Option Value} {B nid initId newId : String} {bmB : List Value}
theorem exc_initCheck (F : ExcBaseFacts B nid initId bmB) (hB : bm.contains (.type B) = true) {M : Model} {e : Addr} {oe : Obj} {rest : List Value} {Q : Unit → Shared → Prop}
    (hC : h.get? C = some (excClassObj nm q C N bs bm hdct sn sub ab col dd k0 k1 k2 k3 k5 newId)) (he : h.get? e = some oe) (hcls : oe.cls = .ref C) (hq : Q () ⟨h, g, d, t, os⟩) :
    wpAny M A (checkBuiltinCall initId ⟨.ref e :: rest, []⟩) Q E ⟨h, g, d, t, os⟩ := by
  have hcB : (Value.ref C :: bm).contains (.type B) = true := by rw [List.contains_cons, hB, Bool.or_true]
  have hshort := F.noStar
  simp only [checkBuiltinCall, F.initKind, F.initSplit, F.initRow]
  repeat (first | (with_reducible refine wpAny_loadPart_at he ?_; rw [hcls]) | with_reducible refine wpAny_loadPart_at hC ?_ | (with_reducible refine wpAny_isSubtype_exc hC ?_; rw [hcB]) | wp_step)
  refine wpAny_onRaise ?_
  rw [show ∀ (a b : String) (n : Nat), Bind.check ⟨.positional, "*", B, .self, [⟨"args", .varPos, false⟩]⟩ a b n (List.map (fun x => x.fst) ({ pos := Value.ref e :: rest } : Args).kw) = pure () from
    fun a b n => check_star_args _ _ _ _ _ _]
  exact wpAny_pure hq
theorem exc_init (F : ExcBaseFacts B nid initId bmB) (hB : bm.contains (.type B) = true) {e : Addr} {oe : Obj} {t0 : Addr} {rest : List Value} {Q : Value → Shared → Prop}
    (hC : h.get? C = some (excClassObj nm q C N bs bm hdct sn sub ab col dd k0 k1 k2 k3 k5 newId)) (he : h.get? e = some oe) (hcls : oe.cls = .ref C) (hd : oe.data = excFields (.ref t0)) (hrest : rest.length ≤ sizeLine)
    (hq : Q .none ⟨(h.push { cls := .type "tuple", data := .seq rest.toArray }).update e (Obj.mapFields (·.setIfInBounds 0 (.ref h.objs.size))), g, d, t, os⟩) :
    wpAny (model prog w) A (call (.builtin initId) (.ref e :: rest)) Q E ⟨h, g, d, t, os⟩ := by
  refine wpAny_call (codeAny_call_builtin F.init.plain F.initEntry (exc_initCheck F hB hC he hcls ?_))
  obtain ⟨oc, odi, oda, osl⟩ := oe
  dsimp only at hcls hd
  subst hcls hd
  unfold Builtin.«BaseException.__init__»
  dsimp only
  wp_walk
  all_goals exact hq
end
end
theorem reset_PF {prog : Program} {w : World} {A : Around} {env : Env} {Q : Flow → Shared → Prop} {E : Value → Shared → Prop} {s : Shared} (h : Q .next s) : wpAny (model prog w) A (execs [] env) Q E s := by
  walk1
  exact h
section
section
open PySem.Builtin PySem.Builtin.ObjectAttr
variable {prog : Program} {w : World} {A : Around} {E : Value → Shared → Prop} {s : Shared} {K : Frag} {h₀ : Heap} {L e t0 : Addr} {m : Str → Option Value} {news : List (Addr × Obj)} {oe : Obj}
/-- a dict's object by its names -/
noncomputable def DictObj (od : Obj) (m : Str → Option Value) : Prop := ∃ es ep, od.data = .dict es ep ∧ StrKeys es ∧ UniqKeys es ∧ ∀ name, nsFind es name = m name
theorem DictObj.ns1 {od : Obj} {m : Str → Option Value} {h : Heap} {d : Addr} (x : DictObj od m) (e : h.get? d = some od) : h.Ns1 d m := let ⟨es, ep, h1, h2⟩ := x; ⟨od, es, ep, e, h1, h2⟩
theorem exc_initN {nm q : Str} {C N : Addr} {bs bm : List Value} {hdct : Bool} {sn : List Str} {sub : List Value} {ab : Bool} {col : Option Bool} {dd : Option Addr} {k0 k1 k2 k3 k5 : Option Value} {newId : String} {x : Value} {Q : Value → Shared → Prop}
    (hB : bm.contains (.type "Exception") = true) (hC : s.heap.get? C = some (excClassObj nm q C N bs bm hdct sn sub ab col dd k0 k1 k2 k3 k5 newId))
    (F : Fr h₀ L s.heap m) (N' : News h₀ L s.heap ((e, oe) :: news)) (hoff : ∀ p ∈ news, p.1 ≠ e) (hcls : oe.cls = .ref C) (hd : oe.data = excFields (.ref t0))
    (h : ∀ t1 h' oe', Fr h₀ L h' m → News h₀ L h' ((e, oe') :: (t1, tupOf [x]) :: news) → oe'.cls = .ref C → oe'.data = excFields (.ref t1) → oe'.dict = oe.dict → (∀ p ∈ (e, oe) :: news, p.1 < t1) → Q .none { s with heap := h' }) :
    wpAny (model prog w) A (call (.builtin "Exception.__init__") [.ref e, x]) Q E s := by
  obtain ⟨hh, g, d, tk, os⟩ := s
  have he := (N' _ (.head _)).1
  refine exc_init PySem.F.excBase_Exception hB hC he hcls hd (by rw [PySem.sizeLine_eq]; simp only [List.length_cons, List.length_nil]; omega) ?_
  have N1 := News.push F N' (tupOf [x])
  have F1 := F.push (tupOf [x])
  have hlt : ∀ p ∈ (e, oe) :: news, @LT.lt Nat _ p.1 hh.objs.size := fun p hp => Heap.lt_size (N' p hp).1
  obtain ⟨oc, odi, oda, osl⟩ := oe
  dsimp only at hcls hd
  subst hcls hd
  have z := news_upd (d := e) (pre := [(hh.objs.size, tupOf [x])]) (post := news) (o := ⟨.ref C, odi, excFields (.ref t0), osl⟩) (o' := ⟨.ref C, odi, excFields (.ref hh.objs.size), osl⟩) (f := Obj.mapFields (·.setIfInBounds 0 (.ref hh.objs.size))) F1 N1
    (fun p hp => by rw [List.mem_singleton.mp hp]; exact Nat.ne_of_gt (hlt _ (.head _))) hoff rfl rfl
  refine h hh.objs.size _ ⟨.ref C, odi, excFields (.ref hh.objs.size), osl⟩ z.1 (fun p hp => z.2 p ?_) rfl rfl rfl hlt
  simp only [List.mem_cons, List.mem_append, List.not_mem_nil, or_false] at hp ⊢
  rcases hp with h | h | h <;> simp [h]
theorem die_open {name : Str} {tk : Tok} {v : Value} {od : Option Obj} {cd : ClassData} {C C' : Addr} {R : Result → Shared → Prop} (X : K.In s.heap) (I : InstAt s.heap e oe C od) (hc : clsIn K C = some cd) (hm : cd.mro = [.ref C, .ref C', .type "Exception", .type "BaseException", .type "object"])
    (hf : findIn K (.ref C) name = some none)
    (h : wpAny (model prog w) A.in1 (storeInOwnDict (.ref e) (.ref C) (.str name tk) name v false) (fun fin s' => match fin with | .done f => R (.ok f) s' | .again c' => c'.quiet = true ∧ codeAny (model prog w) A c' R s') (fun e s' => R (.error e) s') s) :
    codeAny (model prog w) A (.call (.builtin "object.__setattr__") ⟨[.ref e, .str name tk, v], []⟩) R s := by
  have SF := PySem.F.store_object
  have sub : Looks (model prog w) s.heap (isInstance (.ref e) (.type "object")) true := I.type.andThen (looks_mroIn X (by unfold mroIn; rw [hc, Option.bind_some, hm]; rfl))
  refine codeAny_call_builtin SF.slot.plain SF.entry (@check_slot (model prog w) _ _ s "object.__setattr__" "object" "__setattr__" (.ref e) [.str name tk, v] [] _ SF.kind SF.split sub (SF.args (.ref e) (.str name tk) v) ?_)
  have hmr : Looks (model prog w) s.heap (mroOf (.ref C)) cd.mro := (looks_clsIn X hc).andThen .now
  rw [osa_eq, refuse_eq]
  refine wpAny_bind (wpAny_bind (I.type.here (wpAny_bind (hmr.here ?_))))
  rw [hm, refuseLoop_ref, refuseLoop_ref, PySem.F.store_Exception.passes]
  refine wpAny_pure (wpAny_bind (I.type.here (wpAny_bind ((looks_findIn X hf).here (wpAny_bind (wpAny_pure ?_))))))
  exact h
theorem die_set1 {name : Str} {v : Value} {cd : ClassData} {C C' : Addr} {Q : Unit → Shared → Prop} (X : K.In s.heap) (F : Fr h₀ L s.heap m) (N : News h₀ L s.heap ((e, oe) :: news)) (hoff : ∀ p ∈ news, p.1 ≠ e) (hcls : oe.cls = .ref C) (hd : oe.data = excFields (.ref t0)) (hdict : oe.dict = none)
    (hs : findIn K (.ref C) "__setattr__" = some (some (.builtin "object.__setattr__"))) (hc : clsIn K C = some cd) (hm : cd.mro = [.ref C, .ref C', .type "Exception", .type "BaseException", .type "object"]) (hh : cd.hasDict = true) (hf : findIn K (.ref C) name = some none)
    (h : ∀ d od oe' h' tk', Fr h₀ L h' m → News h₀ L h' ((e, oe') :: (d, od) :: news) → oe'.cls = .ref C → oe'.data = excFields (.ref t0) → oe'.dict = some d → DictObj od (fun y => if y = name then some v else none) → (∀ p ∈ (e, oe) :: news, p.1 < d) → Q () { s with heap := h', toks := tk' }) :
    wpAny (model prog w) A (setAttr (.ref e) name v) Q E s := by
  obtain ⟨oc, odi, oda, osl⟩ := oe
  dsimp only at hcls hd hdict
  subst hcls hd hdict
  have he := (N _ (.head _)).1
  have I : InstAt s.heap e ⟨.ref C, none, excFields (.ref t0), osl⟩ C none := ⟨he, rfl, rfl, trivial⟩
  refine set_plain X I hs (die_open (s := { s with toks := s.toks + 1 }) X I hc hm hf ?_)
  obtain ⟨hp, g, d, tk, os⟩ := s
  refine wpAny_bind (wpAny_pure (wpAny_bind (wpAny_bind (wpAny_loadPart he (wpAny_bind (looks_clsIn X hc _ _ _ _ (fun _ _ e => e) ?_))))))
  simp only [hh, Bool.not_true, Bool.false_eq_true, if_false]
  simp only [typeHasDict, Bool.not_true, Bool.or_self, Bool.false_eq_true, if_false]
  refine wpAny_bind (wpAny_alloc ?_)
  refine wpAny_bind (wpAny_update (Heap.get?_push_of_some _ he) ?_)
  refine wpAny_pure (a := some hp.objs.size) ?_
  dsimp only
  have hlt : ∀ p ∈ (e, (⟨.ref C, none, excFields (.ref t0), osl⟩ : Obj)) :: news, @LT.lt Nat _ p.1 hp.objs.size := fun p q => Heap.lt_size (N p q).1
  have hlt' := hlt
  have F1 := F.push { cls := .type "dict", data := .dict #[] }
  have N1 := News.push F N { cls := .type "dict", data := .dict #[] }
  dsimp only at F1 N1
  obtain ⟨F2, N2⟩ := news_upd (d := e) (pre := [(hp.objs.size, ({ cls := .type "dict", data := .dict #[] } : Obj))]) (post := news) (o := ⟨.ref C, none, excFields (.ref t0), osl⟩) (o' := ⟨.ref C, some hp.objs.size, excFields (.ref t0), osl⟩) (f := fun o => { o with dict := some hp.objs.size }) F1 N1
    (fun p q => by rw [List.mem_singleton.mp q]; exact Nat.ne_of_gt (hlt _ (.head _))) hoff rfl rfl
  generalize hp.objs.size = d0 at F2 N2 hlt ⊢
  generalize ((hp.push { cls := .type "dict", data := .dict #[] }).update e fun o => { o with dict := some d0 }) = h1 at F2 N2 ⊢
  have hgd := (N2 (d0, { cls := .type "dict", data := .dict #[] }) (.head _))
  have hnd : h1.Ns d0 (fun _ => none) := ⟨_, #[], _, hgd.1, rfl, fun e he => absurd he (by simp), fun _ => rfl⟩
  unfold storeInDict newKeyGuard
  refine wpAny_bind (wpAny_pure (wpAny_bind (wpAny_nsSet1 (Heap.Ns1.of_empty hnd) fun h' hn' hs' => ?_)))
  obtain ⟨oD, esD, epD, hoD, hdD, hcD⟩ := hn'.count (Within.cons name v Within.nil)
  refine wpAny_bind (wpAny_lookBehind hoD (by rw [hdD]; exact pastItsLine_dict (Nat.le_trans hcD (by rw [List.length_cons, List.length_nil, PySem.sizeLine_eq]; omega))) ?_)
  obtain ⟨od, es, ep, ho, hd1, hd2, hd3, hd4⟩ := hn'
  refine wpAny_pure ?_
  have F3 : Fr h₀ L h' m := F2.change hs' hgd.2.1 hgd.2.2
  have N3 := news_set (pre := []) (post := (e, ⟨.ref C, some d0, excFields (.ref t0), osl⟩) :: news) N2 (fun _ q => nomatch q) (fun p q => by
    rcases List.mem_cons.mp q with rfl | q
    · exact Nat.ne_of_lt (hlt (e, ⟨.ref C, none, excFields (.ref t0), osl⟩) (.head _))
    · exact Nat.ne_of_lt (hlt _ (.tail _ q))) hs' ho
  refine h d0 od ⟨.ref C, some d0, excFields (.ref t0), osl⟩ h' _ F3 (fun p q => N3 p ?_) rfl rfl rfl ⟨es, ep, hd1, hd2, hd3, hd4⟩ hlt
  simp only [List.mem_cons, List.nil_append] at q ⊢
  rcases q with q | q | q <;> simp [q]
theorem die_set2 {name : Str} {v : Value} {cd : ClassData} {C C' d : Addr} {od : Obj} {mA : Str → Option Value} {ns : List Str} {Q : Unit → Shared → Prop} (X : K.In s.heap) (F : Fr h₀ L s.heap m) (N : News h₀ L s.heap ((e, oe) :: (d, od) :: news)) (hoff : ∀ p ∈ news, p.1 ≠ d) (hed : e ≠ d) (hcls : oe.cls = .ref C) (hd : oe.data = excFields (.ref t0)) (hdict : oe.dict = some d)
    (hD : DictObj od mA) (hw : Within mA ns) (hsz : ns.length ≤ 100)
    (hs : findIn K (.ref C) "__setattr__" = some (some (.builtin "object.__setattr__"))) (hc : clsIn K C = some cd) (hm : cd.mro = [.ref C, .ref C', .type "Exception", .type "BaseException", .type "object"]) (hh : cd.hasDict = true) (hf : findIn K (.ref C) name = some none)
    (h : ∀ od' h' tk', Fr h₀ L h' m → News h₀ L h' ((e, oe) :: (d, od') :: news) → Q () { s with heap := h', toks := tk' }) :
    wpAny (model prog w) A (setAttr (.ref e) name v) Q E s := by
  obtain ⟨oc, odi, oda, osl⟩ := oe
  dsimp only at hcls hd hdict
  subst hcls hd hdict
  have he := (N _ (.head _)).1
  have hgd := N (d, od) (.tail _ (.head _))
  have I : InstAt s.heap e ⟨.ref C, some d, excFields (.ref t0), osl⟩ C (some od) := ⟨he, rfl, rfl, hgd.1⟩
  refine set_plain X I hs (die_open (s := { s with toks := s.toks + 1 }) X I hc hm hf ?_)
  obtain ⟨hp, g, dr, tk, os⟩ := s
  refine wpAny_bind (wpAny_pure (wpAny_bind (wpAny_bind (wpAny_loadPart he (wpAny_bind (looks_clsIn X hc _ _ _ _ (fun _ _ e => e) ?_))))))
  simp only [hh, Bool.not_true, Bool.false_eq_true, if_false]
  refine wpAny_pure (a := some d) ?_
  dsimp only
  unfold storeInDict newKeyGuard
  refine wpAny_bind (wpAny_pure (wpAny_bind (wpAny_nsSet1 (hD.ns1 hgd.1) fun h' hn' hs' => ?_)))
  obtain ⟨oD, esD, epD, hoD, hdD, hcD⟩ := hn'.count (Within.cons name v hw)
  refine wpAny_bind (wpAny_lookBehind hoD (by rw [hdD]; exact pastItsLine_dict (Nat.le_trans hcD (by rw [List.length_cons, PySem.sizeLine_eq]; omega))) ?_)
  obtain ⟨od', es, ep, ho, hd1, hd2, hd3, hd4⟩ := hn'
  refine wpAny_pure ?_
  have F3 : Fr h₀ L h' m := F.change hs' hgd.2.1 hgd.2.2
  have N3 := news_set (pre := [(e, ⟨.ref C, some d, excFields (.ref t0), osl⟩)]) (post := news) N (fun p q => by rw [List.mem_singleton.mp q]; exact hed) hoff hs' ho
  exact h od' h' _ F3 N3
end
section
variable (w : World) (mean : ExcName → Option Value) (mg mb : Str → Option Value)
local macro_rules | `(tactic| walk_at "call builtin:Exception.__init__") => `(tactic| (k_here; refine stop ?_))
local macro_rules | `(tactic| walk_at "setAttr ref") => `(tactic| (k_here; refine stop ?_))
local macro_rules | `(tactic| walk_at "getMethod type:Exception") => `(tactic| (k_here; refine' method_type ?F ?X ?m (by decide +kernel) ?e ?h ?_; (case F => k_asm); (case X => k_asm); (case m => exact meta_exc); (case e => k_dflt k_is); (case h => k_handed)))
theorem new_die (news : List (Addr × Obj)) (x : Str) (i : Int) (tx ti : Tok) :
    CallOk w mean mg mb 51 10 100 [.str x tx, .int i ti] news (fun v led' => ∃ e oe t, v = .ref e ∧ led' = (e, oe) :: (t, tupOf [.str x tx]) :: news ∧ oe.cls = .ref 51 ∧ oe.data = excFields (.ref t) ∧ ∀ q ∈ news, q.1 ≠ e ∧ q.1 ≠ t) := by
  intro dp un gd cn cs a ccd cl outer A₀ base h₀ L m s Q E B F X N T hk hdp hun hret
  have Xs := X.keeps F.keep
  obtain ⟨h, g, d, tk, os⟩ := s
  have hC := Xs 51 _ (by k_dflt k_is)
  have hfI := Xs 48 _ (by k_dflt k_is)
  have h50 := Xs 50 _ (by k_dflt k_is)
  have hns : h.Ns 50 (h.nsMap 50) := .of_isNs (by unfold Heap.isNs; dsimp only at h50; rw [h50]; show Array.all _ _ = true; rw [← Array.all_toList]; rfl)
  have hini : h.nsMap 50 "__init__" = some (.ref 48) := ns_at Xs hns (by k_dflt k_is)
  refine exc_call (Bn := "Exception") PySem.F.excBase_Exception (by decide +kernel) (by decide +kernel) (by decide +kernel) hC hns hini hfI rfl ?_ (by rw [PySem.sizeLine_eq]; simp only [List.length_cons, List.length_nil]; omega)
  intro h' eh
  have F' := (F.push { cls := .type "tuple", data := .seq [Value.str x tx, Value.int i ti].toArray }).push { cls := .ref 51, data := excFields (.ref h.objs.size) }
  have N' := (News.push F N { cls := .type "tuple", data := .seq [Value.str x tx, Value.int i ti].toArray }).push (F.push _) { cls := .ref 51, data := excFields (.ref h.objs.size) }
  rw [Heap.size_push] at N'
  rw [← eh] at F' N'
  clear eh hns hini hC hfI h50
  have hlt : ∀ p ∈ news, @LT.lt Nat _ p.1 h.objs.size := fun p hp => Heap.lt_size (N p hp).1
  generalize h.objs.size = t0 at N' hlt ⊢
  clear N F Xs
  have hne : @Ne Nat (t0 + 1) t0 := by omega
  walk_at "call ref"
  k_steps
  unfold Stop
  rename News _ _ _ _ => N3
  rename Fr _ _ _ _ => F3
  rename Frag.In _ _ => X3
  have X3' := X3.keeps F3.keep
  refine exc_initN (C := 51) (t0 := t0) ?hB (X3' 51 _ (by k_dflt k_is)) F3 N3 (fun p hp => ?_) rfl rfl ?_
  case hB => decide +kernel
  · rcases List.mem_cons.mp hp with rfl | hp
    · exact Nat.ne_of_lt (Nat.lt_succ_self _)
    · exact Nat.ne_of_lt (Nat.lt_succ_of_lt (hlt p hp))
  intro t1 h4 oe4 F4 N4 c4 d4 i4 l4
  clear N3 F3 X3'
  k_steps
  unfold Stop
  rename Frag.In _ _ => X5
  have X5' := X5.keeps F4.keep
  refine die_set1 (C := 51) (C' := 31) X5' F4 N4 (fun p hp => ?_) c4 d4 i4 (by k_dflt k_is) (by k_dflt k_is) rfl rfl (by k_dflt k_is) ?_
  · rcases List.mem_cons.mp hp with rfl | hp
    · exact Nat.ne_of_gt (l4 _ (.head _))
    · rcases List.mem_cons.mp hp with rfl | hp
      · exact Nat.ne_of_lt (Nat.lt_succ_self _)
      · exact Nat.ne_of_lt (Nat.lt_succ_of_lt (hlt p hp))
  intro d6 od6 oe6 h6 tk6 F6 N6 c6 dd6 i6 D6 l6
  clear N4 F4 X5'
  k_steps
  unfold Stop
  rename News _ _ _ _ => N7
  rename Fr _ _ _ _ => F7
  rename Frag.In _ _ => X7
  have X7' := X7.keeps F7.keep
  refine die_set2 (C := 51) (C' := 31) (ns := [Str.ofString "text"]) X7' F7 N7 (fun p hp => ?_) (Nat.ne_of_lt (l6 _ (.head _))) c6 dd6 i6 D6 ?_ (by decide) (by k_dflt k_is) (by k_dflt k_is) rfl rfl (by k_dflt k_is) ?_
  · exact Nat.ne_of_lt (l6 p (.tail _ hp))
  · exact Within.cons _ _ Within.nil
  intro od8 h8 tk8 F8 N8
  clear N7 F7 X7'
  k_steps
  refine hret _ _ _ _ ⟨t0 + 1, oe6, t1, rfl, rfl, c6, dd6, fun q hq => ⟨Nat.ne_of_lt (Nat.lt_succ_of_lt (hlt q hq)), Nat.ne_of_lt (l4 q (.tail _ (.tail _ hq)))⟩⟩ (by k_asm) ?_
  rename News _ _ _ _ => N9
  intro p hp
  refine N9 p ?_
  simp only [List.mem_cons] at hp ⊢
  rcases hp with q | q | q <;> simp [q]
end
end
theorem reset_PG {prog : Program} {w : World} {A : Around} {env : Env} {Q : Flow → Shared → Prop} {E : Value → Shared → Prop} {s : Shared} (h : Q .next s) : wpAny (model prog w) A (execs [] env) Q E s := by
  walk1
  exact h
section
section
open PySem.Builtin
variable {M : Model} {A : Around} {E : Value → Shared → Prop} {s : Shared} {env : Env}
variable {nm q : Str} {C N : Addr} {bs bm : List Value} {hdct : Bool} {sn : List Str} {sub : List Value} {ab : Bool} {col : Option Bool} {dd : Option Addr} {k0 k1 k2 k3 k5 : Option Value} {newId : String}
theorem raise_die {x : Sem Value} {Q : Flow → Shared → Prop} (hbase : bm.contains (.type "BaseException") = true) (hh : A.handled = none)
    (h : wpAny M A x (fun v s₁ => ∃ e t odi osl, v = .ref e ∧ s₁.heap.get? C = some (excClassObj nm q C N bs bm hdct sn sub ab col dd k0 k1 k2 k3 k5 newId) ∧
      s₁.heap.get? e = some ⟨.ref C, odi, excFields (.ref t), osl⟩ ∧ E (.ref e) s₁) E s) :
    wpAny M A (raiseStmt env (some x) none) Q E s := by
  have hcB : (Value.ref C :: bm).contains (.type "BaseException") = true := by rw [List.contains_cons, hbase, Bool.or_true]
  unfold raiseStmt
  refine wpAny_bind (wpAny_mono h (fun v s₁ h₁ => ?_) fun _ _ x => x)
  obtain ⟨e, t, odi, osl, rfl, hC, he, hE⟩ := h₁
  obtain ⟨hp, g, d, tk, os⟩ := s₁
  repeat (first | with_reducible refine wpAny_loadPart_at he ?_ | with_reducible refine wpAny_loadPart_at hC ?_ | (with_reducible refine wpAny_isSubtype_exc hC ?_; rw [hcB]) | wp_step)
  exact wpAny_raiseNew_none hh hE
end
noncomputable def IsDie (h : Heap) : Prop := ∃ nm q N bs bm hdct sn sub ab col dd k0 k1 k2 k3 k5 newId, h.get? 51 = some (excClassObj nm q 51 N bs bm hdct sn sub ab col dd k0 k1 k2 k3 k5 newId) ∧ bm.contains (.type "BaseException") = true
theorem isDie_of (w : World) {h : Heap} (X : (hd.heap_39 w.params).In h) : IsDie h := by
  have h1 := X 51 _ (by k_dflt k_is)
  exact ⟨_, _, _, _, _, _, _, _, _, _, _, _, _, _, _, _, _, h1, by decide +kernel⟩
theorem raise_it {M : Model} {A : Around} {E : Value → Shared → Prop} {s : Shared} {env : Env} {x : Expr} {pos : Pos} {Q : Flow → Shared → Prop} (hh : A.handled = none)
    (h : wpAny M A (eval x env) (fun v s₁ => ∃ e t odi osl, v = .ref e ∧ IsDie s₁.heap ∧ s₁.heap.get? e = some ⟨.ref 51, odi, excFields (.ref t), osl⟩ ∧ E (.ref e) s₁) E s) :
    wpAny M A (exec (.Raise (some x) none pos) env) Q E s := by
  rw [arm_exec_Raise]
  refine wpAny_bind (wpAny_standAt ?_)
  show wpAny M A (raiseStmt env (some (do let v ← eval x env; standAt pos; pure v)) none) Q E s
  unfold raiseStmt
  refine wpAny_bind (wpAny_bind (wpAny_mono h (fun v s₃ h₃ => wpAny_bind (wpAny_standAt (wpAny_pure ?_))) fun _ _ x => x))
  obtain ⟨e, t, odi, osl, rfl, ⟨nm, q, N, bs, bm, hdct, sn, sub, ab, col, dd, k0, k1, k2, k3, k5, newId, hC, hbase⟩, he, hE⟩ := h₃
  have hcB : (Value.ref 51 :: bm).contains (.type "BaseException") = true := by rw [List.contains_cons, hbase, Bool.or_true]
  obtain ⟨hp, g, d, tk, os⟩ := s₃
  repeat (first | with_reducible refine wpAny_loadPart_at he ?_ | with_reducible refine wpAny_loadPart_at hC ?_ | (with_reducible refine wpAny_isSubtype_exc hC ?_; rw [hcB]) | wp_step)
  exact wpAny_raiseNew_none hh hE
section
variable {M : Model} {A : Around} {E : Value → Shared → Prop} {s' : Shared} {base g : Heap} {outer : List Env} {L a e t : Addr} {m : Str → Option Value} {name : Str} {scope : Scope} {cd : Value} {Q : Unit → Shared → Prop} {news : List (Addr × Obj)} {oe : Obj}
theorem leave_die {cls : Value} {vs : List Value} (K : Below A base outer g) (F : Fr g L s'.heap m) (N : News g L s'.heap ((e, oe) :: (t, tupOf vs) :: news)) (hoff : ∀ p ∈ news, p.1 ≠ e ∧ p.1 ≠ t) (hcls : oe.cls = cls) (hd : oe.data = excFields (.ref t))
    (hQ : ∀ h', RaisedK base outer e cls t vs news h' → g.UpToSlots h' → Q () { s' with heap := h' }) (hk : scope.kind = .function := by rfl) :
    wpAny M (A.deeper (envOf name scope L a cd)) (leaving (envOf name scope L a cd) (.ref e)) Q E s' := by
  have K' := K.push (name := name) (a := a) (cd := cd) F hk
  have he := N (e, oe) (.head _)
  have ht := N (t, tupOf vs) (.tail _ (.head _))
  have hin : ∀ env ∈ (envOf name scope L a cd :: outer), ∀ b, env.frame = some b → b ∈ e :: t :: (envOf name scope L a cd :: outer).filterMap (·.frame) := fun env he b hb => .tail _ (.tail _ (List.mem_filterMap.mpr ⟨env, he, hb⟩))
  have st : base.StaysIn (hideAll s'.heap (e :: t :: (envOf name scope L a cd :: outer).filterMap (·.frame))) := fun b o q => hideAll_get _ (K'.stays b o q) fun hm => by
    rcases List.mem_cons.mp hm with z | hm
    · have := fresh_of_stays K.stays he.2.2
      rw [← show b = e from z, q] at this; cases this
    · rcases List.mem_cons.mp hm with z | hm
      · have := fresh_of_stays K.stays ht.2.2
        rw [← show b = t from z, q] at this; cases this
      · rw [(K'.frames.mem hm).1] at q; cases q
  have hl : ∀ q ∈ news, (hideAll s'.heap (e :: t :: (envOf name scope L a cd :: outer).filterMap (·.frame))).get? q.1 = some q.2 ∧ base.get? q.1 = none := fun q hq => by
    have hq' := N q (.tail _ (.tail _ hq))
    refine ⟨hideAll_get _ hq'.1 fun hm => ?_, fresh_of_stays K.stays hq'.2.2⟩
    rcases List.mem_cons.mp hm with z | hm
    · exact (hoff q hq).1 z
    · rcases List.mem_cons.mp hm with z | hm
      · exact (hoff q hq).2 z
      · obtain ⟨env, hev, hf⟩ := List.mem_filterMap.mp hm
        rcases List.mem_cons.mp hev with rfl | hev
        · exact hq'.2.1 (Option.some.inj hf).symm
        · obtain ⟨o, ho, _⟩ := (K.frames.mem (List.mem_filterMap.mpr ⟨env, hev, hf⟩)).2
          rw [hq'.2.2] at ho; cases ho
  refine wpAny_leaving_firstW (a0 := .ref t) K'.stack (funFrames_hide K'.frames hin) rfl he.1 (fun b o q => of_hideAll _ q) (hideAll_none _ (.head _)) hd rfl rfl fun h' hL => ?_
  obtain ⟨k1, ⟨_, _, k2⟩, k3, k4⟩ := hL
  rw [hcls] at k3
  refine hQ h' ⟨⟨_, st, hl, ⟨k1, hideAll_none _ (.head _), k2, k3⟩, hideAll_none _ (.tail _ (.head _))⟩, Heap.TupAt.of_slots ⟨_, _, ht.1, rfl, rfl⟩ k4⟩ ((Heap.UpToSlots.of_keeps F.keep).trans k4)
end
end
theorem reset_P8 {prog : Program} {w : World} {A : Around} {env : Env} {Q : Flow → Shared → Prop} {E : Value → Shared → Prop} {s : Shared} (h : Q .next s) : wpAny (model prog w) A (execs [] env) Q E s := by
  walk1
  exact h
section
noncomputable def CallR (w : World) (mean : ExcName → Option Value) (mg mb : Str → Option Value) (f : Addr) (D U : Nat) (vs : List Value) (led : List (Addr × Obj)) (Ret : Value → List (Addr × Obj) → Prop) (Rz : List (Addr × Obj) → Prop) : Prop :=
  ∀ (dp un : Nat) (gd : Option (List Code)) (cn : Str) (cs : Scope) (a : Addr) (ccd : Value) (cl : List (Str × Addr)) (outer : List Env) (A₀ : Around) (base h₀ : Heap) (L : Addr) (m : Str → Option Value)
    (s : Shared) (Q E : Value → Shared → Prop),
    Below A₀ base outer h₀ → Fr h₀ L s.heap m → (hd.heap_39 w.params).In h₀ → News h₀ L s.heap led → Top hd.view_39 LO mean mg mb h₀ → cs.kind = .function → dp + D < recursionLimit → un + U < cLine →
    (∀ v led' (h' : Heap) (tk' : Nat), Ret v led' → Fr h₀ L h' m → News h₀ L h' led' → Q v { s with heap := h', toks := tk' }) →
    (∀ e t vs' news' (g h' : Heap) (tk' : Nat), Rz news' → Fr h₀ L g m → g.UpToSlots h' → RaisedK base (envX cn cs L a ccd cl :: outer) e (.ref 51) t vs' news' h' → E (.ref e) { s with heap := h', toks := tk' }) →
    wpAny (model PySem.Challenge.rw_qz0095_02.row.prog w) (ktrTop dp un gd cn cs L a ccd cl outer) (call (.ref f) vs) Q E s
theorem CallR.use {w : World} {mean : ExcName → Option Value} {mg mb : Str → Option Value} {f : Addr} {D U : Nat} {vs : List Value} {led : List (Addr × Obj)} {Ret : Value → List (Addr × Obj) → Prop} {Rz : List (Addr × Obj) → Prop}
    {dp un : Nat} {gd : Option (List Code)} {cn : Str} {cs : Scope} {a : Addr} {ccd : Value} {cl : List (Str × Addr)} {outer : List Env} {A₀ : Around} {base h₀ : Heap} {L : Addr} {m : Str → Option Value}
    {s : Shared} {Q E : Value → Shared → Prop} (C : CallR w mean mg mb f D U vs led Ret Rz)
    (B : Below A₀ base outer h₀) (F : Fr h₀ L s.heap m) (X : (hd.heap_39 w.params).In h₀) (N : News h₀ L s.heap led) (T : Top hd.view_39 LO mean mg mb h₀) (hk : cs.kind = .function) (hdp : dp + D < recursionLimit) (hun : un + U < cLine)
    (h : ∀ v led' (h' : Heap) (tk' : Nat), Ret v led' → Fr h₀ L h' m → News h₀ L h' led' → Q v { s with heap := h', toks := tk' })
    (hz : ∀ e t vs' news' (g h' : Heap) (tk' : Nat), Rz news' → Fr h₀ L g m → g.UpToSlots h' → RaisedK base (envX cn cs L a ccd cl :: outer) e (.ref 51) t vs' news' h' → E (.ref e) { s with heap := h', toks := tk' }) :
    wpAny (model PySem.Challenge.rw_qz0095_02.row.prog w) (ktrTop dp un gd cn cs L a ccd cl outer) (call (.ref f) vs) Q E s := C _ _ _ _ _ _ _ _ _ _ _ _ _ _ _ _ _ B F X N T hk hdp hun h hz
noncomputable def cntQ (rows : List Row) : Nat := rows.countP fun r => r.c == 81
noncomputable def over (c : Nat) (rows : List Row) : Bool := decide (40 < rows.length) || (c == 81 && decide (8 ≤ cntQ rows))
noncomputable def begun (c : Nat) (rows : List Row) : List Row := if isLet c = true then endL rows else rows
theorem lst_len {prog : Program} {w : World} {A : Around} {E : Value → Shared → Prop} {s : Shared} {h₀ : Heap} {L D : Addr} {led : List (Addr × Obj)} {ys : List Value} {n : Nat} {Q : Value → Shared → Prop}
    (N : News h₀ L s.heap led) (hm : (D, listOf ys.toArray n) ∈ led) (hz : ys.length ≤ 1000) (h : ∀ t k, Q (.int (ys.length : Int) t) { s with toks := k }) : wpAny (model prog w) A (call (.builtin "len") [.ref D]) Q E s := by
  have hl : s.heap.IsList D ys.toArray := PySem.IsL.isList (n := n) (N _ hm).1
  refine PyProof.Rows.len_list hl ?_ ?_
  · rw [List.size_toArray]; omega
  · rw [List.size_toArray]; exact h _ _
theorem Apart.offS {S : Nat} {rows : List Row} {news : List (Addr × Obj)} (h : Apart S rows news) : ∀ p ∈ Led rows ++ news, @Ne Nat p.1 S := by
  intro p hp e
  rcases List.mem_append.mp hp with hp | hp
  · have h1 := h.1
    rw [List.nodup_cons] at h1
    exact h1.1 (e ▸ led_addrs hp)
  · exact h.2 p hp S (.head _) e
theorem Apart.push {S a b : Nat} {M : Str} {c : Nat} {tm : Tok} {n1 n2 : Nat} {rows : List Row} {news : List (Addr × Obj)} (h : Apart S rows news) (hb : AllLt b (Led rows ++ news)) (ha : AllLt a (Led rows ++ news)) (h1 : S < b) (h2 : b < a) : Apart S (⟨a, b, M, c, tm, n1, n2⟩ :: rows) news := by
  have la := addrs_lt ha
  have lb := addrs_lt hb
  refine ⟨?_, fun p hp x hx => ?_⟩
  · have h0 := h.1
    simp only [addrs, List.nodup_cons, List.mem_cons, not_or] at h0 ⊢
    refine ⟨⟨by omega, by omega, h0.1⟩, ⟨by omega, fun hm => ?_⟩, fun hm => ?_, h0.2⟩
    · exact absurd (la _ hm) (Nat.lt_irrefl _)
    · exact absurd (lb _ hm) (Nat.lt_irrefl _)
  · simp only [addrs, List.mem_cons] at hx
    rcases hx with rfl | rfl | rfl | hx
    · exact h.2 p hp _ (.head _)
    · exact Nat.ne_of_lt (allLt_mem ha p (List.mem_append_right _ hp))
    · exact Nat.ne_of_lt (allLt_mem hb p (List.mem_append_right _ hp))
    · exact h.2 p hp _ (.tail _ hx)
theorem endL_len : ∀ rows : List Row, (endL rows).length ≤ rows.length
  | [] => Nat.le_refl _
  | r :: rest => by
    unfold endL
    split
    · exact Nat.le_succ_of_le (endL_len rest)
    · exact Nat.le_refl _
theorem refs_step (p : Row → Bool) (l : List Row) (r : Row) : refs ((l ++ (some r).toList).filter p) = if p r = true then refs (l.filter p) ++ [.ref r.a] else refs (l.filter p) := by
  rw [Option.toList_some, List.filter_append]
  unfold refs
  cases h : p r <;> simp [h]
theorem refs_yes {p : Row → Bool} {l : List Row} {r : Row} (h : p r = true) : refs ((l ++ (some r).toList).filter p) = refs (l.filter p) ++ [.ref r.a] := by
  rw [refs_step, if_pos h]
theorem refs_no {p : Row → Bool} {l : List Row} {r : Row} (h : p r = false) : refs ((l ++ (some r).toList).filter p) = refs (l.filter p) := by
  rw [refs_step, h]
  rfl
theorem qs_len (rows : List Row) : List.take (items rows).size rows.reverse = rows.reverse := by
  rw [items_size, ← List.length_reverse, List.take_length]
theorem qs_cnt (rows : List Row) : (refs (List.filter (fun r => r.c == 81) rows.reverse)).length = cntQ rows := by
  unfold refs cntQ
  rw [List.length_map, ← List.countP_eq_length_filter, List.countP_reverse]
theorem qs_le (rows : List Row) : (refs (List.filter (fun r => r.c == 81) rows.reverse)).length ≤ rows.length := by
  rw [qs_cnt]
  exact List.countP_le_length
theorem mark_let {M : Str} {c : Nat} (h : MarkStr M c) (hl : isLet c = true) : Txt.contains (Str.ofString "ULF") M = true ∧ (M == Str.ofString "Q") = false := by
  rcases h with ⟨rfl, rfl⟩ | ⟨rfl, rfl⟩ | ⟨rfl, rfl⟩ | ⟨rfl, rfl⟩ | ⟨rfl, rfl⟩ | ⟨rfl, rfl⟩
  all_goals first | (cases hl; done) | exact ⟨by decide +kernel, by decide +kernel⟩
theorem mark_not {M : Str} {c : Nat} (h : MarkStr M c) (hl : isLet c = false) : Txt.contains (Str.ofString "ULF") M = false := by
  rcases h with ⟨rfl, rfl⟩ | ⟨rfl, rfl⟩ | ⟨rfl, rfl⟩ | ⟨rfl, rfl⟩ | ⟨rfl, rfl⟩ | ⟨rfl, rfl⟩
  all_goals first | (cases hl; done) | decide +kernel
theorem mark_q {M : Str} {c : Nat} (h : MarkStr M c) (hq : c ≠ 81) : (M == Str.ofString "Q") = false := by
  rcases h with ⟨rfl, rfl⟩ | ⟨rfl, rfl⟩ | ⟨rfl, rfl⟩ | ⟨rfl, rfl⟩ | ⟨rfl, rfl⟩ | ⟨rfl, rfl⟩
  all_goals first | exact absurd rfl hq | decide +kernel
theorem row_q {r : Row} (h : RowOk r) : (r.h == Str.ofString "Q") = (r.c == 81) := by
  rcases h with ⟨e1, e2⟩ | ⟨e1, e2⟩ | ⟨e1, e2⟩ | ⟨e1, e2⟩ | ⟨e1, e2⟩ | ⟨e1, e2⟩ | ⟨e1, e2⟩ <;> (rw [e1, e2]; decide +kernel)
theorem over_big {c : Nat} {rows : List Row} (h : 40 < rows.length) : over c rows = true := by
  unfold over
  rw [decide_eq_true h, Bool.true_or]
theorem over_qs {rows : List Row} (h : 8 ≤ cntQ rows) : over 81 rows = true := by
  unfold over
  rw [decide_eq_true h, Bool.or_eq_true]
  exact .inr rfl
theorem over_not {c : Nat} {rows : List Row} (h : ¬ 40 < rows.length) (hc : c = 81 → ¬ 8 ≤ cntQ rows) : over c rows = false := by
  unfold over
  rw [decide_eq_false h, Bool.false_or]
  by_cases e : c = 81
  · rw [decide_eq_false (hc e), Bool.and_false]
  · rw [beq_eq_false_iff_ne.mpr e, Bool.false_and]
section
variable (w : World) (mean : ExcName → Option Value) (mg mb : Str → Option Value)
local macro_rules | `(tactic| walk_at "call builtin:len") => `(tactic| (k_here; (with_reducible show wpAny _ _ (call (Value.builtin "len") [Value.ref _]) _ _ _); k_dflt (refine' lst_len ?N ?hm ?hz ?_; (case N => k_asm); (case hm => walk_at "my mem"); (case hz => omega)); intro t' k'))
local macro_rules | `(tactic| walk_at "subscriptTail") => `(tactic| (k_here; (with_reducible show wpAny _ _ (subscriptTail _ _ (Value.ref _) (Value.int _ _)) _ _ _); k_dflt (refine' lst_item ?N ?hm ?hlo ?hhi ?hx ?_ ?hs; (case N => k_asm); (case hm => walk_at "my mem"); (case hlo => decide); (case hhi => decide); (case hx => rfl); (case hs => with_unfolding_all rfl))))
local macro_rules | `(tactic| walk_at "eval ListComp") => `(tactic| (k_here; refine stop ?_))
local macro_rules | `(tactic| walk_at "exec Raise some none") => `(tactic| (k_here; refine stop ?_))
local macro_rules | `(tactic| walk_at "call builtin:list.append") => `(tactic| (k_here; refine stop ?_))
local macro_rules | `(tactic| walk_at "call ref") => `(tactic| (k_here; (with_reducible show wpAny _ _ (call (Value.ref 228) _) _ _ _); refine stop ?_))
local macro_rules | `(tactic| walk_at "call ref") => `(tactic| (k_here; (with_reducible show wpAny _ _ (call (Value.ref 51) _) _ _ _); refine stop ?_))
local macro_rules | `(tactic| walk_at "compareOp Eq str str") => `(tactic| (k_here; k_dflt (first | (refine' eq_b (b := true) ?e ?_; (case e => with_reducible assumption)) | (refine' eq_b (b := false) ?e ?_; (case e => with_reducible assumption)))))
local macro_rules | `(tactic| walk_at "compareOp In str str") => `(tactic| (k_here; k_dflt (first | (refine' in_b (b := true) ?e ?_; (case e => with_reducible assumption)) | (refine' in_b (b := false) ?e ?_; (case e => with_reducible assumption)))))
/-- the part of begin_case behind the letters' end -/
theorem begin_spec (S n : Nat) (rows : List Row) (news : List (Addr × Obj)) (c : Nat) (M : Str) (tm : Tok) (hM : MarkStr M c) (hR : RowsOk rows) (hA : Apart S rows news) (hz : rows.length ≤ 60) :
    CallR w mean mg mb 233 40 600 [.ref S, .str M tm] ((S, listOf (items rows) n) :: (Led rows ++ news))
      (fun v led' => v = .none ∧ over c (begun c rows) = false ∧ ∃ r' n' news', led' = (S, listOf (items (r' :: begun c rows)) n') :: (Led (r' :: begun c rows) ++ news') ∧ r'.h = M ∧ r'.c = c ∧ RowsOk (r' :: begun c rows) ∧ Apart S (r' :: begun c rows) news' ∧ ∀ q ∈ news, q ∈ news')
      (fun news' => over c (begun c rows) = true ∧ ∀ q ∈ news, q ∈ news') := by
  intro dp un gd cn cs a ccd cl outer A₀ base h₀ L m s Q E B F X N T hk hdp hun hret hrz
  refine wpAny_call ?_
  k_dflt cell_enter
  cases hL : isLet c with
  | true =>
    have hb : begun c rows = endL rows := if_pos hL
    rw [hb] at hret hrz
    have hnq : c = 81 → ¬ 8 ≤ cntQ (endL rows) := by rintro rfl; cases hL
    obtain ⟨hin, hq⟩ := mark_let hM hL
    k_steps
    unfold Stop
    refine' CallOk.use (end_letters_spec w mean mg mb S n rows news hR hA hz) ?B ?F ?X ?N ?T ?hk ?hdp ?hun ?_
    case N => k_asm
    walk_at "my use0"
    intro v' led' h8 tk8 R8 F8 N8
    obtain ⟨rfl, n1, news1, rfl, hA1, hR1, hs1⟩ := R8
    have hz1 := endL_len rows
    k_steps
    · unfold Stop
      k_dflt (refine raise_it (by rfl) ?_)
      k_steps
      unfold Stop
      rename News _ _ _ _ => N7
      refine' CallOk.use (new_die w mean mg mb _ _ _ _ _) ?B ?F ?X ?N ?T ?hk ?hdp ?hun ?_
      case N => exact N7
      walk_at "my use0"
      intro v' led' h8 tk8 R8 F8 N8
      obtain ⟨e, oe, t, rfl, rfl, hc8, hd8, hl8⟩ := R8
      rename Frag.In _ _ => X8
      have he8 := (N8 (e, oe) (.head _)).1
      obtain ⟨oc8, od8, oda8, osl8⟩ := oe
      dsimp only at hc8 hd8
      subst hc8 hd8
      refine ⟨e, t, od8, osl8, rfl, isDie_of w (X8.keeps F8.keep), he8, ?_⟩
      k_unfold
      dsimp only
      refine leave_die (by assumption) F8 N8 hl8 rfl rfl ?_
      intro h9 R9 U9
      exact hrz e t _ _ _ _ _ ⟨over_big (by omega), fun q hq => .tail _ (List.mem_append_right _ (hs1 q hq))⟩ (by assumption) U9 R9
    · unfold Stop
      rename_i b1 hb1 lb1 a1 h1 F1 N1 la1
      refine stk_push (r := ⟨a1, b1, M, c, tm, 0, 0⟩) (rest := (endL rows)) (n := n1) F1 N1 (by omega) (.tail (Nat.ne_of_gt la1.2.1) (.tail (Nat.ne_of_gt lb1.1) (.head (Apart.offS hA1)))) ?_
      intro h2 F2 N2
      k_steps
      refine hret _ ((S, listOf (items (⟨a1, b1, M, c, tm, 0, 0⟩ :: (endL rows))) (n1 + 1)) :: (Led (⟨a1, b1, M, c, tm, 0, 0⟩ :: (endL rows)) ++ news1)) _ _ ⟨rfl, over_not (by omega) hnq, ⟨a1, b1, M, c, tm, 0, 0⟩, n1 + 1, news1, rfl, rfl, rfl, .inr ⟨hM, hR1⟩, Apart.push hA1 lb1.2 la1.2.2 lb1.1 la1.1, hs1⟩ (by k_asm) ?_
      rename News _ _ _ _ => N9
      intro q hq
      refine N9 q ?_
      simp only [Led, List.mem_cons, List.cons_append] at hq ⊢
      rcases hq with q | q | q | q <;> simp [q]
  | false =>
    have hb : begun c rows = rows := if_neg (by rw [hL]; exact Bool.false_ne_true)
    rw [hb] at hret hrz
    have hin := mark_not hM hL
    by_cases hQ : c = 81
    · subst hQ
      have hq : (M == Str.ofString "Q") = true := by
        rcases hM with h | h | h | h | h | h
        all_goals first | (rw [h.1]; decide +kernel) | exact absurd h.2 (by decide)
      k_steps
      · unfold Stop
        k_dflt (refine raise_it (by rfl) ?_)
        k_steps
        unfold Stop
        rename News _ _ _ _ => N7
        refine' CallOk.use (new_die w mean mg mb _ _ _ _ _) ?B ?F ?X ?N ?T ?hk ?hdp ?hun ?_
        case N => exact N7
        walk_at "my use0"
        intro v' led' h8 tk8 R8 F8 N8
        obtain ⟨e, oe, t, rfl, rfl, hc8, hd8, hl8⟩ := R8
        rename Frag.In _ _ => X8
        have he8 := (N8 (e, oe) (.head _)).1
        obtain ⟨oc8, od8, oda8, osl8⟩ := oe
        dsimp only at hc8 hd8
        subst hc8 hd8
        refine ⟨e, t, od8, osl8, rfl, isDie_of w (X8.keeps F8.keep), he8, ?_⟩
        k_unfold
        dsimp only
        refine leave_die (by assumption) F8 N8 hl8 rfl rfl ?_
        intro h9 R9 U9
        exact hrz e t _ _ _ _ _ ⟨over_big (by omega), fun q hq => .tail _ (List.mem_append_right _ hq)⟩ (by assumption) U9 R9
      · unfold Stop
        rename Fr _ _ _ _ => F1
        rename News _ _ _ _ => N1
        k_dflt (refine LCt.ListComp_T (F₀ := F1) (by with_unfolding_all rfl) (by decide) (by rfl) (by decide) (by rfl) ?_)
        k_steps
        refine LCt.CompSrcT.ledger (by rfl) F1 N1 List.mem_cons_self (by rw [items_size, PySem.sizeLine_eq]; omega) ?_
        intro g
        clear hq
        refine restT (fun i => refs ((rows.reverse.take i).filter fun r => r.c == 81)) (fun _ => _) rfl ?_ ?_
        · intro k i hi ih
          refine LCt.CompRestT.succ ?_
          intro v I oI C oC D m₂ h2 tk2 E2 hv hC hx F2 N2 off ne
          obtain ⟨r, hr, rfl⟩ := items_get hv
          have hrm : r ∈ rows := List.mem_reverse.mp (List.mem_of_getElem? hr)
          have hmem : rowA r ∈ Led rows ++ news := List.mem_append_left _ (led_memA hrm)
          have hrk := row_q (rowsOk_mem hR r hrm)
          rw [List.take_add_one, hr] at ih
          clear F1 N1
          obtain ⟨ra, rb, rh, rc, rt, rn1, rn2⟩ := r
          dsimp only at hrk
          cases hrc : (rc == 81) with
          | true =>
            rw [hrc] at hrk
            rw [refs_yes hrc] at ih
            k_steps
            exact LCg.CompEnd.intro (by k_asm) (by k_asm) ((S, listOf (items rows) n) :: (Led rows ++ news)) (fun p hp => hp) off (.inr ⟨_, List.mem_cons_self, rfl, _, rfl⟩) ih
          | false =>
            rw [hrc] at hrk
            rw [refs_no hrc] at ih
            k_steps
            exact LCg.CompEnd.intro (by k_asm) (by k_asm) ((S, listOf (items rows) n) :: (Led rows ++ news)) (fun p hp => hp) off (.inr ⟨_, List.mem_cons_self, rfl, _, rfl⟩) ih
        unfold LCg.FinE
        intro D h3 tk3 F3 N3 o1
        clear F1 N1
        rw [qs_len] at N3
        have hyl := qs_le rows
        have hc9 := qs_cnt rows
        k_steps
        · unfold Stop
          k_dflt (refine raise_it (by rfl) ?_)
          k_steps
          unfold Stop
          rename News _ _ _ _ => N7
          refine' CallOk.use (new_die w mean mg mb _ _ _ _ _) ?B ?F ?X ?N ?T ?hk ?hdp ?hun ?_
          case N => exact N7
          walk_at "my use0"
          intro v' led' h8 tk8 R8 F8 N8
          obtain ⟨e, oe, t, rfl, rfl, hc8, hd8, hl8⟩ := R8
          rename Frag.In _ _ => X8
          have he8 := (N8 (e, oe) (.head _)).1
          obtain ⟨oc8, od8, oda8, osl8⟩ := oe
          dsimp only at hc8 hd8
          subst hc8 hd8
          refine ⟨e, t, od8, osl8, rfl, isDie_of w (X8.keeps F8.keep), he8, ?_⟩
          k_unfold
          dsimp only
          refine leave_die (by assumption) F8 N8 hl8 rfl rfl ?_
          intro h9 R9 U9
          exact hrz e t _ _ _ _ _ ⟨over_qs (by omega), fun q hq => .tail _ (.tail _ (List.mem_append_right _ hq))⟩ (by assumption) U9 R9
        · unfold Stop
          rename_i b1 hb1 lb1 a1 h1 F1 N1 la1
          refine stk_push (r := ⟨a1, b1, M, 81, tm, 0, 0⟩) (rest := rows) (n := n) F1 N1 (by omega) (.tail (Nat.ne_of_gt la1.2.2.1) (.tail (Nat.ne_of_gt lb1.2.1) (.tail ?_ (.head (Apart.offS hA))))) ?_
          · exact Ne.symm o1.1
          intro h2 F2 N2
          k_steps
          refine hret _ ((S, listOf (items (⟨a1, b1, M, 81, tm, 0, 0⟩ :: rows)) (n + 1)) :: (Led (⟨a1, b1, M, 81, tm, 0, 0⟩ :: rows) ++ news)) _ _ ⟨rfl, over_not (by omega) (fun _ => by omega), ⟨a1, b1, M, 81, tm, 0, 0⟩, n + 1, news, rfl, rfl, rfl, .inr ⟨hM, hR⟩, Apart.push hA lb1.2.2 la1.2.2.2 lb1.2.1 la1.1, fun q hq => hq⟩ (by k_asm) ?_
          rename News _ _ _ _ => N9
          intro q hq
          refine N9 q ?_
          simp only [Led, List.mem_cons, List.cons_append] at hq ⊢
          rcases hq with q | q | q | q <;> simp [q]
    · have hq := mark_q hM hQ
      k_steps
      · unfold Stop
        k_dflt (refine raise_it (by rfl) ?_)
        k_steps
        unfold Stop
        rename News _ _ _ _ => N7
        refine' CallOk.use (new_die w mean mg mb _ _ _ _ _) ?B ?F ?X ?N ?T ?hk ?hdp ?hun ?_
        case N => exact N7
        walk_at "my use0"
        intro v' led' h8 tk8 R8 F8 N8
        obtain ⟨e, oe, t, rfl, rfl, hc8, hd8, hl8⟩ := R8
        rename Frag.In _ _ => X8
        have he8 := (N8 (e, oe) (.head _)).1
        obtain ⟨oc8, od8, oda8, osl8⟩ := oe
        dsimp only at hc8 hd8
        subst hc8 hd8
        refine ⟨e, t, od8, osl8, rfl, isDie_of w (X8.keeps F8.keep), he8, ?_⟩
        k_unfold
        dsimp only
        refine leave_die (by assumption) F8 N8 hl8 rfl rfl ?_
        intro h9 R9 U9
        exact hrz e t _ _ _ _ _ ⟨over_big (by omega), fun q hq => .tail _ (List.mem_append_right _ hq)⟩ (by assumption) U9 R9
      · unfold Stop
        rename_i b1 hb1 lb1 a1 h1 F1 N1 la1
        refine stk_push (r := ⟨a1, b1, M, c, tm, 0, 0⟩) (rest := rows) (n := n) F1 N1 (by omega) (.tail (Nat.ne_of_gt la1.2.1) (.tail (Nat.ne_of_gt lb1.1) (.head (Apart.offS hA)))) ?_
        intro h2 F2 N2
        k_steps
        refine hret _ ((S, listOf (items (⟨a1, b1, M, c, tm, 0, 0⟩ :: rows)) (n + 1)) :: (Led (⟨a1, b1, M, c, tm, 0, 0⟩ :: rows) ++ news)) _ _ ⟨rfl, over_not (by omega) (fun e => absurd e hQ), ⟨a1, b1, M, c, tm, 0, 0⟩, n + 1, news, rfl, rfl, rfl, .inr ⟨hM, hR⟩, Apart.push hA lb1.2 la1.2.2 lb1.1 la1.1, fun q hq => hq⟩ (by k_asm) ?_
        rename News _ _ _ _ => N9
        intro q hq
        refine N9 q ?_
        simp only [Led, List.mem_cons, List.cons_append] at hq ⊢
        rcases hq with q | q | q | q <;> simp [q]
end
end
theorem reset_P9 {prog : Program} {w : World} {A : Around} {env : Env} {Q : Flow → Shared → Prop} {E : Value → Shared → Prop} {s : Shared} (h : Q .next s) : wpAny (model prog w) A (execs [] env) Q E s := by
  walk1
  exact h
section
section
variable (w : World) (mean : ExcName → Option Value) (mg mb : Str → Option Value)
local macro_rules | `(tactic| walk_at "compareOp Eq str str") => `(tactic| (k_here; k_dflt (refine' eq_b (b := false) ?e ?_; (case e => assumption))))
local macro_rules | `(tactic| walk_at "subscriptTail") => `(tactic| (k_here; (with_reducible show wpAny _ _ (subscriptTail _ _ (Value.str _ _) (Value.int _ _)) _ _ _); k_dflt (refine' slr_item ?hr ?h1 ?h2 ?e ?_ ?hs ?ht; (case hr => (simp only [fitsSsize, Bool.and_eq_true, decide_eq_true_eq]; omega)); (case h1 => omega); (case h2 => omega); (case e => assumption); (case hs => with_unfolding_all rfl); (case ht => (intro _; with_unfolding_all rfl))); intro t' k'))
local macro_rules | `(tactic| walk_at "my slice") => `(tactic| assumption)
local macro_rules | `(tactic| walk_at "my tlen") => `(tactic| (rw [PySem.sizeLine_eq]; omega))
local macro_rules | `(tactic| walk_at "call ref") => `(tactic| (k_here; (with_reducible show wpAny _ _ (call (Value.ref 233) _) _ _ _); refine stop ?_))
theorem take_case_spec (S n : Nat) (rows : List Row) (news : List (Addr × Obj)) (c : Nat) (M X P : Str) (at_ : Int) (tX tA : Tok) (hM : MarkStr M c) (hR : RowsOk rows) (hA : Apart S rows news) (hz : rows.length ≤ 60)
    (hi : Txt.item X (at_ + 1) = M) (hP : Txt.slice X (some at_) (some (at_ + 4)) = P) (p1 : (P == Str.ofString "\\L\\u") = false) (p2 : (P == Str.ofString "\\U\\l") = false) (a0 : 0 ≤ at_) (a1 : at_ + 1 < X.length) (hX : X.length ≤ 1000) :
    CallR w mean mg mb 240 44 640 [.ref S, .str X tX, .int at_ tA] ((S, listOf (items rows) n) :: (Led rows ++ news))
      (fun v led' => (∃ t, v = .int (at_ + 2) t) ∧ over c (begun c rows) = false ∧ ∃ r' n' news', led' = (S, listOf (items (r' :: begun c rows)) n') :: (Led (r' :: begun c rows) ++ news') ∧ r'.h = M ∧ r'.c = c ∧ RowsOk (r' :: begun c rows) ∧ Apart S (r' :: begun c rows) news' ∧ ∀ q ∈ news, q ∈ news')
      (fun news' => over c (begun c rows) = true ∧ ∀ q ∈ news, q ∈ news') := by
  intro dp un gd cn cs a ccd cl outer A₀ base h₀ L m s Q E B F X0 N T hk hdp hun hret hrz
  have hE : (M == Str.ofString "E") = false := by rcases hM with h | h | h | h | h | h <;> (obtain ⟨e1, e2⟩ := h; subst e1; decide +kernel)
  subst hi
  refine wpAny_call ?_
  k_dflt cell_enter
  k_steps
  unfold Stop
  refine' CallR.use (begin_spec w mean mg mb S n rows news c _ _ hM hR hA hz) ?B ?F ?X ?N ?T ?hk ?hdp ?hun ?_ ?_
  case N => k_asm
  walk_at "my use0"
  · intro v' led' h8 tk8 R8 F8 N8
    obtain ⟨rfl, ho, r', n', news', rfl, hh, hc, hR1, hA1, hs1⟩ := R8
    k_steps
    exact hret _ _ _ _ ⟨⟨_, rfl⟩, ho, r', n', news', rfl, hh, hc, hR1, hA1, hs1⟩ (by k_asm) (by k_asm)
  · intro e t vs news' g h9 tk9 Rz Fg U R
    k_unfold
    dsimp only
    refine leave_onK (by assumption) Fg R U ?_
    intro h10 R10 U10
    exact hrz e t _ _ _ _ _ Rz (by assumption) U10 R10
end
end
theorem reset_P10 {prog : Program} {w : World} {A : Around} {env : Env} {Q : Flow → Shared → Prop} {E : Value → Shared → Prop} {s : Shared} (h : Q .next s) : wpAny (model prog w) A (execs [] env) Q E s := by
  walk1
  exact h
section
/-- the text ends at a with $x -/
structure DX (X : Str) (a : Int) : Prop where
  lo : 0 ≤ a
  len : (X.length : Int) = a + 2
  big : X.length ≤ 1000
  i0 : ∀ i : Int, i = a → Txt.item X i = Str.ofString "$"
  i1 : ∀ i : Int, i = a + 1 → Txt.item X i = Str.ofString "x"
  s12 : ∀ i j : Int, i = a + 1 → j = a + 2 → Txt.slice X (some i) (some j) = Str.ofString "x"
  s13 : ∀ i j : Int, i = a + 1 → j = a + 3 → Txt.slice X (some i) (some j) = Str.ofString "x"
  s02 : ∀ i j : Int, i = a → j = a + 2 → Txt.slice X (some i) (some j) = Str.ofString "$x"
  s2 : ∀ i j : Int, i = a + 2 → a + 1 ≤ j → Txt.slice X (some i) (some j) = Str.ofString ""
theorem DX.any {X : Str} {a i j : Int} (h : DX X a) (hi : i = a + 1) (hj : j = a + 2) : Txt.slice X (some i) (some j) = Str.ofString "x" := h.s12 i j hi hj
section
variable (w : World) (mean : ExcName → Option Value) (mg mb : Str → Option Value)
local macro_rules | `(tactic| walk_at "compareOp Eq str str") => `(tactic| (k_here; k_dflt (first | (refine' eq_b (b := false) ?e ?_; (case e => first | assumption | ((try dsimp only); decide +kernel))) | (refine' eq_b (b := true) ?e ?_; (case e => first | assumption | ((try dsimp only); decide +kernel))))))
local macro_rules | `(tactic| walk_at "subscriptTail Name BinOp str int") => `(tactic| (k_here; (with_reducible show wpAny _ _ (subscriptTail _ _ (Value.str _ _) (Value.int _ _)) _ _ _); k_dflt (refine' slr_item ?hr ?h1 ?h2 ?e ?_ ?hs ?ht; (case e => walk_at "my item"); (case hr => exact fitsSsize_of (N := 9223372036854775808) (by omega) (by omega) (Int.le_refl _)); (case h1 => omega); (case h2 => omega); (case hs => with_unfolding_all rfl); (case ht => (intro _; with_unfolding_all rfl))); intro t' k'))
local macro_rules | `(tactic| walk_at "subscriptTail Name Name str int") => `(tactic| walk_at "subscriptTail Name BinOp str int")
local macro_rules | `(tactic| walk_at "my tlen") => `(tactic| (rw [PySem.sizeLine_eq]; omega))
section
local macro_rules | `(tactic| walk_at "my item") => `(tactic| assumption)
local macro_rules | `(tactic| walk_at "call ref") => `(tactic| (k_here; (with_reducible show wpAny _ _ (call (Value.ref 209) _) _ _ _); refine stop ?_))
set_option maxHeartbeats 6000000 in
theorem take_text (S n : Nat) (rows : List Row) (news : List (Addr × Obj)) (c : Nat) (X : Str) (a : Int) (b : Bool) (tX tA tB : Tok) (hR : RowsOk rows) (hA : Apart S rows news) (hz : rows.length ≤ 60)
    (hi : Txt.item X a = ⟨#[c]⟩) (hc : Sign4 c) (q1 : ((⟨#[c]⟩ : Str) == Str.ofString "\\") = false) (q2 : ((⟨#[c]⟩ : Str) == Str.ofString "$") = false) (q3 : ((⟨#[c]⟩ : Str) == Str.ofString "@") = false) (a0 : 0 ≤ a) (a1 : a < X.length) (hX : X.length ≤ 1000) :
    CallOk w mean mg mb 247 270 2200 [.ref S, .str X tX, .int a tA, .bool b] ((S, listOf (items rows) n) :: (Led rows ++ news))
      (fun v led' => (∃ t, v = .int (a + 1) t) ∧ Laid S rows [c] news .none led') := by
  intro dp un gd cn cs a' ccd cl outer A₀ base h₀ L m s Q E B F X0 N T hk hdp hun hret
  refine wpAny_call ?_
  k_dflt cell_enter
  k_steps
  unfold Stop
  rename_i D h1 F1 N1 l1
  obtain ⟨t3, t4, N1⟩ : ∃ t3 t4, News _ _ h1 ((D, tupOf [.str (Str.ofString "text") t3, .str ⟨[c].toArray⟩ t4]) :: (S, listOf (items rows) n) :: (Led rows ++ news)) := ⟨_, _, N1⟩
  have hA2 : Apart S rows ((D, tupOf [.str (Str.ofString "text") t3, .str ⟨[c].toArray⟩ t4]) :: news) :=
    hA.more fun b hb => by
      rcases List.mem_cons.mp hb with rfl | hb
      · exact Nat.ne_of_gt l1.1
      · exact Nat.ne_of_gt (addrs_lt l1.2 b hb)
  refine' CallOk.use (add_text w mean mg mb rows S n D [c] t3 t4 _ hR hA2 hz List.mem_cons_self (by simpa using hc) (by simp)) ?B ?F ?X ?N ?T ?hk ?hdp ?hun ?_
  case N =>
    intro q hq
    refine N1 q ?_
    simp only [List.mem_cons, List.mem_append] at hq ⊢
    rcases hq with h | h | h | h <;> simp [h]
  walk_at "my use0"
  intro v' led' h2 tk2 R' F2 N2
  obtain ⟨rfl, r', rest', y, n', k', p', t1', t2', news', e1, rfl, hp', hA', hs'⟩ := R'
  k_steps
  exact hret _ _ _ _ ⟨⟨_, rfl⟩, rfl, r', rest', y, n', k', p', t1', t2', news', e1, rfl, hp', hA', fun q hq => hs' q (.tail _ hq)⟩ (by k_asm) (by k_asm)
end
end
end
theorem reset_P12 {prog : Program} {w : World} {A : Around} {env : Env} {Q : Flow → Shared → Prop} {E : Value → Shared → Prop} {s : Shared} (h : Q .next s) : wpAny (model prog w) A (execs [] env) Q E s := by
  walk1
  exact h
section
noncomputable def rawL : List Nat → List Nat → List Nat
  | [], sg => sg
  | c :: ms, sg => 92 :: c :: rawL ms sg
theorem rawL_app (pre post sg : List Nat) : rawL (pre ++ post) sg = rawL pre [] ++ rawL post sg := by
  induction pre with
  | nil => rfl
  | cons c r ih => simp only [List.cons_append, rawL, ih]
theorem rawL_len (ms sg : List Nat) : (rawL ms sg).length = 2 * ms.length + sg.length := by
  induction ms with
  | nil => simp [rawL]
  | cons c r ih => simp only [rawL, List.length_cons, ih]; omega
theorem tk_dr (a b : List Nat) (k : Nat) : ((a ++ b).take (a.length + k)).drop a.length = b.take k := by
  rw [List.take_append, List.drop_append]
  simp
theorem tk_drj (a b : List Nat) (j k : Nat) (hj : j ≤ k) : ((a ++ b).take (a.length + k)).drop (a.length + j) = (b.take k).drop j := by
  rw [List.take_append, List.drop_append]
  simp
theorem get_app (a b : List Nat) (j : Nat) : (a ++ b)[a.length + j]? = b[j]? := by
  rw [List.getElem?_append_right (by omega)]
  congr 1
  omega
noncomputable def six (c : Nat) : Prop := c = 85 ∨ c = 81 ∨ c = 76 ∨ c = 70 ∨ c = 117 ∨ c = 108
noncomputable def goodC : List Nat → Prop
  | [] => True
  | c :: post => six c ∧ ¬ (c = 76 ∧ post.head? = some 117) ∧ ¬ (c = 85 ∧ post.head? = some 108) ∧ goodC post
noncomputable def endC : List Nat → List Nat
  | [] => []
  | c :: r => if (c :: r).any isLet = true then endC r else c :: r
noncomputable def begC (c : Nat) (l : List Nat) : List Nat := if isLet c = true then endC l else l
noncomputable def overC (c : Nat) (l : List Nat) : Bool := decide (40 < l.length) || (c == 81 && decide (8 ≤ l.countP (· == 81)))
noncomputable def runC : List Nat → List Nat → Option (List Nat)
  | [], l => some l
  | c :: ms, l => if overC c (begC c l) = true then none else runC ms (c :: begC c l)
noncomputable def codes (rows : List Row) : List Nat := rows.map (·.c)
theorem endL_codes (rows : List Row) : codes (endL rows) = endC (codes rows) := by
  unfold codes
  induction rows with
  | nil => rfl
  | cons r rest ih =>
    have e : (r :: rest).any (fun r => isLet r.c) = ((r :: rest).map (·.c)).any isLet := by
      rw [List.any_map]; rfl
    unfold endL
    rw [e]
    simp only [List.map_cons]
    unfold endC
    split
    · exact ih
    · rfl
theorem begun_codes (c : Nat) (rows : List Row) : codes (begun c rows) = begC c (codes rows) := by
  unfold begun begC
  split
  · exact endL_codes rows
  · rfl
theorem over_codes (c : Nat) (rows : List Row) : over c rows = overC c (codes rows) := by
  unfold over overC codes cntQ
  rw [List.countP_map, List.length_map]
  rfl
theorem endC_cnt : ∀ l : List Nat, (endC l).countP (· == 81) ≤ l.countP (· == 81)
  | [] => Nat.le_refl _
  | c :: r => by
    unfold endC
    split
    · exact Nat.le_trans (endC_cnt r) (by rw [List.countP_cons]; omega)
    · exact Nat.le_refl _
theorem endC_len : ∀ l : List Nat, (endC l).length ≤ l.length
  | [] => Nat.le_refl _
  | c :: r => by
    unfold endC
    split
    · exact Nat.le_succ_of_le (endC_len r)
    · exact Nat.le_refl _
theorem over_no {c : Nat} {l : List Nat} (h : overC c (begC c l) = false) (h2 : l.countP (· == 81) ≤ 8) : (begC c l).length ≤ 40 ∧ (c :: begC c l).countP (· == 81) ≤ 8 := by
  have hb : (begC c l).countP (· == 81) ≤ l.countP (· == 81) := by
    unfold begC
    split
    · exact endC_cnt l
    · exact Nat.le_refl _
  unfold overC at h
  simp only [Bool.or_eq_false_iff, decide_eq_false_iff_not, Bool.and_eq_false_iff, Nat.not_lt, Nat.not_le, beq_eq_false_iff_ne] at h
  refine ⟨h.1, ?_⟩
  rw [List.countP_cons]
  rcases h.2 with q | q
  · have : (c == 81) = false := by simpa using q
    rw [this]
    simp
    omega
  · split <;> omega
/-- all casings closed on a text -/
noncomputable def foldC : List Nat → List Nat → List Nat
  | [], y => y
  | c :: r, y => if c = 0 then y else foldC r (casedL c y)
theorem addT_fold : ∀ (rows : List Row) (x : List Nat), foldC (codes (addT rows x).1) (addT rows x).2 = foldC (codes rows) x
  | [], _ => rfl
  | r :: rest, x => by
    unfold addT
    split
    · rename_i h
      rw [addT_fold rest]
      have : r.c ≠ 0 := fun e => by simp [short, e] at h
      conv => rhs; unfold codes foldC
      simp only [List.map_cons]
      rw [if_neg this]
      rfl
    · rfl
theorem addT_len : ∀ (rows : List Row) (x : List Nat), (addT rows x).2.length = x.length
  | [], _ => rfl
  | r :: rest, x => by
    unfold addT
    split
    · rename_i h
      rw [addT_len rest, casedL_short h]
    · rfl
theorem addT_cnt : ∀ (rows : List Row) (x : List Nat), (codes (addT rows x).1).countP (· == 81) ≤ (codes rows).countP (· == 81)
  | [], _ => Nat.le_refl _
  | r :: rest, x => by
    unfold addT
    split
    · refine Nat.le_trans (addT_cnt rest _) ?_
      unfold codes
      rw [List.map_cons, List.countP_cons]
      omega
    · exact Nat.le_refl _
theorem addT_sign : ∀ (rows : List Row) (x : List Nat), (∀ c ∈ x, Sign4 c) → ∀ c ∈ (addT rows x).2, Sign4 c
  | [], _ => fun h => h
  | r :: rest, x => fun h => by
    unfold addT
    split
    · exact addT_sign rest _ (casedL_sign4 _ h)
    · exact h
theorem addT_rows : ∀ (rows : List Row) (x : List Nat), RowsOk rows → RowsOk (addT rows x).1
  | [], _ => fun h => h
  | r :: rest, x => fun h => by
    unfold addT
    split
    · rename_i hs
      rcases h with ⟨h1, h2, h3⟩ | ⟨h1, h2⟩
      · simp [short, h3] at hs
      · exact addT_rows rest _ h2
    · exact h
theorem addT_rlen : ∀ (rows : List Row) (x : List Nat), (addT rows x).1.length ≤ rows.length
  | [], _ => Nat.le_refl _
  | r :: rest, x => by
    unfold addT
    split
    · exact Nat.le_succ_of_le (addT_rlen rest _)
    · exact Nat.le_refl _
theorem casedL_lenQ (c : Nat) (x : List Nat) : (casedL c x).length ≤ if c = 81 then 2 * x.length else x.length := by
  have e : x.length ≤ if c = 81 then 2 * x.length else x.length := by split <;> omega
  unfold casedL
  split
  · refine Nat.le_trans ?_ e
    rw [List.length_append, many_len1 85 (by decide)]
    simp; omega
  · split
    · refine Nat.le_trans ?_ e
      rw [List.length_append, many_len1 76 (by decide)]
      simp; omega
    · split
      · rename_i h
        clear e
        subst h
        unfold many
        induction x with
        | nil => simp
        | cons d r ih =>
          rw [List.flatMap_cons, List.length_append, List.length_cons]
          have : (one 81 d).length ≤ 2 := by
            unfold one
            repeat' split
            all_goals simp
          omega
      · rename_i h
        rw [many_len1 _ h]
        exact Nat.le_refl _
theorem pow_room {a b k : Nat} (h : a * 2 ^ k ≤ 256) (hb : b ≤ a) : b * 2 ^ k ≤ 256 := Nat.le_trans (Nat.mul_le_mul_right _ hb) h
/-- one casing closed: the room is kept -/
theorem close_room {c : Nat} {l x : List Nat} (h : x.length * 2 ^ ((c :: l).countP (· == 81)) ≤ 256) : (casedL c x).length * 2 ^ (l.countP (· == 81)) ≤ 256 := by
  have h1 := casedL_lenQ c x
  rw [List.countP_cons] at h
  by_cases hc : c = 81
  · rw [if_pos hc] at h1
    subst hc
    simp only [BEq.rfl, if_true, Nat.pow_succ] at h
    have := Nat.mul_le_mul_right (2 ^ (l.countP (· == 81))) h1
    have e : 2 * x.length * 2 ^ (l.countP (· == 81)) = x.length * (2 ^ (l.countP (· == 81)) * 2) := by
      rw [Nat.mul_comm 2, Nat.mul_assoc, Nat.mul_comm 2]
    omega
  · rw [if_neg hc] at h1
    rw [if_neg (by simpa using hc)] at h
    exact pow_room h h1
theorem room_len {x : List Nat} {k : Nat} (h : x.length * 2 ^ k ≤ 256) : x.length ≤ 256 :=
  Nat.le_trans (Nat.le_mul_of_pos_right _ (Nat.two_pow_pos k)) h
/-- a nested part in the ledger: casings from the outermost in -/
noncomputable def Part (led : List (Addr × Obj)) : List Str → Str → Str → Nat → Prop
  | [], k, x, p => ∃ t1 t2, (p, tupOf [.str k t1, .str x t2]) ∈ led
  | M :: Ms, k, x, p => ∃ t1 t2 b n p', (p, tupOf [.str (Str.ofString "case") t1, .str M t2, .ref b]) ∈ led ∧ (b, listOf #[.ref p'] n) ∈ led ∧ Part led Ms k x p'
theorem Part.mono {led led' : List (Addr × Obj)} (h : ∀ q ∈ led, q ∈ led') : ∀ {Ms : List Str} {k x : Str} {p : Nat}, Part led Ms k x p → Part led' Ms k x p
  | [], _, _, _, ⟨t1, t2, q⟩ => ⟨t1, t2, h _ q⟩
  | _ :: _, _, _, _, ⟨t1, t2, b, n, p', q1, q2, q3⟩ => ⟨t1, t2, b, n, p', h _ q1, h _ q2, q3.mono h⟩
/-- the casings of the rows, the bottom left out, from the outermost in -/
noncomputable def marksOf : List Row → List Str → List Str
  | [], acc => acc
  | r :: rest, acc => if rest.isEmpty = true then acc else marksOf rest (r.h :: acc)
end
theorem reset_P13 {prog : Program} {w : World} {A : Around} {env : Env} {Q : Flow → Shared → Prop} {E : Value → Shared → Prop} {s : Shared} (h : Q .next s) : wpAny (model prog w) A (execs [] env) Q E s := by
  walk1
  exact h
section
theorem items_one (r : Row) : items [r] = #[.ref r.a] := by
  unfold items
  simp
theorem mark_one {M : Str} {c : Nat} (h : MarkStr M c) : M = ⟨#[c]⟩ := by
  rcases h with h | h | h | h | h | h <;> (obtain ⟨e1, e2⟩ := h; subst e1 e2; decide +kernel)
theorem mark_six {c : Nat} (h : six c) : MarkStr ⟨#[c]⟩ c := by
  rcases h with h | h | h | h | h | h <;> (subst h; unfold MarkStr; decide +kernel)
/-- what lies in the innermost casing when the sign is laid -/
noncomputable def Cont (sg Y : List Nat) (MM : List Str) (rows : List Row) (p : Nat) (news : List (Addr × Obj)) : Prop :=
  (sg ≠ [36, 120] ∧ ∃ y t1 t2, (p, tupOf [.str (Str.ofString "text") t1, .str ⟨y.toArray⟩ t2]) ∈ news ∧ (∀ c ∈ y, Sign4 c) ∧ y.length * 2 ^ ((codes rows).countP (· == 81)) ≤ 256 ∧ foldC (codes rows) y = Y) ∨
  (sg = [36, 120] ∧ ∃ Ms, Part news Ms (Str.ofString "expr") (Str.ofString "$x") p ∧ marksOf rows Ms = MM)
noncomputable def Open1 (S : Nat) (ms : List Nat) (news : List (Addr × Obj)) (led : List (Addr × Obj)) (pre post : List Nat) : Prop :=
  ∃ rows n news', ms = pre ++ post ∧ led = (S, listOf (items rows) n) :: (Led rows ++ news') ∧ RowsOk rows ∧ Apart S rows news' ∧ runC post (codes rows) = runC ms [0] ∧ rows.length ≤ 41 ∧ (codes rows).countP (· == 81) ≤ 8 ∧ ∀ q ∈ news, q ∈ news'
noncomputable def Done1 (S : Nat) (ms sg : List Nat) (news : List (Addr × Obj)) (led : List (Addr × Obj)) : Prop :=
  ∃ rows0, RowsOk rows0 ∧ runC ms [0] = some (codes rows0) ∧ rows0.length ≤ 41 ∧ ∃ r' rest' n' k' p' news', led = (S, listOf (items (r' :: rest')) n') :: rowA r' :: (r'.b, listOf #[.ref p'] k') :: (Led rest' ++ news') ∧ Apart S (r' :: rest') news' ∧ RowsOk (r' :: rest') ∧ (r' :: rest').length ≤ 41 ∧
    Cont sg (foldC (codes rows0) sg) (marksOf rows0 []) (r' :: rest') p' news' ∧ ∀ q ∈ news, q ∈ news'
noncomputable def Mp (m₀ m : Str → Option Value) (a : Int) : Prop := ∃ u t, m = fun z => if z = Str.ofString "follower" then u else if z = Str.ofString "at" then some (.int a t) else m₀ z
theorem Mp.refl {m₀ : Str → Option Value} {a : Int} {t : Tok} (h : m₀ (Str.ofString "at") = some (.int a t)) : Mp m₀ m₀ a := by
  refine ⟨m₀ (Str.ofString "follower"), t, ?_⟩
  funext z
  by_cases h1 : z = Str.ofString "follower"
  · simp [h1]
  · rw [if_neg h1]
    by_cases h2 : z = Str.ofString "at"
    · subst h2; simp [h]
    · rw [if_neg h2]
theorem Mp.step {m₀ m m' : Str → Option Value} {a a' : Int} {t : Tok} (h : Mp m₀ m a) (h1 : m' (Str.ofString "at") = some (.int a' t)) (h2 : ∀ z, z ≠ Str.ofString "follower" → z ≠ Str.ofString "at" → m' z = m z) : Mp m₀ m' a' := by
  obtain ⟨u, t2, rfl⟩ := h
  refine ⟨m' (Str.ofString "follower"), t, ?_⟩
  funext z
  by_cases q1 : z = Str.ofString "follower"
  · simp [q1]
  · rw [if_neg q1]
    by_cases q2 : z = Str.ofString "at"
    · subst q2; simp [h1]
    · rw [if_neg q2, h2 z q1 q2]
      simp [q1, q2]
/-- a mark stands at a -/
structure MX (X : Str) (a : Int) (M : Str) : Prop where
  lo : 0 ≤ a
  lt : a + 2 < X.length
  big : X.length ≤ 1000
  i0 : ∀ i : Int, i = a → Txt.item X i = Str.ofString "\\"
  i1 : Txt.item X (a + 1) = M
  s12 : ∀ i j : Int, i = a + 1 → j = a + 2 → Txt.slice X (some i) (some j) = M
  p1 : (Txt.slice X (some a) (some (a + 4)) == Str.ofString "\\L\\u") = false
  p2 : (Txt.slice X (some a) (some (a + 4)) == Str.ofString "\\U\\l") = false
/-- the text ends at a with one sign -/
structure TX (X : Str) (a : Int) (c : Nat) : Prop where
  lo : 0 ≤ a
  len : (X.length : Int) = a + 1
  big : X.length ≤ 1000
  i0 : ∀ i : Int, i = a → Txt.item X i = ⟨#[c]⟩
  s12 : ∀ i j : Int, i = a + 1 → j = a + 2 → Txt.slice X (some i) (some j) = Str.ofString ""
theorem xlen (l : List Nat) : (⟨l.toArray⟩ : Str).length = l.length := len_l l
theorem pair_no {l : List Nat} {s : Str} {d : List Nat} (hd : s = ⟨d.toArray⟩) (h : l ≠ d) : ((⟨l.toArray⟩ : Str) == s) = false := by
  subst hd
  rw [beq_eq_false_iff_ne]
  intro e
  apply h
  have : l.toArray = d.toArray := congrArg Str.cps e
  simpa using this
theorem p76 : Str.ofString "\\L\\u" = ⟨[92, 76, 92, 117].toArray⟩ := by decide +kernel
theorem p85 : Str.ofString "\\U\\l" = ⟨[92, 85, 92, 108].toArray⟩ := by decide +kernel
theorem s0 : (⟨([] : List Nat).toArray⟩ : Str) = Str.ofString "" := by decide +kernel
theorem s36a : (⟨#[36]⟩ : Str) = Str.ofString "$" := by decide +kernel
theorem good_app {pre post : List Nat} (h : goodC (pre ++ post)) : goodC post := by
  induction pre with
  | nil => exact h
  | cons c r ih => exact ih h.2.2.2
theorem mx_of {pre post sg : List Nat} {c : Nat} (hg : goodC (pre ++ c :: post)) (hl : (pre ++ c :: post).length ≤ 60) (hs : sg = [97] ∨ sg = [46] ∨ sg = [65] ∨ sg = [36, 120]) :
    MX ⟨(rawL (pre ++ c :: post) sg).toArray⟩ (2 * pre.length : Nat) ⟨#[c]⟩ := by
  have hg2 := good_app hg
  have hl2 : sg.length = 1 ∨ sg.length = 2 := by rcases hs with h | h | h | h <;> subst h <;> simp
  have el : (rawL pre []).length = 2 * pre.length := by rw [rawL_len]; rfl
  rw [rawL_app]
  simp only [List.length_append, List.length_cons] at hl
  have e4 : ((rawL pre [] ++ rawL (c :: post) sg).take (2 * pre.length + 4)).drop (2 * pre.length) = 92 :: c :: (rawL post sg).take 2 := by
    rw [← el, tk_dr]; rfl
  refine ⟨by omega, ?_, ?_, ?_, ?_, ?_, ?_, ?_⟩
  · rw [xlen, List.length_append, el, rawL_len, List.length_cons]; omega
  · rw [xlen, List.length_append, el, rawL_len, List.length_cons]; omega
  · rintro i rfl
    rw [sl_item (c := 92) _ _ ?_]
    · exact s92
    · have := get_app (rawL pre []) (rawL (c :: post) sg) 0
      rw [el] at this
      exact this
  · refine sl_item (c := c) _ (2 * pre.length + 1) ?_
    have := get_app (rawL pre []) (rawL (c :: post) sg) 1
    rw [el] at this
    exact this
  · intro i j hi hj
    have e1 : i = ((2 * pre.length + 1 : Nat) : Int) := by omega
    have e2 : j = ((2 * pre.length + 2 : Nat) : Int) := by omega
    rw [e1, e2, sl_ss, ← el, tk_drj _ _ 1 2 (by omega)]
    rfl
  · have := sl_ss (rawL pre [] ++ rawL (c :: post) sg) (2 * pre.length) (2 * pre.length + 4)
    rw [e4] at this
    refine Eq.trans (congrArg (· == _) this) ?_
    refine pair_no p76 ?_
    intro e
    injection e with _ e
    injection e with e1 e
    cases post with
    | nil => rcases hs with h | h | h | h <;> subst h <;> simp [rawL] at e
    | cons d r =>
      simp only [rawL, List.take_succ_cons, List.take_zero] at e
      injection e with _ e
      injection e with e _
      exact hg2.2.1 ⟨e1, by rw [e]; rfl⟩
  · have := sl_ss (rawL pre [] ++ rawL (c :: post) sg) (2 * pre.length) (2 * pre.length + 4)
    rw [e4] at this
    refine Eq.trans (congrArg (· == _) this) ?_
    refine pair_no p85 ?_
    intro e
    injection e with _ e
    injection e with e1 e
    cases post with
    | nil => rcases hs with h | h | h | h <;> subst h <;> simp [rawL] at e
    | cons d r =>
      simp only [rawL, List.take_succ_cons, List.take_zero] at e
      injection e with _ e
      injection e with e _
      exact hg2.2.2.1 ⟨e1, by rw [e]; rfl⟩
theorem tx_of {ms : List Nat} {c : Nat} (hl : ms.length ≤ 60) : TX ⟨(rawL ms [c]).toArray⟩ (2 * ms.length : Nat) c := by
  have el : (rawL ms []).length = 2 * ms.length := by rw [rawL_len]; rfl
  have e0 : rawL ms [c] = rawL ms [] ++ [c] := by
    have := rawL_app ms [] [c]
    rw [List.append_nil] at this
    exact this
  rw [e0]
  refine ⟨by omega, ?_, ?_, ?_, ?_⟩
  · rw [xlen, List.length_append, el]; simp
  · rw [xlen, List.length_append, el]; simp; omega
  · rintro i rfl
    refine sl_item (c := c) _ _ ?_
    have := get_app (rawL ms []) [c] 0
    rw [el] at this
    exact this
  · intro i j hi hj
    have e1 : i = ((2 * ms.length + 1 : Nat) : Int) := by omega
    have e2 : j = ((2 * ms.length + 2 : Nat) : Int) := by omega
    rw [e1, e2, sl_ss, ← el, tk_drj _ _ 1 2 (by omega)]
    exact s0
theorem dx_of {ms : List Nat} (hl : ms.length ≤ 60) : DX ⟨(rawL ms [36, 120]).toArray⟩ (2 * ms.length : Nat) := by
  have el : (rawL ms []).length = 2 * ms.length := by rw [rawL_len]; rfl
  have e0 : rawL ms [36, 120] = rawL ms [] ++ [36, 120] := by
    have := rawL_app ms [] [36, 120]
    rw [List.append_nil] at this
    exact this
  rw [e0]
  refine ⟨by omega, ?_, ?_, ?_, ?_, ?_, ?_, ?_, ?_⟩
  · rw [xlen, List.length_append, el]; simp
  · rw [xlen, List.length_append, el]; simp; omega
  · rintro i rfl
    rw [sl_item (c := 36) _ _ ?_]
    · exact s36a
    · have := get_app (rawL ms []) [36, 120] 0
      rw [el] at this
      exact this
  · rintro i rfl
    refine (sl_item (c := 120) _ (2 * ms.length + 1) ?_).trans s120
    have := get_app (rawL ms []) [36, 120] 1
    rw [el] at this
    exact this
  · intro i j hi hj
    have e1 : i = ((2 * ms.length + 1 : Nat) : Int) := by omega
    have e2 : j = ((2 * ms.length + 2 : Nat) : Int) := by omega
    rw [e1, e2, sl_ss, ← el, tk_drj _ _ 1 2 (by omega)]
    exact s120
  · intro i j hi hj
    have e1 : i = ((2 * ms.length + 1 : Nat) : Int) := by omega
    have e2 : j = ((2 * ms.length + 3 : Nat) : Int) := by omega
    rw [e1, e2, sl_ss, ← el, tk_drj _ _ 1 3 (by omega)]
    exact s120
  · intro i j hi hj
    have e1 : i = ((2 * ms.length : Nat) : Int) := by omega
    have e2 : j = ((2 * ms.length + 2 : Nat) : Int) := by omega
    rw [e1, e2, sl_ss, ← el, tk_dr]
    exact s36
  · intro i j hi hj
    obtain ⟨k, rfl⟩ : ∃ k : Nat, j = (k : Int) := ⟨j.toNat, by omega⟩
    have e1 : i = ((2 * ms.length + 2 : Nat) : Int) := by omega
    rw [e1, sl_ss, List.drop_eq_nil_of_le]
    · exact s0
    · rw [List.length_take, List.length_append, el]; simp; omega
theorem mark_facts {c : Nat} (h : six c) : (!((⟨#[c]⟩ : Str) == Str.ofString "")) = true ∧ Txt.contains (Str.ofString "ULFQulE") ⟨#[c]⟩ = true := by
  rcases h with h | h | h | h | h | h <;> (subst h; decide +kernel)
end
theorem reset_P11 {prog : Program} {w : World} {A : Around} {env : Env} {Q : Flow → Shared → Prop} {E : Value → Shared → Prop} {s : Shared} (h : Q .next s) : wpAny (model prog w) A (execs [] env) Q E s := by
  walk1
  exact h
section
section
variable (w : World) (mean : ExcName → Option Value) (mg mb : Str → Option Value)
local macro_rules | `(tactic| walk_at "compareOp Eq str str") => `(tactic| (k_here; k_dflt (first | (refine' eq_b (b := false) ?e ?_; (case e => first | assumption | ((try dsimp only); decide +kernel))) | (refine' eq_b (b := true) ?e ?_; (case e => first | assumption | ((try dsimp only); decide +kernel))))))
local macro_rules | `(tactic| walk_at "subscriptTail Name BinOp str int") => `(tactic| (k_here; (with_reducible show wpAny _ _ (subscriptTail _ _ (Value.str _ _) (Value.int _ _)) _ _ _); k_dflt (refine' slr_item ?hr ?h1 ?h2 ?e ?_ ?hs ?ht; (case e => walk_at "my item"); (case hr => exact fitsSsize_of (N := 9223372036854775808) (by omega) (by omega) (Int.le_refl _)); (case h1 => omega); (case h2 => omega); (case hs => with_unfolding_all rfl); (case ht => (intro _; with_unfolding_all rfl))); intro t' k'))
local macro_rules | `(tactic| walk_at "subscriptTail Name Name str int") => `(tactic| walk_at "subscriptTail Name BinOp str int")
local macro_rules | `(tactic| walk_at "my tlen") => `(tactic| (rw [PySem.sizeLine_eq]; omega))
section
local macro_rules | `(tactic| walk_at "my item") => `(tactic| (first | (refine' DX.i0 (by assumption) _ ?_; omega) | (refine' DX.i1 (by assumption) _ ?_; omega)))
local macro_rules | `(tactic| walk_at "my slice") => `(tactic| (first | (refine' DX.s12 (by assumption) _ _ ?_ ?_ <;> omega) | (refine' DX.s13 (by assumption) _ _ ?_ ?_ <;> omega) | (refine' DX.s02 (by assumption) _ _ ?_ ?_ <;> omega) | (refine' DX.s2 (by assumption) _ _ ?_ ?_ <;> omega)))
local macro_rules | `(tactic| walk_at "WhlIf") => `(tactic| (k_here; first | (k_dflt (refine WhlIf.yes (decide_eq_true (by omega)) ?_)) | (k_dflt (refine WhlIf.no (decide_eq_false (by omega)) ?_))))
local macro_rules | `(tactic| walk_at "exec While Compare") => `(tactic| (k_here; k_dflt (refine whl_start 100 ?_)))
local macro_rules | `(tactic| walk_at "exec While") => `(tactic| (k_here; k_dflt (refine whl_start 100 ?_)))

set_option maxHeartbeats 6000000 in
theorem name_start_x (t : Tok) (news : List (Addr × Obj)) : CallOk w mean mg mb 125 6 60 [.str (Str.ofString "x") t] news (fun v led' => v = .bool true ∧ led' = news) := by
  intro dp un gd cn cs a' ccd cl outer A₀ base h₀ L m s Q E B F X0 N T hk hdp hun hret
  refine wpAny_call ?_
  k_dflt cell_enter
  k_steps
  all_goals exact hret _ _ _ _ ⟨rfl, rfl⟩ (by k_asm) (by k_asm)
local macro_rules | `(tactic| walk_at "call ref") => `(tactic| (k_here; (with_reducible show wpAny _ _ (call (Value.ref 125) _) _ _ _); k_dflt (refine' CallOk.use (name_start_x _ _ _ _ _ _) ?B ?F ?X ?N ?T ?hk ?hdp ?hun ?_; walk_at "my use"); intro v' led' h' tk' R' F' N'; rw [R'.2] at N'; have e' := R'.1; subst e'; clear R'))
set_option maxHeartbeats 6000000 in
theorem var_end (X : Str) (a i : Int) (tX t : Tok) (news : List (Addr × Obj)) (hX : DX X a) (hi : i = a + 1) : CallOk w mean mg mb 132 12 120 [.str X tX, .int i t] news (fun v led' => (∃ t, v = .int (a + 2) t) ∧ led' = news) := by
  intro dp un gd cn cs a' ccd cl outer A₀ base h₀ L m s Q E B F X0 N T hk hdp hun hret
  have x0 := hX.lo
  have x1 := hX.len
  have x2 := hX.big
  subst hi
  refine wpAny_call ?_
  k_dflt cell_enter
  k_steps
  all_goals exact hret _ _ _ _ ⟨⟨_, by rw [show a + 2 = a + 1 + 1 by omega]⟩, rfl⟩ (by k_asm) (by k_asm)
set_option maxHeartbeats 6000000 in
theorem one_sub (X : Str) (a : Int) (b : Bool) (tX t : Tok) (news : List (Addr × Obj)) (hX : DX X a) : CallOk w mean mg mb 167 12 120 [.str X tX, .int (a + 2) t, .bool b] news (fun v led' => (∃ t, v = .int (a + 2) t) ∧ led' = news) := by
  intro dp un gd cn cs a' ccd cl outer A₀ base h₀ L m s Q E B F X0 N T hk hdp hun hret
  have x0 := hX.lo
  have x1 := hX.len
  have x2 := hX.big
  refine wpAny_call ?_
  k_dflt cell_enter
  k_steps
  all_goals exact hret _ _ _ _ ⟨⟨_, rfl⟩, rfl⟩ (by k_asm) (by k_asm)
local macro_rules | `(tactic| walk_at "call ref") => `(tactic| (k_here; (with_reducible show wpAny _ _ (call (Value.ref 167) _) _ _ _); k_dflt (refine' CallOk.use (one_sub _ _ _ _ _ _ _ _ _ _ (by assumption)) ?B ?F ?X ?N ?T ?hk ?hdp ?hun ?_; walk_at "my use"); intro v' led' h' tk' R' F' N'; rw [R'.2] at N'; have e' := R'.1; obtain ⟨t', e'⟩ := e'; subst e'; clear R'))
set_option maxHeartbeats 6000000 in
theorem all_sub (X : Str) (a i : Int) (b : Bool) (tX t : Tok) (news : List (Addr × Obj)) (hX : DX X a) (hi : i = a + 2) : CallOk w mean mg mb 174 24 240 [.str X tX, .int i t, .bool b] news (fun v led' => (∃ t, v = .int (a + 2) t) ∧ led' = news) := by
  subst hi
  intro dp un gd cn cs a' ccd cl outer A₀ base h₀ L m s Q E B F X0 N T hk hdp hun hret
  have x0 := hX.lo
  have x1 := hX.len
  have x2 := hX.big
  refine wpAny_call ?_
  k_dflt cell_enter
  cases b
  all_goals k_steps
  all_goals exact hret _ _ _ _ ⟨⟨_, rfl⟩, rfl⟩ (by k_asm) (by k_asm)
local macro_rules | `(tactic| walk_at "call ref") => `(tactic| (k_here; (with_reducible show wpAny _ _ (call (Value.ref 132) _) _ _ _); k_dflt (refine' CallOk.use (var_end _ _ _ _ _ _ _ _ _ _ (by assumption) (by omega)) ?B ?F ?X ?N ?T ?hk ?hdp ?hun ?_; walk_at "my use"); intro v' led' h' tk' R' F' N'; rw [R'.2] at N'; have e' := R'.1; obtain ⟨t', e'⟩ := e'; subst e'; clear R'))
set_option maxHeartbeats 6000000 in
theorem base_dollar (X : Str) (a i : Int) (tX t : Tok) (news : List (Addr × Obj)) (hX : DX X a) (hi : i = a + 1) : CallOk w mean mg mb 181 24 240 [.str X tX, .int i t] news (fun v led' => (∃ t, v = .int (a + 2) t) ∧ led' = news) := by
  subst hi
  intro dp un gd cn cs a' ccd cl outer A₀ base h₀ L m s Q E B F X0 N T hk hdp hun hret
  have x0 := hX.lo
  have x1 := hX.len
  have x2 := hX.big
  refine wpAny_call ?_
  k_dflt cell_enter
  k_steps
  all_goals first | exact hret _ _ _ _ ⟨⟨_, rfl⟩, rfl⟩ (by k_asm) (by k_asm) | (exfalso; simp only [beq_iff_eq, decide_eq_true_eq] at *; omega)
set_option maxHeartbeats 6000000 in
theorem no_brace (X : Str) (a i j : Int) (tX t t2 : Tok) (news : List (Addr × Obj)) (hX : DX X a) (hi : i = a + 1) (hj : j = a + 2) : CallOk w mean mg mb 188 12 120 [.str X tX, .int i t, .int j t2] news (fun v led' => v = .bool false ∧ led' = news) := by
  subst hi hj
  intro dp un gd cn cs a' ccd cl outer A₀ base h₀ L m s Q E B F X0 N T hk hdp hun hret
  have x0 := hX.lo
  have x1 := hX.len
  have x2 := hX.big
  refine wpAny_call ?_
  k_dflt cell_enter
  k_steps
  all_goals exact hret _ _ _ _ ⟨rfl, rfl⟩ (by k_asm) (by k_asm)
local macro_rules | `(tactic| walk_at "call ref") => `(tactic| (k_here; (with_reducible show wpAny _ _ (call (Value.ref 174) _) _ _ _); k_dflt (refine' CallOk.use (all_sub _ _ _ _ _ _ _ _ _ _ _ (by assumption) (by omega)) ?B ?F ?X ?N ?T ?hk ?hdp ?hun ?_; walk_at "my use"); intro v' led' h' tk' R' F' N'; rw [R'.2] at N'; have e' := R'.1; obtain ⟨t', e'⟩ := e'; subst e'; clear R'))
local macro_rules | `(tactic| walk_at "call ref") => `(tactic| (k_here; (with_reducible show wpAny _ _ (call (Value.ref 181) _) _ _ _); k_dflt (refine' CallOk.use (base_dollar _ _ _ _ _ _ _ _ _ _ (by assumption) (by omega)) ?B ?F ?X ?N ?T ?hk ?hdp ?hun ?_; walk_at "my use"); intro v' led' h' tk' R' F' N'; rw [R'.2] at N'; have e' := R'.1; obtain ⟨t', e'⟩ := e'; subst e'; clear R'))
local macro_rules | `(tactic| walk_at "call ref") => `(tactic| (k_here; (with_reducible show wpAny _ _ (call (Value.ref 188) _) _ _ _); k_dflt (refine' CallOk.use (no_brace _ _ _ _ _ _ _ _ _ _ _ _ (by assumption) (by omega) (by omega)) ?B ?F ?X ?N ?T ?hk ?hdp ?hun ?_; walk_at "my use"); intro v' led' h' tk' R' F' N'; rw [R'.2] at N'; have e' := R'.1; subst e'; clear R'))
set_option maxHeartbeats 6000000 in
theorem scalar_dollar (X : Str) (a : Int) (b : Bool) (tX t : Tok) (news : List (Addr × Obj)) (hX : DX X a) : CallOk w mean mg mb 195 36 360 [.str X tX, .int a t, .bool b] news (fun v led' => (∃ t, v = .int (a + 2) t) ∧ led' = news) := by
  intro dp un gd cn cs a' ccd cl outer A₀ base h₀ L m s Q E B F X0 N T hk hdp hun hret
  have x0 := hX.lo
  have x1 := hX.len
  have x2 := hX.big
  refine wpAny_call ?_
  k_dflt cell_enter
  cases b
  all_goals k_steps
  all_goals first | exact hret _ _ _ _ ⟨⟨_, rfl⟩, rfl⟩ (by k_asm) (by k_asm) | (exfalso; simp only [beq_iff_eq, decide_eq_true_eq] at *; omega)
local macro_rules | `(tactic| walk_at "call ref") => `(tactic| (k_here; (with_reducible show wpAny _ _ (call (Value.ref 195) _) _ _ _); k_dflt (refine' CallOk.use (scalar_dollar _ _ _ _ _ _ _ _ _ _ (by assumption)) ?B ?F ?X ?N ?T ?hk ?hdp ?hun ?_; walk_at "my use"); intro v' led' h' tk' R' F' N'; rw [R'.2] at N'; have e' := R'.1; obtain ⟨t', e'⟩ := e'; subst e'; clear R'))
local macro_rules | `(tactic| walk_at "call ref") => `(tactic| (k_here; (with_reducible show wpAny _ _ (call (Value.ref 209) _) _ _ _); refine stop ?_))
set_option maxHeartbeats 6000000 in
theorem take_dollar (S n : Nat) (r : Row) (rest : List Row) (news : List (Addr × Obj)) (X : Str) (a : Int) (b : Bool) (tX tA tB : Tok) (hA : Apart S (r :: rest) news) (hz : rest.length ≤ 60) (hX : DX X a) :
    CallOk w mean mg mb 247 60 600 [.ref S, .str X tX, .int a tA, .bool b] ((S, listOf (items (r :: rest)) n) :: (Led (r :: rest) ++ news))
      (fun v led' => (∃ t, v = .int (a + 2) t) ∧ ∃ p t1 t2, led' = (S, listOf (items (r :: rest)) n) :: rowA r :: (r.b, listOf #[.ref p] (r.n2 + 1)) :: (Led rest ++ ((p, tupOf [.str (Str.ofString "expr") t1, .str (Str.ofString "$x") t2]) :: news)) ∧
        Apart S (r :: rest) ((p, tupOf [.str (Str.ofString "expr") t1, .str (Str.ofString "$x") t2]) :: news)) := by
  intro dp un gd cn cs a' ccd cl outer A₀ base h₀ L m s Q E B F X0 N T hk hdp hun hret
  have x0 := hX.lo
  have x1 := hX.len
  have x2 := hX.big
  refine wpAny_call ?_
  k_dflt cell_enter
  k_steps
  all_goals (
    unfold Stop
    rename_i D h1 F1 N1 l1
    obtain ⟨t3, t4, N1⟩ : ∃ t3 t4, News _ _ h1 ((D, tupOf [.str (Str.ofString "expr") t3, .str (Str.ofString "$x") t4]) :: (S, listOf (items (r :: rest)) n) :: (Led (r :: rest) ++ news)) := ⟨_, _, N1⟩
    have hA2 : Apart S (r :: rest) ((D, tupOf [.str (Str.ofString "expr") t3, .str (Str.ofString "$x") t4]) :: news) :=
      hA.more fun b hb => by
        rcases List.mem_cons.mp hb with rfl | hb
        · exact Nat.ne_of_gt l1.1
        · exact Nat.ne_of_gt (addrs_lt l1.2 b hb)
    refine' CallOk.use (add_tag w mean mg mb S n D r rest _ _ hA2 hz List.mem_cons_self (.inl ⟨t3, t4, rfl⟩)) ?B ?F ?X ?N ?T ?hk ?hdp ?hun ?_
    case N =>
      intro q hq
      refine N1 q ?_
      simp only [Led, List.mem_cons, List.mem_append] at hq ⊢
      rcases hq with h | h | h | h | h | h <;> simp [h]
    walk_at "my use0"
    intro v' led' h2 tk2 R' F2 N2
    obtain ⟨rfl, rfl⟩ := R'
    k_steps
    exact hret _ _ _ _ ⟨⟨_, rfl⟩, D, t3, t4, rfl, hA2⟩ (by k_asm) (by k_asm))
end
end
end
theorem reset_P14 {prog : Program} {w : World} {A : Around} {env : Env} {Q : Flow → Shared → Prop} {E : Value → Shared → Prop} {s : Shared} (h : Q .next s) : wpAny (model prog w) A (execs [] env) Q E s := by
  walk1
  exact h
section
theorem addT_ne : ∀ {rows : List Row} {x : List Nat} {r : Row} {rest : List Row} {y : List Nat}, RowsOk rows → addT rows x = (r :: rest, y) → RowsOk (r :: rest) ∧ (r :: rest).length ≤ rows.length ∧ foldC (codes (r :: rest)) y = foldC (codes rows) x ∧ y.length = x.length ∧ (codes (r :: rest)).countP (· == 81) ≤ (codes rows).countP (· == 81) := by
  intro rows x r rest y hR e
  have h1 := addT_rows rows x hR
  have h2 := addT_rlen rows x
  have h3 := addT_fold rows x
  have h4 := addT_len rows x
  have h5 := addT_cnt rows x
  rw [e] at h1 h2 h3 h4 h5
  exact ⟨h1, h2, h3, h4, h5⟩
theorem Apart.start {S a b : Nat} {t : Tok} {news : List (Addr × Obj)} (h1 : b < a) (h2 : a < S) (hb : ∀ p ∈ news, @LT.lt Nat _ p.1 b) : Apart S [⟨a, b, Str.ofString "", 0, t, 0, 0⟩] news := by
  refine ⟨?_, fun p hp x hx => ?_⟩
  · simp only [addrs, List.nodup_cons, List.mem_cons, not_or, List.not_mem_nil, not_false_eq_true, List.nodup_nil, and_true]
    omega
  · have := hb p hp
    simp only [addrs, List.mem_cons, List.not_mem_nil, or_false] at hx
    rcases hx with rfl | rfl | rfl <;> exact Nat.ne_of_lt (by omega)
/-- the second loop's state -/
noncomputable def Done2 (S : Nat) (sg : List Nat) (news : List (Addr × Obj)) (Y : List Nat) (MM : List Str) (led : List (Addr × Obj)) (c : Nat) : Prop :=
  ∃ r' rest' n' k' p' news', c = rest'.length ∧ led = (S, listOf (items (r' :: rest')) n') :: rowA r' :: (r'.b, listOf #[.ref p'] k') :: (Led rest' ++ news') ∧ Apart S (r' :: rest') news' ∧ RowsOk (r' :: rest') ∧ (r' :: rest').length ≤ 41 ∧
    Cont sg Y MM (r' :: rest') p' news' ∧ ∀ q ∈ news, q ∈ news'
section
variable (w : World) (mean : ExcName → Option Value) (mg mb : Str → Option Value)
local macro_rules | `(tactic| walk_at "exec While Compare") => `(tactic| (k_here; refine stop ?_))
local macro_rules | `(tactic| walk_at "exec While Compare cons nil") => `(tactic| (k_here; refine stop ?_))
local macro_rules | `(tactic| walk_at "compareOp Eq str str") => `(tactic| (k_here; k_dflt (first | (refine' eq_b (b := false) ?e ?_; (case e => first | assumption | ((try dsimp only); decide +kernel))) | (refine' eq_b (b := true) ?e ?_; (case e => first | assumption | ((try dsimp only); decide +kernel))))))
local macro_rules | `(tactic| walk_at "compareOp NotEq str str") => `(tactic| (k_here; k_dflt (first | (refine' ne_b (b := true) ?e ?_; (case e => first | assumption | ((try dsimp only); decide +kernel))) | (refine' ne_b (b := false) ?e ?_; (case e => first | assumption | ((try dsimp only); decide +kernel))))))
local macro_rules | `(tactic| walk_at "compareOp In str str") => `(tactic| (k_here; k_dflt (first | (refine' in_b (b := true) ?e ?_; (case e => first | assumption | ((try dsimp only); decide +kernel))) | (refine' in_b (b := false) ?e ?_; (case e => first | assumption | ((try dsimp only); decide +kernel))))))
local macro_rules | `(tactic| walk_at "subscriptTail Name Name str int") => `(tactic| (k_here; (with_reducible show wpAny _ _ (subscriptTail _ _ (Value.str _ _) (Value.int _ _)) _ _ _); k_dflt (refine' slr_item ?hr ?h1 ?h2 ?e ?_ ?hs ?ht; (case e => walk_at "my item"); (case hr => exact fitsSsize_of (N := 9223372036854775808) (by omega) (by omega) (Int.le_refl _)); (case h1 => omega); (case h2 => omega); (case hs => with_unfolding_all rfl); (case ht => (intro _; with_unfolding_all rfl))); intro t' k'))
local macro_rules | `(tactic| walk_at "my item") => `(tactic| (first | (refine' MX.i0 (by assumption) _ ?_; omega) | (refine' TX.i0 (by assumption) _ ?_; omega) | (refine' DX.i0 (by assumption) _ ?_; omega)))
local macro_rules | `(tactic| walk_at "my slice") => `(tactic| (first | (refine' MX.s12 (by assumption) _ _ ?_ ?_ <;> omega) | (refine' TX.s12 (by assumption) _ _ ?_ ?_ <;> omega) | (refine' DX.s12 (by assumption) _ _ ?_ ?_ <;> omega)))
local macro_rules | `(tactic| walk_at "my tlen") => `(tactic| (rw [PySem.sizeLine_eq]; omega))
local macro_rules | `(tactic| walk_at "WhlIf") => `(tactic| (k_here; first | (k_dflt (refine WhlIf.yes (decide_eq_true (by omega)) ?_)) | (k_dflt (refine WhlIf.no (decide_eq_false (by omega)) ?_))))
local macro_rules | `(tactic| walk_at "WhlIf") => `(tactic| (k_here; first | (k_dflt (refine WhlIf.yes (decide_eq_true (by simp only [List.length_cons, List.length_nil]; omega)) ?_)) | (k_dflt (refine WhlIf.no (decide_eq_false (by simp only [List.length_cons, List.length_nil]; omega)) ?_))))
local macro_rules | `(tactic| walk_at "subscriptTail") => `(tactic| (k_here; (with_reducible show wpAny _ _ (subscriptTail _ _ (Value.ref _) (Value.int _ _)) _ _ _); k_dflt (refine' lst_item ?N ?hm ?hlo ?hhi ?hx ?_ ?hs; (case N => k_asm); (case hm => walk_at "my mem"); (case hlo => decide); (case hhi => decide); (case hx => rfl); (case hs => with_unfolding_all rfl))))
local macro_rules | `(tactic| walk_at "subscriptTail") => `(tactic| (k_here; (with_reducible show wpAny _ _ (subscriptTail _ _ (Value.ref _) (Value.int _ _)) _ _ _); k_dflt (refine' stk_top (rest := []) ?N ?hm ?hi ?hz ?_ ?hs; (case N => k_asm); (case hm => walk_at "my mem"); (case hi => rfl); (case hz => decide); (case hs => with_unfolding_all rfl))))
local macro_rules | `(tactic| walk_at "call ref") => `(tactic| (k_here; (with_reducible show wpAny _ _ (call (Value.ref 240) _) _ _ _); refine stop ?_))
local macro_rules | `(tactic| walk_at "call ref") => `(tactic| (k_here; (with_reducible show wpAny _ _ (call (Value.ref 247) _) _ _ _); refine stop ?_))
local macro_rules | `(tactic| walk_at "call ref") => `(tactic| (k_here; (with_reducible show wpAny _ _ (call (Value.ref 216) _) _ _ _); refine stop ?_))
set_option maxHeartbeats 6000000 in
theorem parts_spec (ms sg : List Nat) (b : Bool) (tX : Tok) (news : List (Addr × Obj)) (hg : goodC ms) (hl : ms.length ≤ 60) (hs : sg = [97] ∨ sg = [46] ∨ sg = [65] ∨ sg = [36, 120]) :
    CallR w mean mg mb 254 300 2500 [.str ⟨(rawL ms sg).toArray⟩ tX, .bool b] news
      (fun v led' => ∃ bb n p rows0, v = .ref bb ∧ (bb, listOf #[.ref p] n) ∈ led' ∧ (∀ q ∈ news, q ∈ led') ∧ RowsOk rows0 ∧ runC ms [0] = some (codes rows0) ∧ rows0.length ≤ 41 ∧ (sg ≠ [36, 120] → Part led' [] (Str.ofString "text") ⟨(foldC (codes rows0) sg).toArray⟩ p) ∧ (sg = [36, 120] → Part led' (marksOf rows0 []) (Str.ofString "expr") (Str.ofString "$x") p))
      (fun news' => runC ms [0] = none ∧ ∀ q ∈ news, q ∈ news') := by
  intro dp un gd cn cs a' ccd cl outer A₀ base h₀ L m s Q E B F X0 N T hk hdp hun hret hrz
  refine wpAny_call ?_
  k_dflt cell_enter
  k_steps
  unfold Stop
  rename_i b1 _ lb a1 _ la S1 _ lS _ h1 F1 N1
  obtain ⟨t0, N1⟩ : ∃ t0, News _ _ h1 ((S1, listOf (items [⟨a1, b1, Str.ofString "", 0, t0, 0, 0⟩]) 0) :: (Led [⟨a1, b1, Str.ofString "", 0, t0, 0, 0⟩] ++ news)) := ⟨_, by rw [items_one]; exact N1⟩
  have hA0 : Apart S1 [⟨a1, b1, Str.ofString "", 0, t0, 0, 0⟩] news := Apart.start la.1 lS.1 lb
  have hR0 : RowsOk [⟨a1, b1, Str.ofString "", 0, t0, 0, 0⟩] := .inl ⟨rfl, rfl, rfl⟩
  refine whl_start 0 ?_
  refine whl_inv (σ := Nat) (fun c => c) (fun m₀ c m led => (∃ pre post, c = post.length + 1 ∧ Mp m₀ m (2 * pre.length : Nat) ∧ Open1 S1 ms news led pre post) ∨ (c = 0 ∧ Mp m₀ m (rawL ms sg).length ∧ Done1 S1 ms sg news led))
    (ms.length + 1) (by passes_own) F1 N1 (.inl ⟨[], ms, rfl, Mp.refl rfl, _, _, _, rfl, rfl, hR0, hA0, rfl, by simp, by simp [codes], fun q hq => hq⟩) ?_
  clear N1
  intro c m' led' h2 tk2 hJ F2 N2
  rcases hJ with ⟨pre, post, rfl, hMp, hO⟩ | ⟨rfl, hMp, hD⟩
  · obtain ⟨rows, n, news', hms, rfl, hR, hA, hrun, hz, hq8, hsub⟩ := hO
    have hMp0 := hMp
    obtain ⟨u, t5, rfl⟩ := hMp
    cases post with
    | cons c post =>
      have hX := mx_of (sg := sg) (hms ▸ hg) (hms ▸ hl) hs
      rw [← hms] at hX
      have hgp : goodC (c :: post) := good_app (pre := pre) (hms ▸ hg)
      have hc6 : six c := hgp.1
      obtain ⟨mf1, mf2⟩ := mark_facts hc6
      have x0 := hX.lo
      have x1 := hX.lt
      have x2 := hX.big
      clear F1
      k_steps
      unfold Stop
      rename News _ _ _ _ => N3
      refine' CallR.use (take_case_spec w mean mg mb S1 n rows news' c _ _ _ _ _ _ (mark_six hc6) hR hA (by omega) hX.i1 rfl hX.p1 hX.p2 x0 (by omega) x2) ?B ?F ?X ?N ?T ?hk ?hdp ?hun ?_ ?_
      case N => exact N3
      walk_at "my use0"
      · intro v' led' h8 tk8 R8 F8 N8
        obtain ⟨⟨t8, rfl⟩, ho, r', n', news2, rfl, hh, hc, hR1, hA1, hs1⟩ := R8
        have ho2 := ho
        rw [over_codes, begun_codes] at ho2
        have hlen := over_no ho2 hq8
        have ec : codes (r' :: begun c rows) = c :: begC c (codes rows) := by
          rw [← begun_codes]
          show r'.c :: _ = _
          rw [hc]
          rfl
        have el : (begun c rows).length = (begC c (codes rows)).length := by rw [← begun_codes]; simp [codes]
        k_steps
        refine ⟨post.length + 1, _, _, _, _, rfl, by (simp only [List.length_cons]; omega), .inl ⟨pre ++ [c], post, rfl, ?_, r' :: begun c rows, n', news2, by rw [hms]; simp, rfl, hR1, hA1, ?_, ?_, ?_, fun q hq => hs1 q (hsub q hq)⟩, by k_asm, by k_asm⟩
        · rw [show ((2 * (pre ++ [c]).length : Nat) : Int) = (2 * pre.length : Nat) + 2 by simp; omega]
          exact Mp.step hMp0 rfl fun z h1 h2 => by simp [h1, h2]
        · rw [ec, ← hrun]
          conv => rhs; unfold runC
          rw [if_neg (by rw [ho2]; exact Bool.false_ne_true)]
        · rw [List.length_cons, el]; omega
        · rw [ec]; exact hlen.2
      · intro e t vs news2 g h9 tk9 Rz Fg U R
        k_unfold
        dsimp only
        refine leave_onK (by assumption) Fg R U ?_
        intro h10 R10 U10
        refine hrz e t _ _ _ _ _ ⟨?_, fun q hq => Rz.2 q (hsub q hq)⟩ (by assumption) U10 R10
        have ho2 := Rz.1
        rw [over_codes, begun_codes] at ho2
        rw [← hrun]
        unfold runC
        rw [if_pos ho2]
    | nil =>
      rw [List.append_nil] at hms
      subst hms
      have hrun0 : runC ms [0] = some (codes rows) := hrun.symm
      clear F1
      by_cases hsd : sg = [36, 120]
      · subst hsd
        have hX := dx_of (ms := ms) hl
        have x0 := hX.lo
        have x1 := hX.len
        have x2 := hX.big
        obtain ⟨r0, rest, rfl⟩ : ∃ r0 rest, rows = r0 :: rest := by
          cases rows with
          | nil => exact absurd hR (by simp [RowsOk])
          | cons r0 rest => exact ⟨r0, rest, rfl⟩
        k_steps
        unfold Stop
        rename News _ _ _ _ => N3
        have hz2 : rest.length ≤ 60 := by simp only [List.length_cons] at hz; omega
        refine' CallOk.use (take_dollar w mean mg mb S1 n r0 rest news' _ _ b _ _ tX hA hz2 hX) ?B ?F ?X ?N ?T ?hk ?hdp ?hun ?_
        case N => exact N3
        walk_at "my use0"
        intro v' led' h8 tk8 R8 F8 N8
        obtain ⟨⟨t8, rfl⟩, p, t1, t2, rfl, hA'⟩ := R8
        k_steps
        refine ⟨0, _, _, _, _, rfl, Nat.succ_pos _, .inr ⟨rfl, ?_, r0 :: rest, hR, hrun0, hz, r0, rest, n, r0.n2 + 1, p, _, rfl, hA', hR, hz, .inr ⟨rfl, [], ⟨t1, t2, .head _⟩, rfl⟩, fun q hq => .tail _ (hsub q hq)⟩, by k_asm, by k_asm⟩
        rw [show (((rawL ms [36, 120]).length : Nat) : Int) = (2 * ms.length : Nat) + 2 by rw [rawL_len]; simp]
        exact Mp.step hMp0 rfl fun z h1 h2 => by simp [h1, h2]
      · obtain ⟨c, rfl, hc⟩ : ∃ c, sg = [c] ∧ (c = 97 ∨ c = 46 ∨ c = 65) := by
          rcases hs with h | h | h | h
          · exact ⟨_, h, .inl rfl⟩
          · exact ⟨_, h, .inr (.inl rfl)⟩
          · exact ⟨_, h, .inr (.inr rfl)⟩
          · exact absurd h hsd
        obtain ⟨q1, q2, q3, q4⟩ : ((⟨#[c]⟩ : Str) == Str.ofString "\\") = false ∧ ((⟨#[c]⟩ : Str) == Str.ofString "$") = false ∧ ((⟨#[c]⟩ : Str) == Str.ofString "@") = false ∧ Sign4 c := by
          rcases hc with h | h | h <;> (subst h; unfold Sign4; decide +kernel)
        have hX := tx_of (ms := ms) (c := c) hl
        have x0 := hX.lo
        have x1 := hX.len
        have x2 := hX.big
        k_steps
        unfold Stop
        rename News _ _ _ _ => N3
        refine' CallOk.use (take_text w mean mg mb S1 n rows news' c _ _ b _ _ tX hR hA (by omega) (hX.i0 _ rfl) q4 q1 q2 q3 x0 (by omega) x2) ?B ?F ?X ?N ?T ?hk ?hdp ?hun ?_
        case N => exact N3
        walk_at "my use0"
        intro v' led' h8 tk8 R8 F8 N8
        obtain ⟨⟨t8, rfl⟩, -, r', rest', y, n', k', p', t1', t2', news2, e1, rfl, hp', hA', hs'⟩ := R8
        obtain ⟨hR1, hz1, hf1, hy1, hq1⟩ := addT_ne hR e1
        have hy2 := addT_sign rows [c] (by simpa using q4)
        rw [e1] at hy2
        k_steps
        refine ⟨0, _, _, _, _, rfl, Nat.succ_pos _, .inr ⟨rfl, ?_, rows, hR, hrun0, hz, r', rest', n', k', p', news2, rfl, hA', hR1, by omega, .inl ⟨hsd, y, t1', t2', hp', hy2, ?_, hf1⟩, fun q hq => hs' q (hsub q hq)⟩, by k_asm, by k_asm⟩
        · rw [show (((rawL ms [c]).length : Nat) : Int) = (2 * ms.length : Nat) + 1 by rw [rawL_len]; simp]
          exact Mp.step hMp0 rfl fun z h1 h2 => by simp [h1, h2]
        · rw [hy1]
          show 1 * _ ≤ 2 ^ 8
          rw [Nat.one_mul]
          exact Nat.pow_le_pow_right (by decide) (by omega)
  · obtain ⟨rows0, hR00, hrun0, hz0, hD⟩ := hD
    obtain ⟨u, t5, rfl⟩ := hMp
    have x1 : ((⟨(rawL ms sg).toArray⟩ : Str).length : Int) = (rawL ms sg).length := by rw [xlen]
    have x2 : (⟨(rawL ms sg).toArray⟩ : Str).length ≤ 1000 := by
      rw [xlen, rawL_len]
      rcases hs with h | h | h | h <;> (subst h; simp; omega)
    clear F1
    k_steps
    unfold Stop
    rename Fr _ _ _ _ => F1
    rename News _ _ _ _ => N1
    obtain ⟨r', rest', n', k', p', news', rfl, hA, hR, hz, hC, hsub⟩ := hD
    refine whl_start 0 ?_
    refine whl_inv (σ := Nat) (fun c => c) (fun m₀ c m led => m = m₀ ∧ Done2 S1 sg news (foldC (codes rows0) sg) (marksOf rows0 []) led c)
      rest'.length (by passes_own) F1 N1 ⟨rfl, r', rest', n', k', p', news', rfl, rfl, hA, hR, hz, hC, hsub⟩ ?_
    clear F1 N1 hA hR hz hC hsub
    rintro c m' led' h2 tk2 ⟨rfl, r, rest, n, k, p, news2, rfl, rfl, hA, hR, hz, hC, hsub⟩ F2 N2
    cases rest with
    | nil =>
      k_steps
      have hr0 : r.c = 0 := by
        rcases hR with ⟨_, _, h⟩ | ⟨_, h⟩
        · exact h
        · exact absurd h (by simp [RowsOk])
      refine hret _ _ _ _ ⟨r.b, k, p, rows0, rfl, .tail _ (.tail _ (.head _)), fun q hq => .tail _ (.tail _ (.tail _ (List.mem_append_right _ (hsub q hq)))), hR00, hrun0, hz0, fun hne => ?_, fun he => ?_⟩ (by k_asm) (by k_asm)
      · rcases hC with ⟨_, y, t1, t2, hm, _, _, hf⟩ | ⟨h, _⟩
        · have e : codes [r] = [0] := by simp [codes, hr0]
          rw [e] at hf
          have e2 : foldC [0] y = y := by simp [foldC]
          rw [e2] at hf
          rw [← hf]
          exact ⟨t1, t2, .tail _ (.tail _ (.tail _ (List.mem_append_right _ hm)))⟩
        · exact absurd h hne
      · rcases hC with ⟨h, _⟩ | ⟨_, Ms, hP, hm⟩
        · exact absurd he h
        · rw [← hm]
          exact Part.mono (fun q hq => .tail _ (.tail _ (.tail _ (List.mem_append_right _ hq)))) hP
    | cons r2 rest2 =>
      obtain ⟨hM, hR2⟩ : MarkStr r.h r.c ∧ RowsOk (r2 :: rest2) := by
        rcases hR with ⟨h, _⟩ | h
        · exact absurd h (by simp)
        · exact h
      have hr0 : r.c ≠ 0 := by rcases hM with h | h | h | h | h | h <;> simp [h.2]
      simp only [List.length_cons] at hz
      k_steps
      unfold Stop
      rename News _ _ _ _ => N3
      rcases hC with ⟨hne, y, t1, t2, hm, hsg, hroom, hf⟩ | ⟨he, Ms, hP, hmk⟩
      · have hroom2 := close_room (c := r.c) (l := codes (r2 :: rest2)) hroom
        have hyl := room_len hroom
        have hcl := room_len hroom2
        refine' CallOk.use (close_txt w mean mg mb r (r2 :: rest2) S1 n k p y t1 t2 news2 hM hR2 hA (by simp only [List.length_cons]; omega) hm hsg (by omega) (by omega)) ?B ?F ?X ?N ?T ?hk ?hdp ?hun ?_
        case N => exact N3
        case hdp => (simp only [List.length_cons]; ktr_room)
        case hun => (simp only [List.length_cons]; ktr_units)
        case B => k_asm
        case F => k_asm
        case X => k_asm
        case T => k_asm
        case hk => exact rfl
        intro v' led' h8 tk8 R8 F8 N8
        obtain ⟨rfl, r3, rest3, y3, n3, k3, p3, t1', t2', news3, e1, rfl, hp', hA', hs'⟩ := R8
        obtain ⟨hR3, hz3, hf3, hy3, hq3⟩ := addT_ne hR2 e1
        have hy4 := addT_sign (r2 :: rest2) _ (casedL_sign4 r.c hsg)
        rw [e1] at hy4
        simp only [List.length_cons] at hz3
        k_steps
        refine ⟨rest3.length, _, _, _, _, rfl, ?_, ⟨rfl, r3, rest3, n3, k3, p3, news3, rfl, rfl, hA', hR3, by (simp only [List.length_cons]; omega), .inl ⟨hne, y3, t1', t2', hp', hy4, ?_, ?_⟩, fun q hq => hs' q (hsub q hq)⟩, by k_asm, by k_asm⟩
        · show rest3.length < (r2 :: rest2).length
          simp only [List.length_cons]; omega
        · rw [hy3]
          exact Nat.le_trans (Nat.mul_le_mul_left _ (Nat.pow_le_pow_right (by decide) hq3)) hroom2
        · rw [hf3, ← hf]
          conv => rhs; unfold codes foldC
          simp only [List.map_cons]
          rw [if_neg hr0]
          rfl
      · obtain ⟨vs, hv, hvt⟩ : ∃ vs, (p, tupOf vs) ∈ news2 ∧ Tagged vs := by
          cases Ms with
          | nil => obtain ⟨t1, t2, q⟩ := hP; exact ⟨_, q, .inl ⟨_, _, rfl⟩⟩
          | cons M Ms => obtain ⟨t1, t2, b, n, p', q, _⟩ := hP; exact ⟨_, q, .inr ⟨_, _, _, _, rfl⟩⟩
        refine' CallOk.use (close_tag w mean mg mb S1 n k p r r2 rest2 vs news2 hA (by omega) hv hvt) ?B ?F ?X ?N ?T ?hk ?hdp ?hun ?_
        case N => exact N3
        walk_at "my use0"
        intro v' led' h8 tk8 R8 F8 N8
        obtain ⟨rfl, p3, t3, rfl, hA'⟩ := R8
        k_steps
        refine ⟨rest2.length, _, _, _, _, rfl, Nat.lt_succ_self _, ⟨rfl, r2, rest2, n + 1, r2.n2 + 1, p3, _, rfl, rfl, hA', hR2, by (simp only [List.length_cons]; omega), .inr ⟨he, r.h :: Ms, ?_, ?_⟩, fun q hq => .tail _ (.tail _ (.tail _ (hsub q hq)))⟩, by k_asm, by k_asm⟩
        · exact ⟨t3, r.t, r.b, k, p, .head _, .tail _ (.tail _ (.head _)), Part.mono (fun q hq => .tail _ (.tail _ (.tail _ hq))) hP⟩
        · rw [← hmk]
          conv => rhs; unfold marksOf
          rfl
end
end
theorem reset_P15 {prog : Program} {w : World} {A : Around} {env : Env} {Q : Flow → Shared → Prop} {E : Value → Shared → Prop} {s : Shared} (h : Q .next s) : wpAny (model prog w) A (execs [] env) Q E s := by
  walk1
  exact h
section
section
variable {prog : Program} {w : World} {A : Around} {E : Value → Shared → Prop} {s : Shared} {h₀ : Heap} {L : Addr} {m : Str → Option Value} {env : Env}
/-- the source of a list comprehension over a text -/
noncomputable def TextSrc (prog : Program) (w : World) (A : Around) (h₀ : Heap) (L : Addr) (m : Str → Option Value) (env : Env) (elt : Expr) (x : Str) (scope : Scope) (cl : List (Str × Addr)) (Q : Value → Shared → Prop) (xv : Value) (s₁ : Shared) : Prop :=
  ∃ xt t news, xv = .str xt t ∧ A.handled = none ∧ Fr h₀ L s₁.heap m ∧ News h₀ L s₁.heap news ∧ xt.cps.size ≤ sizeLine ∧
    ∀ s₂ : Shared, (∃ h, s₂ = { s₁ with heap := h }) → LCg.CompRest prog w A h₀ L m env elt x scope cl s₂ (fun _ => True) (SignAt xt) (LCg.FinE h₀ L m s₂ Q) xt.cps.size 0 [] news
/-- a list comprehension over a text, without a test -/
theorem comp_text {elt iter : Expr} {x : Str} {px : Pos} {scope : Scope} {cl : List (Str × Addr)} {pos : Pos} {Q : Value → Shared → Prop} (F₀ : Fr h₀ L s.heap m)
    (hclos : closureFor scope env = pure cl) (hcell : ∀ y ∈ scope.names, y.2 ≠ .cell) (hkind : scope.kind = .function)
    (hnames : ∀ y ∈ scope.names, y.2 = .local → scope.names.lookup y.1 = some .local) (hx : scope.names.lookup x = some .local)
    (h : wpAny (model prog w) A (eval iter env) (TextSrc prog w A h₀ L m env elt x scope cl Q) E s)
    (hs : ∀ x, foldedSetIterable iter env x = pure x := by intro _; rfl) :
    wpAny (model prog w) A (eval (.ListComp elt [⟨.Name x px, iter, [], 0⟩] scope pos) env) Q E s := by
  rw [eval_ListComp]
  refine wpAny_comprehension_free (use := none) rfl hs hclos hkind hnames (wpAny_mono h (fun xv s₁ h₁ => ?_) fun _ _ e => e)
  obtain ⟨xt, t, news, rfl, hh, F, N, hsz, R⟩ := h₁
  cases ha : xt.cps.all (· < 128)
  · refine wpAny_pyIter_wide ha ?_
    refine LCg.block_U (Walks.strWide hh s₁.heap.objs.size xt t) hsz (fun i h st => let ⟨o, ho, _⟩ := st; ⟨o, ho⟩) (fun i h h' o nw st e e' _ _ _ => by obtain ⟨o', q, r⟩ := st; rw [e] at q; cases q; exact ⟨o, e', r⟩)
      hcell hkind hx ⟨_, Heap.get?_push_size _ rfl, rfl, rfl⟩ (fun b hb => ?_) (F.keeps fun _ _ e => Heap.get?_push_of_some _ e) (N.grown fun _ _ e => Heap.get?_push_of_some _ e) (Nat.ne_of_lt F.ns.lt) (next_is_new F)
      (fun p hp => Nat.ne_of_lt (Heap.lt_size (N p hp).1)) trivial (R _ ⟨_, rfl⟩) ?_
    · rw [List.mem_singleton.mp hb]
      show s₁.heap.objs.size < (s₁.heap.push _).objs.size
      rw [Heap.size_push]; exact Nat.lt_succ_self _
    · intro D C h tk m' ys news' F' N' o1 hn hC₀ hD₀ hCL hDL hCD offC fin
      refine ⟨m', hn, fun h'' hs'' => fin D h'' tk (F'.change hs'' hCL hC₀) (fun p hp => ?_) o1⟩
      refine ⟨hs''.extBut _ _ ?_ (N' p hp).1, (N' p hp).2⟩
      rcases List.mem_cons.mp hp with rfl | hp
      · exact Ne.symm hCD
      · exact offC p hp
  · refine wpAny_pyIter_ascii ha ?_
    refine LCg.block_U (Walks.strAscii hh s₁.heap.objs.size xt t) hsz (fun i h st => let ⟨o, ho, _⟩ := st; ⟨o, ho⟩) (fun i h h' o nw st e e' _ _ _ => by obtain ⟨o', q, r⟩ := st; rw [e] at q; cases q; exact ⟨o, e', r⟩)
      hcell hkind hx ⟨_, Heap.get?_push_size _ rfl, rfl, rfl⟩ (fun b hb => ?_) (F.keeps fun _ _ e => Heap.get?_push_of_some _ e) (N.grown fun _ _ e => Heap.get?_push_of_some _ e) (Nat.ne_of_lt F.ns.lt) (next_is_new F)
      (fun p hp => Nat.ne_of_lt (Heap.lt_size (N p hp).1)) trivial (R _ ⟨_, rfl⟩) ?_
    · rw [List.mem_singleton.mp hb]
      show s₁.heap.objs.size < (s₁.heap.push _).objs.size
      rw [Heap.size_push]; exact Nat.lt_succ_self _
    · intro D C h tk m' ys news' F' N' o1 hn hC₀ hD₀ hCL hDL hCD offC fin
      refine ⟨m', hn, fun h'' hs'' => fin D h'' tk (F'.change hs'' hCL hC₀) (fun p hp => ?_) o1⟩
      refine ⟨hs''.extBut _ _ ?_ (N' p hp).1, (N' p hp).2⟩
      rcases List.mem_cons.mp hp with rfl | hp
      · exact Ne.symm hCD
      · exact offC p hp
theorem restJ {elt : Expr} {x : Str} {scope : Scope} {cl : List (Str × Addr)} {S : List (Addr × Obj) → Prop} {P : Nat → Value → Prop} {Fin : List Value → List (Addr × Obj) → Prop} {n : Nat} {news : List (Addr × Obj)}
    (J : Nat → List Value → List (Addr × Obj) → Prop) (h0 : J 0 [] news)
    (step : ∀ i ys nw v I oI C oC D m₂ h tk (E' : Value → Shared → Prop), i < n → J i ys nw → P i v → LCg.NsObj oC m₂ → m₂ x = some v → Fr h₀ L h m → News h₀ L h ((I, oI) :: (C, oC) :: (D, LCg.lst ys) :: nw) → LCg.Off3 I C D nw → ((@Ne Nat I C) ∧ (@Ne Nat I D) ∧ (@Ne Nat C D)) →
      wpAny (model prog w) A (eval elt (compEnvC scope cl C env)) (LCg.CompEnd h₀ L m { s with heap := h, toks := tk } I oI C oC D (LCg.lst ys) S (fun y nw' => J (i + 1) (ys ++ [y]) nw')) E' { s with heap := h, toks := tk })
    (fin : ∀ ys nw, J n ys nw → Fin ys nw) : LCg.CompRest prog w A h₀ L m env elt x scope cl s S P Fin n 0 [] news := by
  have key : ∀ (j i : Nat) (ys : List Value) (nw : List (Addr × Obj)), i + j = n → J i ys nw → LCg.CompRest prog w A h₀ L m env elt x scope cl s S P Fin j i ys nw := by
    intro j
    induction j with
    | zero =>
      intro i ys nw hi hJ
      obtain rfl : i = n := by omega
      exact LCg.CompRest.zero (fin ys nw hJ)
    | succ j ih =>
      intro i ys nw hi hJ
      refine LCg.CompRest.succ ?_
      intro v I oI C oC D m₂ h tk E' hv hC hx F N off ne
      refine wpAny_mono (step i ys nw v I oI C oC D m₂ h tk E' (by omega) hJ hv hC hx F N off ne) (fun y s₂ hq => ?_) fun _ _ e => e
      obtain ⟨h', tk', nw', e, F', N', off', hS, hJ'⟩ := hq
      exact ⟨h', tk', nw', e, F', N', off', hS, ih (i + 1) _ nw' (by omega) hJ'⟩
  exact key n 0 [] news (by omega) h0
theorem join0 : ∀ ls : List (List Nat), Txt.join (Str.ofString "") (ls.map fun l => (⟨l.toArray⟩ : Str)) = ⟨ls.flatten.toArray⟩ := by
  intro ls
  unfold Txt.join
  rw [StrLaws.glued_eq_join]
  induction ls with
  | nil => rfl
  | cons a r ih =>
    cases r with
    | nil => show (⟨a.toArray⟩ : Str) = _; simp
    | cons b r =>
      have e : Str.join (Str.ofString "") ((a :: b :: r).map fun l => (⟨l.toArray⟩ : Str)) = ⟨a.toArray⟩ ++ Str.ofString "" ++ Str.join (Str.ofString "") ((b :: r).map fun l => (⟨l.toArray⟩ : Str)) := rfl
      rw [e, ih, ← s0, app_l, app_l]
      simp
theorem join_l {D : Addr} {led : List (Addr × Obj)} {vs : List Value} {ls : List (List Nat)} {k : Nat} {t : Tok} {Q : Value → Shared → Prop} (N : News h₀ L s.heap led) (hm : (D, listOf vs.toArray k) ∈ led) (hi : StrsAre vs (ls.map fun l => (⟨l.toArray⟩ : Str)))
    (hb : ls.flatten.length ≤ 100000) (hb2 : ls.length ≤ 100000) (h : ∀ t' k, Q (.str ⟨ls.flatten.toArray⟩ t') { s with toks := k }) : wpAny (model prog w) A (call (.builtin "str.join") [.str (Str.ofString "") t, .ref D]) Q E s := by
  have hl : s.heap.IsList D vs.toArray := PySem.IsL.isList (n := k) (N _ hm).1
  refine join_listW hl (by simpa using hi) (by decide) ?_ ?_
  · rw [List.map_map, List.length_map]
    have : (ls.map (Str.length ∘ fun l => (⟨l.toArray⟩ : Str))).sum = ls.flatten.length := by
      rw [List.length_flatten]
      refine congrArg List.sum (List.map_congr_left fun l _ => ?_)
      exact xlen l
    rw [this]; omega
  · rw [join0]; exact h
theorem strs_snoc {vs : List Value} {ls : List (List Nat)} {l : List Nat} {t : Tok} (h : StrsAre vs (ls.map fun l => (⟨l.toArray⟩ : Str))) : StrsAre (vs ++ [.str ⟨l.toArray⟩ t]) ((ls ++ [l]).map fun l => (⟨l.toArray⟩ : Str)) := by
  rw [List.map_append]
  exact kct_snoc h
end
end
theorem reset_P16 {prog : Program} {w : World} {A : Around} {env : Env} {Q : Flow → Shared → Prop} {E : Value → Shared → Prop} {s : Shared} (h : Q .next s) : wpAny (model prog w) A (execs [] env) Q E s := by
  walk1
  exact h
section
theorem placed_one {l : List Nat} {f : Nat → Nat → List Nat} {g : Nat → Nat} (h : ∀ i c, l[i]? = some c → f i c = [g c]) : placed ⟨l.toArray⟩ f = (l.map g).toArray := by
  have key : ∀ (l : List Nat) (f : Nat → Nat → List Nat), (∀ i c, l[i]? = some c → f i c = [g c]) → ((l.mapIdx fun i c => (f i c).toArray).map Array.toList).flatten = l.map g := by
    intro l
    induction l with
    | nil => intro f _; rfl
    | cons a r ih =>
      intro f h
      rw [List.mapIdx_cons, List.map_cons, List.flatten_cons, ih (fun i c => f (i + 1) c) (fun i c hc => h (i + 1) c (by simpa using hc)), h 0 a (by simp)]
      rfl
  unfold placed
  apply Array.ext'
  rw [Array.toList_flatten]
  simp only [List.mapIdx_toArray]
  rw [key l f h]
theorem upperOf4 {c : Nat} (h : Sign4 c) : Unicode.upperOf c = [great c] := by
  rcases h with rfl | rfl | rfl | rfl <;> decide +kernel
theorem lowerOf4 {c : Nat} (h : Sign4 c) : Unicode.lowerOf c = [small c] := by
  rcases h with rfl | rfl | rfl | rfl <;> decide +kernel
theorem upper_l {l : List Nat} (h : ∀ c ∈ l, Sign4 c) : Txt.upper ⟨l.toArray⟩ = ⟨(l.map great).toArray⟩ := by
  unfold Txt.upper
  rw [placed_one (g := great) fun i c hc => upperOf4 (h c (List.mem_of_getElem? hc))]
theorem lower_l {l : List Nat} (h : ∀ c ∈ l, Sign4 c) : Txt.lower ⟨l.toArray⟩ = ⟨(l.map small).toArray⟩ := by
  unfold Txt.lower
  rw [placed_one (g := small) fun i c hc => ?_]
  have h4 := h c (List.mem_of_getElem? hc)
  have e : l.toArray[i]? = some c := by simpa using hc
  unfold Unicode.lowerAt
  rw [e]
  dsimp only
  rw [if_neg (by rcases h4 with rfl | rfl | rfl | rfl <;> simp)]
  exact lowerOf4 h4
section
variable {prog : Program} {w : World} {A : Around} {E : Value → Shared → Prop} {s : Shared} {X : Str} {l : List Nat} {t : Tok} {Q : Value → Shared → Prop}
theorem up_l (hX : X = ⟨l.toArray⟩) (h4 : ∀ c ∈ l, Sign4 c) (hl : l.length ≤ 1000) (h : ∀ t' k, Q (.str ⟨(l.map great).toArray⟩ t') { s with toks := k }) : wpAny (model prog w) A (call (.builtin "str.upper") [.str X t]) Q E s := by
  subst hX
  refine SCL.upper (by rw [xlen]; omega) fun _ => ?_
  rw [upper_l h4]
  exact h _ _
theorem lo_l (hX : X = ⟨l.toArray⟩) (h4 : ∀ c ∈ l, Sign4 c) (hl : l.length ≤ 1000) (h : ∀ t' k, Q (.str ⟨(l.map small).toArray⟩ t') { s with toks := k }) : wpAny (model prog w) A (call (.builtin "str.lower") [.str X t]) Q E s := by
  subst hX
  refine SCL.lower (by rw [xlen]; omega) fun _ => ?_
  rw [lower_l h4]
  exact h _ _
end
theorem many_map (mk : Nat) (hm : mk ≠ 81) (x : List Nat) : many mk x = x.map (if mk = 85 then great else small) := by
  unfold many one
  induction x with
  | nil => rfl
  | cons c r ih =>
    rw [List.flatMap_cons, ih]
    by_cases h : mk = 85
    · simp [h]
    · simp [h, hm]
theorem quote_rest (c : Nat) (h : Sign4 c) : one 81 c = if c = 97 ∨ c = 65 then [c] else [92, c] := by
  rcases h with rfl | rfl | rfl | rfl <;> decide +kernel
theorem strs_step {x : List Nat} {g : Nat → List Nat} {ys : List Value} {i c : Nat} {Y : Str} {t : Tok} (h : StrsAre ys (((x.take i).map g).map fun l => (⟨l.toArray⟩ : Str))) (hc : x[i]? = some c) (e : Y = ⟨(g c).toArray⟩) :
    StrsAre (ys ++ [.str Y t]) (((x.take (i + 1)).map g).map fun l => (⟨l.toArray⟩ : Str)) := by
  rw [List.take_add_one, hc, e, List.map_append]
  exact strs_snoc h
section
variable (w : World) (mean : ExcName → Option Value) (mg mb : Str → Option Value)
local macro_rules | `(tactic| walk_at "eval ListComp") => `(tactic| (k_here; refine stop ?_))
local macro_rules | `(tactic| walk_at "call builtin:str.join") => `(tactic| (k_here; refine stop ?_))
local macro_rules | `(tactic| walk_at "call builtin:str.upper") => `(tactic| (k_here; (with_reducible show wpAny _ _ (call (Value.builtin "str.upper") [Value.str _ _]) _ _ _); k_dflt (refine' up_l ?hX ?h4 ?hl ?_; (case hX => rfl); (case h4 => first | assumption | (intro c hc; first | exact (by assumption : ∀ c ∈ _, Sign4 c) c (List.mem_of_mem_take hc) | exact (by assumption : ∀ c ∈ _, Sign4 c) c (List.mem_of_mem_drop hc))); (case hl => (simp only [List.length_take, List.length_drop]; omega))); intro _ _))
local macro_rules | `(tactic| walk_at "call builtin:str.lower") => `(tactic| (k_here; (with_reducible show wpAny _ _ (call (Value.builtin "str.lower") [Value.str _ _]) _ _ _); k_dflt (refine' lo_l ?hX ?h4 ?hl ?_; (case hX => rfl); (case h4 => first | assumption | (intro c hc; first | exact (by assumption : ∀ c ∈ _, Sign4 c) c (List.mem_of_mem_take hc) | exact (by assumption : ∀ c ∈ _, Sign4 c) c (List.mem_of_mem_drop hc))); (case hl => (simp only [List.length_take, List.length_drop]; omega))); intro _ _))
local macro_rules | `(tactic| walk_at "compareOp Eq str str") => `(tactic| (k_here; k_dflt (first | (refine' eq_b (b := false) ?e ?_; (case e => first | assumption | ((try dsimp only); decide +kernel))) | (refine' eq_b (b := true) ?e ?_; (case e => first | assumption | ((try dsimp only); decide +kernel))))))
local macro_rules | `(tactic| walk_at "my slice") => `(tactic| first | exact sl_ns _ 1 | exact sl_sn _ 1)
local macro_rules | `(tactic| walk_at "my size") => `(tactic| ((try simp only [List.length_append, List.length_cons, List.length_nil, List.length_map, List.length_take, List.length_drop]); rw [PySem.sizeLine_eq]; omega))
set_option maxHeartbeats 6000000 in
theorem law_cased (news : List (Addr × Obj)) (mk : Nat) (M : Str) (hM : MarkStr M mk) (x : List Nat) (t1 t2 : Tok) (hx : ∀ c ∈ x, Sign4 c) (hl : x.length ≤ 900) :
    CallOk w mean mg mb 283 4 40 [.str M t1, .str ⟨x.toArray⟩ t2] news (fun v led' => led' = news ∧ ∃ t, v = .str ⟨(casedL mk x).toArray⟩ t) := by
  intro dp un gd cn cs a ccd cl outer A₀ base h₀ L m s Q E B F X N T hk hdp hun hret
  refine wpAny_call ?_
  k_dflt cell_enter
  rcases hM with h | h | h | h | h | h
  all_goals (
    obtain ⟨e1, e2⟩ := h
    subst e1 e2
    k_steps)
  · exact hret _ _ _ _ ⟨rfl, _, congrArg (fun z => Value.str z _) (congrArg (fun l : List Nat => (⟨l.toArray⟩ : Str)) (by
      show List.map great (x.take 1) ++ List.map great (x.drop 1) = many 85 x
      rw [many_map 85 (by decide), ← List.map_append, List.take_append_drop]; rfl))⟩ (by k_asm) (by k_asm)
  · unfold Stop
    k_dflt (refine comp_text (by k_asm) (by with_unfolding_all rfl) (by decide) (by rfl) (by decide) (by rfl) ?_)
    k_steps
    rename Fr _ _ _ _ => F1
    rename News _ _ _ _ => N1
    unfold TextSrc
    refine ⟨_, _, _, rfl, by rfl, F1, N1, by (rw [PySem.sizeLine_eq]; simp; omega), ?_⟩
    rintro s₂ ⟨g, rfl⟩
    refine restJ (fun i ys nw => StrsAre ys (((x.take i).map (one 81)).map fun l => (⟨l.toArray⟩ : Str)) ∧ nw = news) ⟨.nil, rfl⟩ ?_ ?_
    · rintro i ys nw v I oI C oC D m₂ h tk E' hi ⟨hJ, rfl⟩ ⟨c, u, hc, rfl⟩ hC hx' F2 N2 off ne
      have hc' : x[i]? = some c := by simpa using hc
      have h4 := hx c (List.mem_of_getElem? hc')
      clear F1 N1 hc
      rcases h4 with rfl | rfl | rfl | rfl
      all_goals (
        simp only [s46, s92, s97, s65] at hx'
        k_steps)
      all_goals exact LCg.CompEnd.intro (by k_asm) (by k_asm) _ (fun p hp => hp) off trivial ⟨strs_step hJ hc' (by decide +kernel), rfl⟩
    · rintro ys nw ⟨hy, rfl⟩
      unfold LCg.FinE
      intro D h3 tk3 F3 N3 o1
      clear F1 N1
      have e6 : x.take (⟨x.toArray⟩ : Str).cps.size = x := by simp
      rw [e6] at hy
      have e7 : (x.map (one 81)).flatten = many 81 x := by rw [← List.flatMap_def]; rfl
      have hlm := many_len 81 x
      k_steps
      unfold Stop
      rename News _ _ _ _ => N4
      refine join_l N4 (.head _) hy (by rw [e7]; omega) (by rw [List.length_map]; omega) ?_
      intro t' k'
      rw [e7]
      k_steps
      rename News _ _ _ _ => N5
      exact hret _ _ _ _ ⟨rfl, _, rfl⟩ (by k_asm) (fun q hq => N5 q (.tail _ hq))
  · exact hret _ _ _ _ ⟨rfl, _, congrArg (fun z => Value.str z _) (congrArg (fun l : List Nat => (⟨l.toArray⟩ : Str)) (by
      show List.map small (x.take 1) ++ List.map small (x.drop 1) = many 76 x
      rw [many_map 76 (by decide), ← List.map_append, List.take_append_drop]; rfl))⟩ (by k_asm) (by k_asm)
  · exact hret _ _ _ _ ⟨rfl, _, congrArg (fun z => Value.str z _) (congrArg (fun l : List Nat => (⟨l.toArray⟩ : Str)) (by
      show List.map small (x.take 1) ++ List.map small (x.drop 1) = many 70 x
      rw [many_map 70 (by decide), ← List.map_append, List.take_append_drop]; rfl))⟩ (by k_asm) (by k_asm)
  · exact hret _ _ _ _ ⟨rfl, _, congrArg (fun z => Value.str z _) (congrArg (fun l : List Nat => (⟨l.toArray⟩ : Str)) (by
      show List.map great (x.take 1) ++ x.drop 1 = many 85 (x.take 1) ++ x.drop 1
      rw [many_map 85 (by decide)]; rfl))⟩ (by k_asm) (by k_asm)
  · exact hret _ _ _ _ ⟨rfl, _, congrArg (fun z => Value.str z _) (congrArg (fun l : List Nat => (⟨l.toArray⟩ : Str)) (by
      show List.map small (x.take 1) ++ x.drop 1 = many 76 (x.take 1) ++ x.drop 1
      rw [many_map 76 (by decide)]; rfl))⟩ (by k_asm) (by k_asm)
end
end
theorem reset_P17 {prog : Program} {w : World} {A : Around} {env : Env} {Q : Flow → Shared → Prop} {E : Value → Shared → Prop} {s : Shared} (h : Q .next s) : wpAny (model prog w) A (execs [] env) Q E s := by
  walk1
  exact h
section
noncomputable def cutL (hl : List Nat) : List Nat := hl.takeWhile fun c => !isLet c
noncomputable def nextL (c : Nat) (hl : List Nat) : List Nat := if isLet c = true then cutL hl else hl
noncomputable def stopL (c : Nat) (h : List Nat) : Bool := h.length == 40 || (c == 81 && h.countP (· == 81) == 8)
noncomputable def openL : List Nat → List Nat → Option (List Nat)
  | [], hl => some hl
  | c :: ms, hl => if stopL c (nextL c hl) = true then none else openL ms (nextL c hl ++ [c])
theorem tw_self {p : Nat → Bool} : ∀ {l : List Nat}, (∀ a ∈ l, p a = true) → l.takeWhile p = l
  | [], _ => rfl
  | c :: r, h => by rw [List.takeWhile_cons, if_pos (h c (.head _)), tw_self fun a ha => h a (.tail _ ha)]
theorem tw_lt {p : Nat → Bool} {l : List Nat} {a : Nat} (ha : a ∈ l) (hp : p a = false) : (l.takeWhile p).length ≠ l.length := by
  intro e
  have h3 := (List.takeWhile_prefix (p := p) (l := l)).eq_of_length e
  have h4 : (l.takeWhile p).all p = true := List.all_takeWhile
  rw [h3, List.all_eq_true] at h4
  have := h4 a ha
  rw [hp] at this
  cases this
theorem cut_end : ∀ r : List Nat, endC (r ++ [0]) = (cutL r.reverse).reverse ++ [0]
  | [] => by decide
  | c :: r => by
    have ih := cut_end r
    rw [List.cons_append]
    unfold endC
    unfold cutL at ih ⊢
    rw [List.reverse_cons, List.takeWhile_append]
    cases hr : r.any isLet with
    | true =>
      have h1 : (c :: (r ++ [0])).any isLet = true := by simp [hr]
      obtain ⟨a, ha, hb⟩ := List.any_eq_true.mp hr
      rw [if_pos h1, if_neg (tw_lt (List.mem_reverse.mpr ha) (by simp [hb])), ih]
    | false =>
      have h2 : r.reverse.takeWhile (fun c => !isLet c) = r.reverse := tw_self (by
        intro a ha
        have := List.any_eq_false.mp hr a (List.mem_reverse.mp ha)
        simpa using this)
      rw [h2] at ih ⊢
      rw [if_pos rfl]
      cases hc : isLet c with
      | true =>
        have h1 : (c :: (r ++ [0])).any isLet = true := by simp [hc]
        rw [if_pos h1, ih]
        simp [hc]
      | false =>
        have h1 : (c :: (r ++ [0])).any isLet = false := by simp [hc, hr]; decide
        rw [h1, if_neg Bool.false_ne_true]
        simp [hc]
theorem next_beg (c : Nat) (hl : List Nat) : begC c (hl.reverse ++ [0]) = (nextL c hl).reverse ++ [0] := by
  unfold begC nextL
  split
  · rw [cut_end, List.reverse_reverse]
  · rfl
theorem cut_len (hl : List Nat) : (cutL hl).length ≤ hl.length := (List.takeWhile_sublist _).length_le
theorem cut_cnt (hl : List Nat) : (cutL hl).countP (· == 81) ≤ hl.countP (· == 81) := (List.takeWhile_sublist _).countP_le
theorem next_len (c : Nat) (hl : List Nat) : (nextL c hl).length ≤ hl.length := by
  unfold nextL
  split
  · exact cut_len hl
  · exact Nat.le_refl _
theorem next_cnt (c : Nat) (hl : List Nat) : (nextL c hl).countP (· == 81) ≤ hl.countP (· == 81) := by
  unfold nextL
  split
  · exact cut_cnt hl
  · exact Nat.le_refl _
theorem stop_over {c : Nat} {h : List Nat} (h1 : h.length ≤ 40) (h2 : h.countP (· == 81) ≤ 8) : overC c (h.reverse ++ [0]) = stopL c h := by
  unfold overC stopL
  rw [List.length_append, List.length_reverse, List.countP_append, List.countP_reverse]
  have e1 : decide (40 < h.length + [0].length) = (h.length == 40) := by
    rw [Bool.eq_iff_iff, decide_eq_true_eq, beq_iff_eq]; simp; omega
  have e2 : decide (8 ≤ h.countP (· == 81) + [0].countP (· == 81)) = (h.countP (· == 81) == 8) := by
    rw [Bool.eq_iff_iff, decide_eq_true_eq, beq_iff_eq]; simp; omega
  rw [e1, e2]
theorem stop_no {c : Nat} {h : List Nat} (hs : stopL c h = false) (h1 : h.length ≤ 40) (h2 : h.countP (· == 81) ≤ 8) : (h ++ [c]).length ≤ 40 ∧ (h ++ [c]).countP (· == 81) ≤ 8 := by
  unfold stopL at hs
  simp only [Bool.or_eq_false_iff, Bool.and_eq_false_iff, beq_eq_false_iff_ne] at hs
  rw [List.length_append, List.countP_append]
  refine ⟨by simp; omega, ?_⟩
  by_cases hc : c = 81
  · subst hc; simp at hs ⊢; omega
  · have : [c].countP (· == 81) = 0 := by simp [hc]
    omega
theorem run_open : ∀ (ms hl : List Nat), hl.length ≤ 40 → hl.countP (· == 81) ≤ 8 → runC ms (hl.reverse ++ [0]) = (openL ms hl).map fun h => h.reverse ++ [0]
  | [], _ => fun _ _ => rfl
  | c :: ms, hl => fun h1 h2 => by
    unfold runC openL
    have h3 := next_len c hl
    have h4 := next_cnt c hl
    rw [next_beg, stop_over (by omega) (by omega)]
    split
    · rfl
    · rename_i hs
      have hs' : stopL c (nextL c hl) = false := by simpa using hs
      have h5 := stop_no hs' (by omega) (by omega)
      rw [← run_open ms _ h5.1 h5.2, List.reverse_append]
      rfl
theorem cnt_P (c : Nat) : ∀ l : List Nat, cnt c l = ((l.countP (· == c) : Nat) : Int)
  | [] => rfl
  | n :: r => by
    rw [cnt_cons, cnt_P c r, List.countP_cons]
    by_cases h : n = c
    · simp [h]; omega
    · simp [h]
theorem count_q (l : List Nat) : Txt.count ⟨l.toArray⟩ (Str.ofString "Q") = ((l.countP (· == 81) : Nat) : Int) := by
  rw [← s81, count_cnt, cnt_P]
/-- the first letter's place -/
noncomputable def FirstAt (hl : List Nat) (i : Nat) (ns : List Int) : Prop :=
  (ns = [] ∧ ∀ c ∈ hl.take i, isLet c = false) ∨ ∃ k : Nat, ∃ r, ns = (k : Int) :: r ∧ k < hl.length ∧ hl.take k = cutL hl
theorem first_yes {hl : List Nat} {i d : Nat} {ns : List Int} (h : FirstAt hl i ns) (hd : hl[i]? = some d) (hl1 : isLet d = true) : FirstAt hl (i + 1) (ns ++ [(i : Int)]) := by
  have hi : i < hl.length := (List.getElem?_eq_some_iff.mp hd).1
  rcases h with ⟨rfl, h⟩ | ⟨k, r, rfl, hk, e⟩
  · refine .inr ⟨i, [], rfl, hi, ?_⟩
    have e2 : hl = hl.take i ++ d :: hl.drop (i + 1) := by
      have := (List.take_append_drop i hl).symm
      rw [List.drop_eq_getElem_cons hi] at this
      rw [show hl[i] = d from (List.getElem?_eq_some_iff.mp hd).2] at this
      exact this
    unfold cutL
    conv => rhs; rw [e2]
    rw [List.takeWhile_append_of_pos (by intro a ha; simp [h a ha])]
    simp [hl1]
  · exact .inr ⟨k, r ++ [(i : Int)], rfl, hk, e⟩
theorem first_no {hl : List Nat} {i d : Nat} {ns : List Int} (h : FirstAt hl i ns) (hd : hl[i]? = some d) (hl1 : isLet d = false) : FirstAt hl (i + 1) ns := by
  rcases h with ⟨rfl, h⟩ | h
  · refine .inl ⟨rfl, fun c hc => ?_⟩
    rw [List.take_add_one, hd] at hc
    rcases List.mem_append.mp hc with hc | hc
    · exact h c hc
    · have : c = d := by simpa using hc
      rw [this]; exact hl1
  · exact .inr h
theorem first_end {hl : List Nat} {ns : List Int} (h : FirstAt hl hl.length ns) : (ns = [] ∧ cutL hl = hl) ∨ ∃ k : Nat, ∃ r, ns = (k : Int) :: r ∧ k < hl.length ∧ hl.take k = cutL hl := by
  rcases h with ⟨e, h⟩ | h
  · refine .inl ⟨e, ?_⟩
    unfold cutL
    refine tw_self ?_
    intro a ha
    have := h a (by rw [List.take_length]; exact ha)
    simp [this]
  · exact .inr h
theorem ints_snoc {y : Int} {t : Tok} : ∀ {vs : List Value} {ys : List Int}, IntsAre vs ys → IntsAre (vs ++ [.int y t]) (ys ++ [y])
  | _, _, .nil => .cons y t .nil
  | _, _, .cons z u r => .cons z u (ints_snoc r)
section
variable {prog : Program} {w : World} {A : Around} {E : Value → Shared → Prop} {s : Shared} {h₀ : Heap} {L : Addr} {m : Str → Option Value} {env : Env}
theorem restTJ {ct elt : Expr} {x : Str} {scope : Scope} {cl : List (Str × Addr)} {SS : List (Addr × Obj) → Prop} {P : Nat → Value → Prop} {Fin : List Value → List (Addr × Obj) → Prop} {n : Nat} {news : List (Addr × Obj)}
    (J : Nat → List Value → Prop) (h0 : J 0 [])
    (step : ∀ k i ys, i < n → J i ys → (∀ ys', J (i + 1) ys' → LCt.CompRestT prog w A h₀ L m env ct elt x scope cl s SS P Fin k (i + 1) ys' news) → LCt.CompRestT prog w A h₀ L m env ct elt x scope cl s SS P Fin (k + 1) i ys news)
    (fin : ∀ ys, J n ys → Fin ys news) : LCt.CompRestT prog w A h₀ L m env ct elt x scope cl s SS P Fin n 0 [] news := by
  have all : ∀ k i ys, i + k = n → J i ys → LCt.CompRestT prog w A h₀ L m env ct elt x scope cl s SS P Fin k i ys news := by
    intro k
    induction k with
    | zero => intro i ys h hJ; obtain rfl : i = n := by omega
              exact LCt.CompRestT.zero (fin ys hJ)
    | succ k ih => intro i ys h hJ; exact step k i ys (by omega) hJ fun ys' hJ' => ih (i + 1) ys' (by omega) hJ'
  exact all n 0 [] (by omega) h0
theorem ne_nil_ints {bb : Bool} {a b : Addr} {led : List (Addr × Obj)} {vs : List Value} {ns : List Int} {n1 n2 : Nat} {Q : Value → Shared → Prop}
    (N : News h₀ L s.heap led) (ha : (a, listOf vs.toArray n1) ∈ led) (hb : (b, listOf #[] n2) ∈ led) (hi : IntsAre vs ns) (hu : A.units + 64 < cLine)
    (hbb : (!ns.isEmpty) = bb) (h : Q (.bool bb) s) : wpAny (model prog w) A (compareOp .NotEq (.ref a) (.ref b)) Q E s := by
  subst hbb
  have hr : ∀ {vs : List Value} {ns : List Int}, IntsAre vs ns → ∃ as, ReadsAll s.heap vs (ns.map PyData.int) as := by
    intro vs ns h
    induction h with
    | nil => exact ⟨_, ReadsAll.nil⟩
    | cons y t r ih => obtain ⟨as, h⟩ := ih; exact ⟨_, ReadsAll.cons (Reads.int _ _) h⟩
  have hlay : ∀ ns : List Int, PyData.canLayAll0 (ns.map PyData.int) = true ∧ PyData.depthAll (ns.map PyData.int) ≤ 2 := by
    intro ns
    induction ns with
    | nil => simp [PyData.canLayAll0, PyData.depthAll]
    | cons y r ih => simp only [List.map_cons, PyData.canLayAll0, PyData.canLay0, PyData.depthAll, PyData.depth, ih.1, Bool.and_self, true_and]; have := ih.2; omega
  obtain ⟨as, h1⟩ := hr hi
  obtain ⟨l1, l2⟩ := hlay ns
  refine ne_dataH (reads_list_at (N.get ha) rfl rfl (by simpa using h1)) (reads_list_at (N.get hb) rfl rfl (by simpa using ReadsAll.nil)) ?_ (by decide +kernel) hu ?_
  · unfold SeqAt.shaped
    simp only [PyData.canLay0, PyData.depth, l1, Bool.true_and]
    exact decide_eq_true (by omega)
  · have e : PyData.eqv (.list (ns.map PyData.int)) (.list []) = ns.isEmpty := by
      cases ns with
      | nil => rfl
      | cons r rest => simp [PyData.eqv, PyData.eqvAll]
    rw [e]
    exact h
end
end
theorem reset_P18 {prog : Program} {w : World} {A : Around} {env : Env} {Q : Flow → Shared → Prop} {E : Value → Shared → Prop} {s : Shared} (h : Q .next s) : wpAny (model prog w) A (execs [] env) Q E s := by
  walk1
  exact h
section
theorem allLt_off {c d : Addr} {l : List (Addr × Obj)} (h : AllLt d l) (hc : @LE.le Nat _ d c) : ∀ p ∈ l, p.1 ≠ c := fun p hp e => by
  have := allLt_mem h p hp
  rw [show p.1 = c from e] at this
  exact Nat.lt_irrefl _ (Nat.lt_of_lt_of_le this hc)
theorem lt_off {c d : Addr} {l : List (Addr × Obj)} (h : ∀ p ∈ l, p.1 < d) (hc : @LE.le Nat _ d c) : ∀ p ∈ l, p.1 ≠ c := allLt_off (allLt_of h) hc
noncomputable def Mo (m₀ m : Str → Option Value) : Prop := ∃ u1 u2, m = fun z => if z = Str.ofString "mark" then u1 else if z = Str.ofString "letters" then u2 else m₀ z
theorem Mo.refl {m₀ : Str → Option Value} : Mo m₀ m₀ := by
  refine ⟨m₀ (Str.ofString "mark"), m₀ (Str.ofString "letters"), ?_⟩
  funext z
  by_cases h1 : z = Str.ofString "mark"
  · simp [h1]
  · rw [if_neg h1]
    by_cases h2 : z = Str.ofString "letters"
    · simp [h2]
    · rw [if_neg h2]
theorem Mo.step {m₀ m m' : Str → Option Value} (h : Mo m₀ m) (h2 : ∀ z, z ≠ Str.ofString "mark" → z ≠ Str.ofString "letters" → m' z = m z) : Mo m₀ m' := by
  obtain ⟨u1, u2, rfl⟩ := h
  refine ⟨m' (Str.ofString "mark"), m' (Str.ofString "letters"), ?_⟩
  funext z
  by_cases q1 : z = Str.ofString "mark"
  · simp [q1]
  · rw [if_neg q1]
    by_cases q2 : z = Str.ofString "letters"
    · simp [q2]
    · rw [if_neg q2, h2 z q1 q2]
      simp [q1, q2]
noncomputable def Jopen (m₀ : Str → Option Value) (C : Addr) (news : List (Addr × Obj)) (ms : List Nat) (i : Nat) (m : Str → Option Value) (nw : List (Addr × Obj)) : Prop :=
  ∃ hl o t, Mo m₀ m ∧ nw = (C, o) :: news ∧ o.data = .cell (some (.str ⟨hl.toArray⟩ t)) ∧ openL (ms.drop i) hl = openL ms [] ∧ hl.length ≤ 40 ∧ hl.countP (· == 81) ≤ 8 ∧ ∀ c ∈ hl, six c
theorem six_let {c : Nat} (h : six c) (hl : isLet c = true) : Txt.contains (Str.ofString "ULF") ⟨#[c]⟩ = true ∧ ((⟨#[c]⟩ : Str) == Str.ofString "Q") = false := by
  rcases h with rfl | rfl | rfl | rfl | rfl | rfl
  all_goals first | (cases hl; done) | exact ⟨by decide +kernel, by decide +kernel⟩
theorem six_not {c : Nat} (h : six c) (hl : isLet c = false) : Txt.contains (Str.ofString "ULF") ⟨#[c]⟩ = false := by
  rcases h with rfl | rfl | rfl | rfl | rfl | rfl
  all_goals first | (cases hl; done) | decide +kernel
theorem six_q {c : Nat} (h : six c) (hq : c ≠ 81) : ((⟨#[c]⟩ : Str) == Str.ofString "Q") = false := by
  rcases h with rfl | rfl | rfl | rfl | rfl | rfl
  all_goals first | exact absurd rfl hq | decide +kernel
theorem open_stop {ms hl : List Nat} {i c : Nat} (hdr : ms.drop i = c :: ms.drop (i + 1)) (hrun : openL (ms.drop i) hl = openL ms []) (h : stopL c (nextL c hl) = true) : openL ms [] = none := by
  rw [← hrun, hdr]
  unfold openL
  rw [if_pos h]
theorem stop_forty {c : Nat} {h : List Nat} (e : (h.length : Int) = 40) : stopL c h = true := by
  have : h.length = 40 := by omega
  unfold stopL
  simp [this]
theorem stop_eight {h : List Nat} (e : ((h.countP (· == 81) : Nat) : Int) = 8) : stopL 81 h = true := by
  have : h.countP (· == 81) = 8 := by omega
  unfold stopL
  simp [this]
theorem stop_not {c : Nat} {h : List Nat} (e : ¬ (h.length : Int) = 40) (e2 : c = 81 → ¬ ((h.countP (· == 81) : Nat) : Int) = 8) : stopL c h = false := by
  have h1 : h.length ≠ 40 := by omega
  unfold stopL
  by_cases hc : c = 81
  · have := e2 hc
    have h2 : h.countP (· == 81) ≠ 8 := by omega
    simp [h1, h2]
  · simp [h1, hc]
theorem Jopen.next {m₀ m : Str → Option Value} {C : Addr} {news : List (Addr × Obj)} {ms hl h' : List Nat} {i c : Nat} {o : Obj} {t : Tok} (hMo : Mo m₀ m) (hc : six c)
    (hdr : ms.drop i = c :: ms.drop (i + 1)) (hrun : openL (ms.drop i) hl = openL ms []) (hs : h'.Sublist hl) (h40 : hl.length ≤ 40) (h8 : hl.countP (· == 81) ≤ 8) (h6 : ∀ c ∈ hl, six c)
    (hnx : nextL c hl = h') (hst : stopL c h' = false) (d : o.data = .cell (some (.str ⟨(h' ++ [c]).toArray⟩ t))) : Jopen m₀ C news ms (i + 1) m ((C, o) :: news) := by
  have e1 := hs.length_le
  have e2 : h'.countP (· == 81) ≤ hl.countP (· == 81) := hs.countP_le
  have hno := stop_no hst (Nat.le_trans e1 h40) (Nat.le_trans e2 h8)
  refine ⟨h' ++ [c], o, t, hMo, rfl, d, ?_, hno.1, hno.2, ?_⟩
  · rw [← hrun, hdr]
    conv => rhs; unfold openL
    rw [hnx, hst, if_neg Bool.false_ne_true]
  · intro x hx
    rcases List.mem_append.mp hx with hx | hx
    · exact h6 x (hs.subset hx)
    · rw [List.mem_singleton.mp hx]
      exact hc
section
variable (w : World) (mean : ExcName → Option Value) (mg mb : Str → Option Value)
local macro_rules | `(tactic| walk_at "eval ListComp") => `(tactic| (k_here; refine stop ?_))
local macro_rules | `(tactic| walk_at "exec Assign cons ListComp") => `(tactic| (k_here; refine stop ?_))
local macro_rules | `(tactic| walk_at "compareOp NotEq ref ref") => `(tactic| (k_here; refine stop ?_))
local macro_rules | `(tactic| walk_at "exec For Name Name cons nil") => `(tactic| (k_here; refine stop ?_))
local macro_rules | `(tactic| walk_at "call builtin:str.count") => `(tactic| (k_here; refine stop ?_))
local macro_rules | `(tactic| walk_at "compareOp Eq str str") => `(tactic| (k_here; k_dflt (first | (refine' eq_b (b := false) ?e ?_; (case e => first | assumption | ((try dsimp only); decide +kernel))) | (refine' eq_b (b := true) ?e ?_; (case e => first | assumption | ((try dsimp only); decide +kernel))))))
local macro_rules | `(tactic| walk_at "my enterC") => `(tactic| (refine' code_defC ?k1 ?k2 ?k3 ?k4 ?k5 ?kA ?kF ?kK ?k6 ?k7 ?k8 ?k9 ?kB ?kD ?_ ?c2 ?c3 ?c4; (case kA => exact rfl); (case kF => exact rfl); (case kK => first | exact rfl | assumption); (case k1 => k_asm); (case k2 => k_asm); (case k3 => k_asm); (case k4 => k_asm); (case k5 => k_asm); (case k6 => k_is); (case k7 => k_is); (case k8 => ktr_room); (case k9 => exact BindsTo.of_eq rfl); (case kB => exact rfl); (case kD => decide +kernel); (case c2 => exact rfl); (case c3 => exact rfl); (case c4 => exact rfl); k_whole; intro g' L' h' tk' cells' FG' F' N' Y' B' X' T' l1; (try k_lt l1); k_cells Y'; (try simp only [List.cons_append, List.nil_append] at N'); (try dsimp only); (try k_lift B'); (try k_fold)))
local macro_rules | `(tactic| walk_at "subscriptTail Name Name str int") => `(tactic| (k_here; (with_reducible show wpAny _ _ (subscriptTail _ _ (Value.str _ _) (Value.int _ _)) _ _ _); k_dflt (refine' slr_item ?hr ?h1 ?h2 ?e ?_ ?hs ?ht; (case e => walk_at "my item"); (case hr => exact fitsSsize_of (N := 9223372036854775808) (by omega) (by omega) (Int.le_refl _)); (case h1 => omega); (case h2 => omega); (case hs => with_unfolding_all rfl); (case ht => (intro _; with_unfolding_all rfl))); intro t' k'))
local macro_rules | `(tactic| walk_at "my item") => `(tactic| ((rename ∀ j : Int, _ → Txt.item _ j = _ => hit'); refine hit' _ ?_; omega))
local macro_rules | `(tactic| walk_at "subscriptTail Name Constant ref int") => `(tactic| (k_here; (with_reducible show wpAny _ _ (subscriptTail _ _ (Value.ref _) (Value.int _ _)) _ _ _); k_dflt (refine' lst_item ?N ?hm ?hlo ?hhi ?hx ?_ ?hs; (case N => k_asm); (case hm => walk_at "my mem"); (case hlo => decide); (case hhi => decide); (case hx => rfl); (case hs => with_unfolding_all rfl))))
local macro_rules | `(tactic| k_all) => `(tactic| (refine lt_off (by assumption) ?_; first | exact Nat.le_refl _ | exact Nat.le_succ _))
local macro_rules | `(tactic| walk_at "CompSrcT") => `(tactic| (k_here; refine stop ?_))
local macro_rules | `(tactic| walk_at "compareOp In str str") => `(tactic| (k_here; k_dflt (first | (refine' in_b (b := true) ?e ?_; (case e => with_reducible assumption)) | (refine' in_b (b := false) ?e ?_; (case e => with_reducible assumption)))))
set_option maxHeartbeats 6000000 in
theorem law_open (ms : List Nat) (tX : Tok) (news : List (Addr × Obj)) (hg : ∀ c ∈ ms, six c) (hl : ms.length ≤ 60) :
    CallOk w mean mg mb 278 4 100 [.str ⟨ms.toArray⟩ tX] news (fun v led' => led' = news ∧ ((openL ms [] = none ∧ v = .none) ∨ ∃ h t, openL ms [] = some h ∧ v = .str ⟨h.toArray⟩ t ∧ h.length ≤ 40 ∧ h.countP (· == 81) ≤ 8 ∧ ∀ c ∈ h, six c)) := by
  intro dp un gd cn cs a ccd cl outer A₀ base h₀ L m s Q E B F X N T hk hdp hun hret
  refine wpAny_call ?_
  k_dflt (walk_at "my enterC")
  k_steps
  unfold Stop
  rename Fr _ _ _ _ => F1
  rename News _ _ _ _ => N1
  rename_i o1 d1
  refine For_invVF F1 (by rfl) (by rfl) ?_
  k_steps
  refine loop_text (Jopen _ _ news ms) (by rfl) F1 N1 ⟨[], o1, _, Mo.refl, rfl, by rw [s0]; exact d1, by rw [List.drop_zero], by decide, by decide, by simp⟩ ?_ ?_
  · intro i c t m₁ news₁ h tk I o hc hJ hI F2 N2
    obtain ⟨hl, oc, th, hMo, rfl, hd, hrun, h40, h8, h6⟩ := hJ
    have hMo0 := hMo
    obtain ⟨u1, u2, rfl⟩ := hMo
    have hc' : ms[i]? = some c := by simpa using hc
    have hc6 := hg c (List.mem_of_getElem? hc')
    have xl : (⟨hl.toArray⟩ : Str).length = hl.length := xlen hl
    have xl2 : (⟨hl.toArray⟩ : Str).length ≤ 1000 := by omega
    have hi : i < ms.length := (List.getElem?_eq_some_iff.mp hc').1
    have hdr : ms.drop i = c :: ms.drop (i + 1) := by
      rw [List.drop_eq_getElem_cons hi, (List.getElem?_eq_some_iff.mp hc').2]
    have hIC : @Ne Nat _ I := hI _ (List.Mem.head _)
    dsimp only at hIC
    clear F1 N1 hc d1
    by_cases hL : isLet c = true
    · obtain ⟨hin, hq⟩ := six_let hc6 hL
      k_steps
      unfold Stop
      k_dflt (refine LCt.Assign_ListComp_T (F₀ := by k_asm) (by rfl) (by with_unfolding_all rfl) (by with_unfolding_all rfl) (by decide) (by rfl) (by decide) (by rfl) (by rfl) (by rfl) ?_)
      k_steps
      unfold Stop
      rename IsRange _ _ _ _ _ _ _ _ => hr
      rename Fr _ _ _ _ => F1
      rename News _ _ _ _ => N1
      refine LCt.CompSrcT.range (n := hl.length) (by rfl) F1 N1 hr (small_one (by omega) (by omega) (by omega) (by omega)) (by rw [xl]; exact rangeSize_nat _ _) (by rw [PySem.sizeLine_eq]; omega) ?_
      intro g
      refine restTJ (fun i ys => ∃ ns, IntsAre ys ns ∧ FirstAt hl i ns) ⟨[], .nil, .inl ⟨rfl, by simp⟩⟩ ?_ ?_
      · rintro k i ys hi ⟨ns, hns, hfa⟩ ih
        refine LCt.CompRestT.succ ?_
        rintro v I oI C oC D m₂ h2 tk2 E2 ⟨tv, rfl⟩ hC hx F2 N2 off ne
        obtain ⟨d, hd2⟩ : ∃ d, hl[i]? = some d := ⟨hl[i], List.getElem?_eq_getElem hi⟩
        have hit : ∀ j : Int, j = 0 + (i : Int) → Txt.item ⟨hl.toArray⟩ j = ⟨#[d]⟩ := fun j hj => by rw [hj, Int.zero_add]; exact sl_item _ _ hd2
        have hd6 := h6 d (List.mem_of_getElem? hd2)
        clear F1 N1 hin hq
        by_cases hD : isLet d = true
        · have hin := (six_let hd6 hD).1
          k_steps
          exact LCg.CompEnd.intro (by k_asm) (by k_asm) _ (fun p hp => hp) off trivial (ih _ ⟨_, ints_snoc hns, by rw [Int.zero_add]; exact first_yes hfa hd2 hD⟩)
        · have hin := six_not hd6 (Bool.eq_false_iff.mpr hD)
          k_steps
          exact LCg.CompEnd.intro (by k_asm) (by k_asm) _ (fun p hp => hp) off trivial (ih _ ⟨_, hns, first_no hfa hd2 (Bool.eq_false_iff.mpr hD)⟩)
      · rintro ys ⟨ns, hns, hfa⟩
        unfold LCg.FinA
        intro D h3 tk3 F3 N3 o1
        clear F1 N1
        have o2 : @Ne Nat I D := o1.1
        have o3 : @Ne Nat _ D := o1.2.1
        dsimp only at o3
        have hcl := cut_len hl
        have hnL : nextL c hl = cutL hl := if_pos hL
        k_steps
        unfold Stop
        rename News _ _ _ _ => N4
        rcases first_end hfa with ⟨rfl, hcut⟩ | ⟨k, r, rfl, hk2, hcut⟩
        · refine ne_nil_ints (bb := false) N4 (.tail _ (.head _)) (.head _) hns (by ktr_units) rfl ?_
          have hnx : nextL c hl = hl := hnL.trans hcut
          k_steps
          · rename (_ : Int) = 40 => e40
            rw [xl] at e40
            unfold TurnPost
            dsimp only
            k_steps
            refine hret _ _ _ _ ⟨rfl, .inl ⟨open_stop hdr hrun (by rw [hnx]; exact stop_forty e40), rfl⟩⟩ (by k_asm) ?_
            rename News _ _ _ _ => N9
            exact fun q hq => N9 q (by simp [hq])
          · rename ¬ (_ : Int) = 40 => e40
            rw [xl] at e40
            unfold TurnPost
            dsimp only
            rename Fr _ _ _ _ => F7
            rename News _ _ _ _ => N7
            rename_i o7 d7
            refine ⟨_, _, _, _, rfl, F7, fun q hq => N7 q ?_, ?_, Jopen.next (Mo.step hMo0 fun z h1 h2 => by simp [h1, h2]) hc6 hdr hrun (List.Sublist.refl _) h40 h8 h6 hnx (stop_not e40 (by rintro rfl; cases hL)) d7⟩
            · simp only [List.mem_cons] at hq ⊢
              rcases hq with h | h | h <;> simp [h]
            · intro p hp
              rcases List.mem_cons.mp hp with rfl | hp
              · exact hIC
              · exact hI _ (.tail _ hp)
        · refine ne_nil_ints (bb := true) N4 (.tail _ (.head _)) (.head _) hns (by ktr_units) rfl ?_
          obtain ⟨tk9, vs9, rfl⟩ : ∃ t vs, ys = .int (k : Int) t :: vs := by
            cases hns with | cons y t r => exact ⟨_, _, rfl⟩
          have hsl : Txt.slice ⟨hl.toArray⟩ none (some (k : Int)) = ⟨(cutL hl).toArray⟩ := by rw [sl_ns, hcut]
          have hnx := hnL
          have xl3 : (⟨(cutL hl).toArray⟩ : Str).length = (cutL hl).length := xlen _
          have xl4 : (⟨(cutL hl).toArray⟩ : Str).length ≤ 1000 := by omega
          k_steps
          · rename (_ : Int) = 40 => e40
            rw [xl3] at e40
            unfold TurnPost
            dsimp only
            k_steps
            refine hret _ _ _ _ ⟨rfl, .inl ⟨open_stop hdr hrun (by rw [hnx]; exact stop_forty e40), rfl⟩⟩ (by k_asm) ?_
            rename News _ _ _ _ => N9
            exact fun q hq => N9 q (by simp [hq])
          · rename ¬ (_ : Int) = 40 => e40
            rw [xl3] at e40
            unfold TurnPost
            dsimp only
            rename Fr _ _ _ _ => F7
            rename News _ _ _ _ => N7
            rename_i o7 d7
            refine ⟨_, _, _, _, rfl, F7, fun q hq => N7 q ?_, ?_, Jopen.next (Mo.step hMo0 fun z h1 h2 => by simp [h1, h2]) hc6 hdr hrun (List.takeWhile_sublist _) h40 h8 h6 hnx (stop_not e40 (by rintro rfl; cases hL)) d7⟩
            · simp only [List.mem_cons] at hq ⊢
              rcases hq with h | h | h <;> simp [h]
            · intro p hp
              rcases List.mem_cons.mp hp with rfl | hp
              · exact hIC
              · exact hI _ (.tail _ hp)
    · have hnx : nextL c hl = hl := if_neg hL
      have hin := six_not hc6 (Bool.eq_false_iff.mpr hL)
      by_cases hQ : c = 81
      · subst hQ
        have hq : ((⟨#[81]⟩ : Str) == Str.ofString "Q") = true := by decide +kernel
        k_steps
        · rename (_ : Int) = 40 => e40
          rw [xl] at e40
          unfold TurnPost
          dsimp only
          k_steps
          refine hret _ _ _ _ ⟨rfl, .inl ⟨open_stop hdr hrun (by rw [hnx]; exact stop_forty e40), rfl⟩⟩ (by k_asm) ?_
          rename News _ _ _ _ => N9
          exact fun q hq => N9 q (by simp [hq])
        · unfold Stop
          refine SC.count ?_
          rw [count_q]
          rename ¬ (_ : Int) = 40 => e40
          rw [xl] at e40
          k_steps
          · rename (_ : Int) = 8 => e8
            unfold TurnPost
            dsimp only
            k_steps
            refine hret _ _ _ _ ⟨rfl, .inl ⟨open_stop hdr hrun (by rw [hnx]; exact stop_eight e8), rfl⟩⟩ (by k_asm) ?_
            rename News _ _ _ _ => N9
            exact fun q hq => N9 q (by simp [hq])
          · rename ¬ (_ : Int) = 8 => e8
            unfold TurnPost
            dsimp only
            rename Fr _ _ _ _ => F7
            rename News _ _ _ _ => N7
            rename_i o7 d7
            refine ⟨_, _, _, _, rfl, F7, fun q hq => N7 q ?_, ?_, Jopen.next (Mo.step hMo0 fun z h1 h2 => by simp [h1, h2]) hc6 hdr hrun (List.Sublist.refl _) h40 h8 h6 hnx (stop_not e40 fun _ => e8) d7⟩
            · simp only [List.mem_cons] at hq ⊢
              rcases hq with h | h | h <;> simp [h]
            · intro p hp
              rcases List.mem_cons.mp hp with rfl | hp
              · exact hIC
              · exact hI _ (.tail _ hp)
      · have hq := six_q hc6 hQ
        k_steps
        · rename (_ : Int) = 40 => e40
          rw [xl] at e40
          unfold TurnPost
          dsimp only
          k_steps
          refine hret _ _ _ _ ⟨rfl, .inl ⟨open_stop hdr hrun (by rw [hnx]; exact stop_forty e40), rfl⟩⟩ (by k_asm) ?_
          rename News _ _ _ _ => N9
          exact fun q hq => N9 q (by simp [hq])
        · rename ¬ (_ : Int) = 40 => e40
          rw [xl] at e40
          unfold TurnPost
          dsimp only
          rename Fr _ _ _ _ => F7
          rename News _ _ _ _ => N7
          rename_i o7 d7
          refine ⟨_, _, _, _, rfl, F7, fun q hq => N7 q ?_, ?_, Jopen.next (Mo.step hMo0 fun z h1 h2 => by simp [h1, h2]) hc6 hdr hrun (List.Sublist.refl _) h40 h8 h6 hnx (stop_not e40 fun h => absurd h hQ) d7⟩
          · simp only [List.mem_cons] at hq ⊢
            rcases hq with h | h | h <;> simp [h]
          · intro p hp
            rcases List.mem_cons.mp hp with rfl | hp
            · exact hIC
            · exact hI _ (.tail _ hp)
  · intro m₁ news₁ h tk hJ F2 N2
    obtain ⟨hl, oc, th, hMo, rfl, hd, hrun, h40, h8, h6⟩ := hJ
    obtain ⟨u1, u2, rfl⟩ := hMo
    have e0 : ms.drop (⟨ms.toArray⟩ : Str).cps.size = [] := by simp
    rw [e0] at hrun
    clear F1 N1 d1
    k_steps
    rename News _ _ _ _ => N9
    exact hret _ _ _ _ ⟨rfl, .inr ⟨hl, th, hrun.symm, rfl, h40, h8, h6⟩⟩ (by k_asm) (fun q hq => N9 q (.tail _ hq))
end
end
theorem reset_P19 {prog : Program} {w : World} {A : Around} {env : Env} {Q : Flow → Shared → Prop} {E : Value → Shared → Prop} {s : Shared} (h : Q .next s) : wpAny (model prog w) A (execs [] env) Q E s := by
  walk1
  exact h
section
noncomputable def sixB (c : Nat) : Bool := c == 85 || c == 81 || c == 76 || c == 70 || c == 117 || c == 108
theorem six_of {c : Nat} (h : sixB c = true) : six c := by
  simp only [sixB, Bool.or_eq_true, beq_iff_eq] at h
  rcases h with ((((h | h) | h) | h) | h) | h
  · exact .inl h
  · exact .inr (.inl h)
  · exact .inr (.inr (.inl h))
  · exact .inr (.inr (.inr (.inl h)))
  · exact .inr (.inr (.inr (.inr (.inl h))))
  · exact .inr (.inr (.inr (.inr (.inr h))))
noncomputable def goodB : List Nat → Bool
  | [] => true
  | c :: post => sixB c && !(c == 76 && post.head? == some 117) && !(c == 85 && post.head? == some 108) && goodB post
theorem good_of : ∀ {l : List Nat}, goodB l = true → goodC l
  | [], _ => trivial
  | c :: post, h => by
    simp only [goodB, Bool.and_eq_true, Bool.not_eq_true', Bool.and_eq_false_iff, beq_eq_false_iff_ne] at h
    obtain ⟨⟨⟨h1, h2⟩, h3⟩, h4⟩ := h
    exact ⟨six_of h1, fun e => h2.elim (fun q => q e.1) (fun q => q e.2), fun e => h3.elim (fun q => q e.1) (fun q => q e.2), good_of h4⟩
theorem good_take : ∀ {l : List Nat} (n : Nat), goodC l → goodC (l.take n)
  | [], n, _ => by rw [List.take_nil]; trivial
  | c :: post, 0, _ => trivial
  | c :: post, n + 1, h => by
    rw [List.take_succ_cons]
    refine ⟨h.1, ?_, ?_, good_take n h.2.2.2⟩
    · rintro ⟨e, q⟩
      refine h.2.1 ⟨e, ?_⟩
      cases post with
      | nil => rw [List.take_nil] at q; exact q
      | cons d r => cases n with
        | zero => cases q
        | succ n => exact q
    · rintro ⟨e, q⟩
      refine h.2.2.1 ⟨e, ?_⟩
      cases post with
      | nil => rw [List.take_nil] at q; exact q
      | cons d r => cases n with
        | zero => cases q
        | succ n => exact q
noncomputable def rowP (x : Str) : Prop := x.length ≤ 3 ∧ (Txt.mul x 60).cps.size ≤ 200 ∧ goodB (Txt.mul x 60).cps.toList = true
noncomputable def four (c : Nat) : Prop := c = 117 ∨ c = 81 ∨ c = 70 ∨ c = 108
theorem good_four : ∀ {l : List Nat}, (∀ c ∈ l, four c) → goodC l
  | [], _ => trivial
  | c :: post, h => by
    have h1 := h c (.head _)
    have h2 := good_four fun d hd => h d (.tail _ hd)
    have h3 : six c := by unfold four at h1; unfold six; omega
    refine ⟨h3, ?_, ?_, h2⟩
    · rintro ⟨e, q⟩; unfold four at h1; omega
    · rintro ⟨e, q⟩; unfold four at h1; omega
theorem good_six : ∀ {l : List Nat}, goodC l → ∀ c ∈ l, six c
  | c :: _, h, d, hd => by
    rcases List.mem_cons.mp hd with rfl | hd
    · exact h.1
    · exact good_six h.2.2.2 d hd
section
variable {prog : Program} {w : World} {A : Around} {E : Value → Shared → Prop} {s : Shared} {h₀ : Heap} {L : Addr}
theorem lst_any {p : Addr} {led : List (Addr × Obj)} {vs : List Value} {n : Nat} {k : Int} {u : Tok} {P : Value → Prop} {value slice : Expr} {Q : Value → Shared → Prop}
    (N : News h₀ L s.heap led) (hm : (p, listOf vs.toArray n) ∈ led) (hP : ∀ x ∈ vs, P x) (h0 : 0 ≤ k) (h1 : k < vs.length) (h2 : k < 1000) (h : ∀ x, P x → Q x s)
    (hs : subscripted slice false (.ref p) (.int k u) = operate [.ref p, .int k u] (getItem (.ref p) (.int k u)) := by with_unfolding_all rfl) :
    wpAny (model prog w) A (subscriptTail value slice (.ref p) (.int k u)) Q E s := by
  have hk : k.toNat < vs.length := by omega
  refine lst_item N hm h0 (by omega) (List.getElem?_eq_getElem hk) (h _ (hP _ (List.getElem_mem hk))) hs
end
theorem own_cons {p : Addr × Obj} {rest : List (Addr × Obj)} {S l : Addr} (h1 : @Ne Nat p.1 S) (h2 : @Ne Nat p.1 l) (h : OwnOff rest [S, l]) : OwnOff (p :: rest) [S, l] := fun q hq b hb => by
  rcases List.mem_cons.mp hq with rfl | hq
  · rcases List.mem_cons.mp hb with rfl | hb
    · exact h1
    · rw [List.mem_singleton.mp hb]; exact h2
  · exact h q hq b hb
theorem perm22 {α : Type} {q a b x y : α} {r : List α} (h : q ∈ x :: y :: a :: b :: r) : q ∈ a :: b :: x :: y :: r := by
  simp only [List.mem_cons] at h ⊢
  rcases h with h | h | h | h | h <;> simp [h]
theorem perm12 {α : Type} {q a x y : α} {r : List α} (h : q ∈ x :: y :: a :: r) : q ∈ a :: x :: y :: r := by
  simp only [List.mem_cons] at h ⊢
  rcases h with h | h | h | h <;> simp [h]
theorem perm23 {α : Type} {q a b c x y : α} {r : List α} (h : q ∈ x :: y :: a :: b :: c :: r) : q ∈ a :: b :: c :: x :: y :: r := by
  simp only [List.mem_cons] at h ⊢
  rcases h with h | h | h | h | h | h <;> simp [h]
theorem perm32 {α : Type} {q a b c x y : α} {r : List α} (h : q ∈ a :: b :: c :: x :: y :: r) : q ∈ x :: y :: a :: b :: c :: r := by
  simp only [List.mem_cons] at h ⊢
  rcases h with h | h | h | h | h | h <;> simp [h]
theorem four_item {r : Int} (h0 : 0 ≤ r) (h1 : r < 4) : ∃ c, four c ∧ Txt.item (Str.ofString "uQFl") r = ⟨#[c]⟩ := by
  have : r = 0 ∨ r = 1 ∨ r = 2 ∨ r = 3 := by omega
  rcases this with rfl | rfl | rfl | rfl
  · exact ⟨117, .inl rfl, by decide +kernel⟩
  · exact ⟨81, .inr (.inl rfl), by decide +kernel⟩
  · exact ⟨70, .inr (.inr (.inl rfl)), by decide +kernel⟩
  · exact ⟨108, .inr (.inr (.inr rfl)), by decide +kernel⟩
theorem flat_ones (cs : List Nat) : (cs.map fun c => [c]).flatten = cs := by
  induction cs with
  | nil => rfl
  | cons c r ih => rw [List.map_cons, List.flatten_cons, ih]; rfl
section
variable (w : World) (mean : ExcName → Option Value) (mg mb : Str → Option Value)
local macro_rules | `(tactic| walk_at "my enterC") => `(tactic| (refine' code_defC ?k1 ?k2 ?k3 ?k4 ?k5 ?kA ?kF ?kK ?k6 ?k7 ?k8 ?k9 ?kB ?kD ?_ ?c2 ?c3 ?c4; (case kA => exact rfl); (case kF => exact rfl); (case kK => first | exact rfl | assumption); (case k1 => k_asm); (case k2 => k_asm); (case k3 => k_asm); (case k4 => k_asm); (case k5 => k_asm); (case k6 => k_is); (case k7 => k_is); (case k8 => ktr_room); (case k9 => exact BindsTo.of_eq rfl); (case kB => exact rfl); (case kD => decide +kernel); (case c2 => exact rfl); (case c3 => exact rfl); (case c4 => exact rfl); k_whole; intro g' L' h' tk' cells' FG' F' N' Y' B' X' T' l1; (try k_lt l1); k_cells Y'; (try simp only [List.cons_append, List.nil_append] at N'); (try dsimp only); (try k_lift B'); (try k_fold)))
local macro_rules | `(tactic| walk_at "eval ListComp") => `(tactic| (k_here; refine stop ?_))
local macro_rules | `(tactic| walk_at "call builtin:str.join") => `(tactic| (k_here; refine stop ?_))
local macro_rules | `(tactic| walk_at "binaryOp Mult str int") => `(tactic| (k_here; refine stop ?_))
local macro_rules | `(tactic| walk_at "subscriptTail") => `(tactic| (k_here; (with_reducible show wpAny _ _ (subscriptTail _ _ (Value.ref _) (Value.int _ _)) _ _ _); refine stop ?_))
local macro_rules | `(tactic| walk_at "subscriptTail List Call ref int") => `(tactic| (k_here; refine stop ?_))
local macro_rules | `(tactic| walk_at "call ref") => `(tactic| (k_here; (with_reducible show wpAny _ _ (call (Value.ref 268) _) _ _ _); refine stop ?_))
local macro_rules | `(tactic| walk_at "CompSrc") => `(tactic| (k_here; refine stop ?_))
local macro_rules | `(tactic| walk_at "subscriptTail BinOp Slice str ref") => `(tactic| (k_here; (with_reducible show wpAny _ _ (subscriptTail _ (Expr.Slice none (some _) none _) _ _) _ _ _); k_dflt (refine' slr_ns (s := ⟨_, _, _, _, _⟩) ?F ?N ?e ?hsz ?_; (case F => k_asm); (case N => k_asm); (case e => assumption); (case hsz => assumption)); intro h' t' k' F' N'))
theorem cell_sack {M : Model} {A : Around} {E : Value → Shared → Prop} {s : Shared} {h₀ : Heap} {L C c : Addr} {news : List (Addr × Obj)} {scope : Scope} {cl : List (Str × Addr)} {env : Env} {x : Str} {pos : Pos} {v : Value} {o : Obj} {Q : Value → Shared → Prop} {a1 a2 a3 a4 a5 : Addr × Obj}
    (N : News h₀ L s.heap (a1 :: a2 :: a3 :: a4 :: a5 :: news)) (hm : (c, o) ∈ news) (hd : o.data = .cell (some v)) (hc : cl.lookup x = some c) (h : Q v s)
    (hk : (compEnvC scope cl C env).scope.kind = .function) (hx : (compEnvC scope cl C env).kindOf x = some .cell) (hb : (x == ("__debug__" : Str)) = false) :
    wpAny M A (eval (.Name x pos) (compEnvC scope cl C env)) Q E s := lcf_cell N hc (.tail _ (.tail _ (.tail _ (.tail _ (.tail _ hm))))) hd h hk hx hb
local macro_rules | `(tactic| walk_at "eval Name") => `(tactic| (k_here; (with_reducible show wpAny _ _ (eval (Expr.Name (Str.ofString "sack") _) (compEnvC _ _ _ _)) _ _ _); refine stop ?_))
local macro_rules | `(tactic| walk_at "subscriptTail") => `(tactic| (k_here; (with_reducible show wpAny _ _ (subscriptTail _ _ (Value.str _ _) (Value.int _ _)) _ _ _); k_dflt (refine' slr_item ?hr ?h1 ?h2 ?e ?_ ?hs ?ht; (case e => assumption); (case hr => exact fitsSsize_of (N := 9223372036854775808) (by omega) (by omega) (Int.le_refl _)); (case h1 => exact Int.le_trans (by decide +kernel : -((Str.ofString "uQFl").length : Int) ≤ 0) (by assumption)); (case h2 => exact Int.lt_of_lt_of_le (by assumption) (by decide +kernel : (4 : Int) ≤ ((Str.ofString "uQFl").length : Int))); (case hs => with_unfolding_all rfl); (case ht => (intro _; with_unfolding_all rfl))); intro t' k'))
local macro_rules | `(tactic| walk_at "subscriptTail Constant Call str int") => `(tactic| walk_at "subscriptTail")
set_option maxHeartbeats 6000000 in
theorem law_marks (news : List (Addr × Obj)) (S l : Addr) (vs : List Value) (ns : List Int) (i : Int) (t : Tok) (n k : Nat)
    (hi : IntsAre vs ns) (hlen : ns.length ≤ 63) (h0 : 0 ≤ i) (h1 : i < 900) (ho : OwnOff news [S, l]) (hSl : @Ne Nat l S) :
    CallOk w mean mg mb 273 6 120 [.ref S] ((S, listOf #[.ref l, .int i t] n) :: (l, listOf vs.toArray k) :: news)
      (fun v led' => ∃ ms tv i' t', v = .str ⟨ms.toArray⟩ tv ∧ goodC ms ∧ ms.length ≤ 60 ∧ 0 ≤ i' ∧ i' ≤ i + 20 ∧ led' = (S, listOf #[.ref l, .int i' t'] n) :: (l, listOf vs.toArray k) :: news) := by
  intro dp un gd cn cs a ccd cl outer A₀ base h₀ L m s Q E B F X N T hk hdp hun hret
  refine wpAny_call ?_
  k_dflt (walk_at "my enterC")
  k_steps
  unfold Stop
  rename Fr _ _ _ _ => F1
  rename News _ _ _ _ => N1
  rename (_ ∧ _ ∧ _ ∧ AllLt _ news) => lD
  rename Obj => o1
  have hdS : o1.data = .cell (some (.ref S)) := by assumption
  rename (_ ∧ _ ∧ AllLt _ news) => lC
  have hoC := fun o => own_cons (p := (_, o)) (Nat.ne_of_gt (Nat.lt_succ_of_lt lC.1)) (Nat.ne_of_gt (Nat.lt_succ_of_lt lC.2.1)) ho
  have hoD := fun o' o => own_cons (p := (_, o')) (Nat.ne_of_gt lD.2.1) (Nat.ne_of_gt lD.2.2.1) (hoC o)
  refine' CallOk.use (get_spec w mean mg mb _ S l vs ns i t n k _ _ hi hlen h0 (by omega) ?hm1 ?hm2 ?ho hSl) ?B ?F ?X (fun q hq => N1 q (perm22 hq)) ?T ?hk ?hdp ?hun ?_
  case ho => exact hoD _ _
  case hm1 => decide
  case hm2 => decide
  walk_at "my use0"
  intro v' led' h8 tk8 R8 F8 N8
  obtain ⟨r1, t1, u1, rfl, r1a, r1b, rfl⟩ := R8
  clear F1 N1
  k_steps
  unfold Stop
  rename News _ _ _ _ => N2
  refine lst_any (P := fun x => ∃ Y t, x = .str Y t ∧ rowP Y) N2 (.tail _ (.tail _ (.head _))) ?_ r1a r1b (by omega) ?_
  · intro x hx
    simp only [List.mem_cons, List.not_mem_nil, or_false] at hx
    rcases hx with rfl | rfl | rfl | rfl | rfl | rfl | rfl | rfl <;> exact ⟨_, _, rfl, by unfold rowP; decide +kernel⟩
  rintro x ⟨Y, tY, rfl, hY⟩
  k_steps
  unfold Stop
  rename News _ _ _ _ => N3
  refine' CallOk.use (get_spec w mean mg mb _ S l vs ns (i + 1) _ n k _ _ hi hlen (by omega) (by omega) ?hm1 ?hm2 ?ho hSl) ?B ?F ?X (N3) ?T ?hk ?hdp ?hun ?_
  case ho => exact hoD _ _
  case hm1 => decide
  case hm2 => decide
  walk_at "my use0"
  intro v' led' h8 tk8 R8 F8 N8
  obtain ⟨r2, t2, u2, rfl, r2a, r2b, rfl⟩ := R8
  clear N3
  k_steps
  unfold Stop
  rename News _ _ _ _ => N3
  rename (_ ∧ _ ∧ _ ∧ _ ∧ AllLt _ news) => lD2
  have hoE := fun o2 o' o => own_cons (p := (_, o2)) (Nat.ne_of_gt lD2.1) (Nat.ne_of_gt lD2.2.1) (hoD o' o)
  refine' CallOk.use (get_spec w mean mg mb _ S l vs ns (i + 1 + 1) _ n k _ _ hi hlen (by omega) (by omega) ?hm1 ?hm2 ?ho hSl) ?B ?F ?X (fun q hq => N3 q (perm12 hq)) ?T ?hk ?hdp ?hun ?_
  case ho => exact hoE _ _ _
  case hm1 => decide
  case hm2 => decide
  walk_at "my use0"
  intro v' led' h8 tk8 R8 F8 N8
  obtain ⟨r3, t3, u3, rfl, r3a, r3b, rfl⟩ := R8
  clear N3
  k_steps
  unfold Stop
  rename News _ _ _ _ => N4
  refine lst_any (P := fun x => ∃ z t, x = .int z t ∧ 0 ≤ z ∧ z ≤ 60) N4 (.tail _ (.tail _ (.head _))) ?_ r3a r3b (by omega) ?_
  · intro x hx
    simp only [List.mem_cons, List.not_mem_nil, or_false] at hx
    rcases hx with rfl | rfl | rfl | rfl | rfl | rfl <;> exact ⟨_, _, rfl, by omega, by omega⟩
  rintro x ⟨z, tz, rfl, z0, z60⟩
  k_steps
  unfold Stop
  rename News _ _ _ _ => N5
  refine' CallOk.use (get_spec w mean mg mb _ S l vs ns (i + 1 + 1 + 1) _ n k _ _ hi hlen (by omega) (by omega) ?hm1 ?hm2 ?ho hSl) ?B ?F ?X (N5) ?T ?hk ?hdp ?hun ?_
  case ho => exact hoE _ _ _
  case hm1 => decide
  case hm2 => decide
  walk_at "my use0"
  intro v' led' h8 tk8 R8 F8 N8
  obtain ⟨r4, t4, u4, rfl, r4a, r4b, rfl⟩ := R8
  clear N5
  k_steps
  · unfold Stop
    rename Fr _ _ _ _ => F1
    k_dflt (refine LCg.ListComp_U (F₀ := F1) (by with_unfolding_all rfl) (by decide) (by rfl) (by decide) (by rfl) ?_)
    k_steps
    unfold Stop
    rename IsRange _ _ _ _ _ _ _ _ => hr
    rename Fr _ _ _ _ => F2
    rename News _ _ _ _ => N2
    obtain ⟨nr, hnr, hn9⟩ : ∃ nr : Nat, (if 9 < z then 9 else z) = (nr : Int) ∧ nr ≤ 9 := by
      by_cases hz : 9 < z
      · exact ⟨9, by rw [if_pos hz]; rfl, Nat.le_refl _⟩
      · exact ⟨z.toNat, by rw [if_neg hz]; omega, by omega⟩
    rw [hnr] at hr
    obtain ⟨rest, hoR, hmR, hnR, N2⟩ : ∃ rest, OwnOff rest [S, l] ∧ (_, o1) ∈ rest ∧ (∀ q ∈ news, q ∈ rest) ∧ News _ _ _ ((S, _) :: (l, _) :: rest) :=
      ⟨_, hoE _ _ _, .tail _ (.tail _ (.head _)), fun q hq => .tail _ (.tail _ (.tail _ hq)), N2⟩
    refine LCg.CompSrc.range (n := nr) (by rfl) F2 N2 hr (small_one (by omega) (by omega) (by omega) (by omega)) (rangeSize_nat _ _) (by rw [PySem.sizeLine_eq]; omega) ?_
    intro g
    refine restJ (fun j ys nw => ∃ cs tt, StrsAre ys ((cs.map fun c => [c]).map fun l => (⟨l.toArray⟩ : Str)) ∧ (∀ c ∈ cs, four c) ∧ cs.length = j ∧ nw = (S, listOf #[.ref l, .int (i + 1 + 1 + 1 + 1 + (j : Int)) tt] n) :: (l, listOf vs.toArray k) :: rest) ⟨[], _, .nil, by simp, rfl, by simp; rfl⟩ ?_ ?_
    · rintro j ys nw v I oI C oC D m₂ h tk E' hj ⟨cs, tt, hys, hc4, hcl, rfl⟩ ⟨tv, rfl⟩ hC hx F3 N3 off ne
      clear F1 F2 N2 hr
      k_steps
      unfold Stop
      refine cell_sack N3 hmR hdS (by rfl) ?_ (by rfl) (by rfl) (by decide)
      k_steps
      unfold Stop
      have hoJ := fun x y z => own_cons (p := (I, x)) (Ne.symm off.1.1) (Ne.symm off.2.1.1) (own_cons (p := (C, y)) (Ne.symm off.1.2.1) (Ne.symm off.2.1.2.1) (own_cons (p := (D, z)) (Ne.symm off.1.2.2) (Ne.symm off.2.1.2.2) hoR))
      refine' CallOk.use (get_spec w mean mg mb _ S l vs ns _ _ n k _ _ hi hlen ?hi0 ?hi1 ?hm1 ?hm2 ?ho hSl) ?B ?F ?X (fun q hq => N3 q (perm23 hq)) ?T ?hk ?hdp ?hun ?_
      case ho => exact hoJ _ _ _
      case hm1 => decide
      case hm2 => decide
      case hi0 => omega
      case hi1 => omega
      walk_at "my use0"
      intro v' led' h8 tk8 R8 F8 N8
      obtain ⟨r5, t5, u5, rfl, r5a, r5b, rfl⟩ := R8
      obtain ⟨c, hc, hit⟩ := four_item r5a r5b
      clear N3
      k_steps
      refine LCg.CompEnd.intro (by k_asm) N8 ((S, listOf #[.ref l, .int (i + 1 + 1 + 1 + 1 + (j : Int) + 1) t5] n) :: (l, listOf vs.toArray k) :: rest) (fun p hp => perm32 hp) ⟨off.1, off.2⟩ trivial ⟨cs ++ [c], t5, ?_, ?_, ?_, ?_⟩
      · rw [List.map_append]
        exact strs_snoc hys
      · intro d hd
        rcases List.mem_append.mp hd with hd | hd
        · exact hc4 d hd
        · rw [List.mem_singleton.mp hd]; exact hc
      · simp [hcl]
      · rw [show (((j + 1 : Nat) : Int)) = (j : Int) + 1 from rfl, Int.add_assoc _ (j : Int) 1]
    · rintro ys nw ⟨cs, tt, hys, hc4, hcl, rfl⟩
      unfold LCg.FinE
      intro D h3 tk3 F3 N3 o3
      clear F1 F2 N2
      k_steps
      unfold Stop
      rename News _ _ _ _ => N4
      refine join_l N4 (.head _) hys (by rw [flat_ones]; omega) (by rw [List.length_map]; omega) ?_
      intro t' k'
      rw [flat_ones]
      k_steps
      rename News _ _ _ _ => N9
      refine hret _ ((S, listOf #[.ref l, .int (i + 1 + 1 + 1 + 1 + (nr : Int)) tt] n) :: (l, listOf vs.toArray k) :: news) _ _ ⟨cs, _, _, _, rfl, good_four hc4, by omega, ?_, ?_, rfl⟩ (by k_asm) (fun q hq => N9 q ?_)
      · omega
      · omega
      · simp only [List.mem_cons] at hq ⊢
        rcases hq with h | h | h
        · simp [h]
        · simp [h]
        · exact .inr (.inr (.inr (hnR q h)))
  · unfold Stop
    obtain ⟨hY1, hY2, hY3⟩ := hY
    refine SB.mul (mulOk_of 3 60 hY1 (by decide) (by decide) (by decide) (by decide)) ?_
    intro t' k'
    obtain ⟨ml, hml⟩ : ∃ ml : List Nat, Txt.mul Y 60 = ⟨ml.toArray⟩ := ⟨(Txt.mul Y 60).cps.toList, by simp⟩
    rw [hml] at hY2 hY3
    obtain ⟨zn, rfl⟩ : ∃ zn : Nat, z = (zn : Int) := ⟨z.toNat, by omega⟩
    have hsl : Txt.slice (Txt.mul Y 60) none (some (zn : Int)) = ⟨(ml.take zn).toArray⟩ := by rw [hml, sl_ns]
    have hsz : (Txt.mul Y 60).length ≤ sizeLine := by
      rw [PySem.sizeLine_eq, hml, xlen]
      simp at hY2
      omega
    k_steps
    rename News _ _ _ _ => N9
    refine hret _ ((S, listOf #[.ref l, .int (i + 1 + 1 + 1 + 1) t4] n) :: (l, listOf vs.toArray k) :: news) _ _ ⟨ml.take zn, _, i + 1 + 1 + 1 + 1, t4, congrArg (fun x => Value.str x _) hsl, good_take _ (good_of (by simpa using hY3)), by rw [List.length_take]; omega, by omega, by omega, rfl⟩ (by k_asm) (fun q hq => N9 q ?_)
    simp only [List.mem_cons] at hq ⊢
    rcases hq with h | h | h <;> simp [h]
end
end
theorem reset_P20 {prog : Program} {w : World} {A : Around} {env : Env} {Q : Flow → Shared → Prop} {E : Value → Shared → Prop} {s : Shared} (h : Q .next s) : wpAny (model prog w) A (execs [] env) Q E s := by
  walk1
  exact h
section
noncomputable def partD : List Str → Str → Str → PyData
  | [], k, x => .tuple [.str k, .str x]
  | M :: Ms, k, x => .tuple [.str (Str.ofString "case"), .str M, .list [partD Ms k x]]
theorem part_reads {h₀ h : Heap} {L : Addr} {led : List (Addr × Obj)} (N : News h₀ L h led) : ∀ {Ms : List Str} {k x : Str} {p : Nat}, Part led Ms k x p → ∃ as, Reads h (.ref p) (partD Ms k x) as
  | [], _, _, _, ⟨_, _, q⟩ => ⟨_, reads_tuple_at (N.get q) rfl rfl (ReadsAll.cons (Reads.str _ _) (ReadsAll.cons (Reads.str _ _) ReadsAll.nil))⟩
  | _ :: _, _, _, _, ⟨_, _, _, _, _, q1, q2, q3⟩ => by
    obtain ⟨as, hr⟩ := part_reads N q3
    exact ⟨_, reads_tuple_at (N.get q1) rfl rfl (ReadsAll.cons (Reads.str _ _) (ReadsAll.cons (Reads.str _ _) (ReadsAll.cons (reads_list_at (N.get q2) rfl rfl (ReadsAll.cons hr ReadsAll.nil)) ReadsAll.nil)))⟩
theorem part_lay {k x : Str} (hk : PyData.strOk k = true) (hx : PyData.strOk x = true) : ∀ {Ms : List Str}, (∀ M ∈ Ms, PyData.strOk M = true) → (partD Ms k x).canLay0 = true ∧ (partD Ms k x).depth ≤ 2 * Ms.length + 3
  | [], _ => by
    unfold partD
    simp only [PyData.canLay0, PyData.canLayAll0, PyData.depth, PyData.depthAll, hk, hx, Bool.and_self, true_and]
    simp
  | M :: Ms, h => by
    obtain ⟨h1, h2⟩ := part_lay hk hx fun q hq => h q (.tail _ hq)
    have h3 := h M (.head _)
    have h4 : PyData.strOk (Str.ofString "case") = true := by decide +kernel
    unfold partD
    simp only [PyData.canLay0, PyData.canLayAll0, PyData.depth, PyData.depthAll, h1, h3, h4, Bool.and_self, true_and, List.length_cons]
    omega
theorem ne_parts {prog : Program} {w : World} {A : Around} {E : Value → Shared → Prop} {s : Shared} {h₀ : Heap} {L : Addr} {led : List (Addr × Obj)} {Ms : List Str} {k x : Str} {a b p q n1 n2 : Nat} {Q : Value → Shared → Prop}
    (N : News h₀ L s.heap led) (ha : (a, listOf #[.ref p] n1) ∈ led) (hp : Part led Ms k x p) (hb : (b, listOf #[.ref q] n2) ∈ led) (hq : Part led Ms k x q)
    (hk : PyData.strOk k = true) (hx : PyData.strOk x = true) (hM : ∀ M ∈ Ms, PyData.strOk M = true) (hl : Ms.length ≤ 41) (hu : A.units + 100 < cLine)
    (h : Q (.bool false) s) : wpAny (model prog w) A (compareOp .NotEq (.ref a) (.ref b)) Q E s := by
  obtain ⟨as, h1⟩ := part_reads N hp
  obtain ⟨bs, h2⟩ := part_reads N hq
  obtain ⟨l1, l2⟩ := part_lay hk hx hM
  have c1 : (PyData.list [partD Ms k x]).canLay0 = true := by simp [PyData.canLay0, PyData.canLayAll0, l1]
  have d1 : (PyData.list [partD Ms k x]).depth ≤ 2 * Ms.length + 5 := by
    simp only [PyData.depth, PyData.depthAll]
    omega
  refine SeqAt.compareNe_reads (reads_list_at (N.get ha) rfl rfl (ReadsAll.cons h1 ReadsAll.nil)) (reads_list_at (N.get hb) rfl rfl (ReadsAll.cons h2 ReadsAll.nil)) c1 c1 ?_ ?_
  · rw [Nat.min_self]
    omega
  · rw [SeqAt.eqv_refl _ c1]
    exact h
end
theorem reset_PH {prog : Program} {w : World} {A : Around} {env : Env} {Q : Flow → Shared → Prop} {E : Value → Shared → Prop} {s : Shared} (h : Q .next s) : wpAny (model prog w) A (execs [] env) Q E s := by
  walk1
  exact h
section
section
open PySem.Builtin
variable {prog : Program} {w : World} {A₀ : Around} {E : Value → Shared → Prop} {s' : Shared} {h₀ h : Heap} {outer : List Env} {L a e t : Addr} {m : Str → Option Value} {name : Str} {scope : Scope} {cd : Value}
  {vs : List Value} {b₀ : Stmt} {suite : List Stmt} {pos np : Pos} {rest : List ExceptHandler} {Q : Flow → Shared → Prop} {news : List (Addr × Obj)}
  {p : Program} {loose : List Str} {mg mb : Str → Option Value}
theorem caught_die (K : Below A₀ h₀ outer h₀) (F : Fr h₀ L h m) (hsm : h.UpToSlots s'.heap) (R : RaisedK h₀ (envOf name scope L a cd :: outer) e (.ref 51) t vs news s'.heap)
    (X : (hd.heap_39 w.params).In h₀) (T : TopRead p loose mg mb h₀)
    (ex : nsIn (hd.heap_39 w.params) mainGlobals (Str.ofString "SyntaxDie") = some (some (.ref 51)))
    (k : ∀ h', Fr h₀ L h' m → News h₀ L h' news →
      wpAny (model prog w) ((A₀.deeper (envOf name scope L a cd)).mark (some (.ref e))) (execs (b₀ :: suite) (envOf name scope L a cd)) Q E { s' with heap := h' })
    (hk : scope.kind = .function := by rfl) (hx : (envOf name scope L a cd).kindOf (Str.ofString "SyntaxDie") = some .globalImplicit := by rfl) (hd' : ((Str.ofString "SyntaxDie") == ("__debug__" : Str)) = false := by decide)
    (hE : PassesOwnAt (model prog w) ((A₀.deeper (envOf name scope L a cd)).mark (some (.ref e))) (A₀.deeper (envOf name scope L a cd)) (envOf name scope L a cd) E := by passes_own) :
    wpAny (model prog w) (A₀.deeper (envOf name scope L a cd)) (noteFrame (.ref e) (envOf name scope L a cd))
      (fun _ s₂ => wpAny (model prog w) (A₀.deeper (envOf name scope L a cd)) (setFlight (.ref e) none) (fun _ s₃ =>
        wpAny (model prog w) (A₀.deeper (envOf name scope L a cd)) (handleBy (.ref e) (envOf name scope L a cd) (.ExceptHandler (some (.Name (Str.ofString "SyntaxDie") np)) none (b₀ :: suite) pos :: rest)) Q E s₃) E s₂) E s' := by
  obtain ⟨⟨B, hB, hl, hfl, hnew⟩, htup⟩ := R
  have hL : B.get? L = none := by
    obtain ⟨_, ⟨L', _, hf, hn', _⟩, _⟩ := hfl.2.2.1
    obtain rfl : L = L' := Option.some.inj hf
    exact hn'
  refine wpAny_looks_onW (Around.frames_deeper K.stack) rfl hfl fun h₄ hheld₄ hsm₄ => ?_
  refine wpAny_landsW hheld₄ fun h₅ hheld hsm₅' => ?_
  have hsm₅ := hsm₄.trans hsm₅'
  have hheld' := flyingW_base hB hheld
  have F₅ := F.of_stays hheld'.1 (hsm.trans hsm₅)
  obtain ⟨ob, hob, hobc⟩ := hheld'.there
  refine wpAny_handleBy_cons (codeAny_handlers_test (name_K F₅ X T ex ?_ hk hx hd')) (by intro q; cases q)
  obtain ⟨nm, qn, N, bs, bm, hdct, sn, sub, ab, col, dd, k0, k1, k2, k3, k5, newId, hC, hbase⟩ := isDie_of w (X.keeps F₅.keep)
  refine wpAny_excMatches_sub_self hC hob hobc hbase (codeAny_handlers_suite ?_)
  refine lands_againW hheld fun h₆ hfl₆ hsm₆ => ?_
  have hfl₆' := flyingW_base hB hfl₆
  have F₆ := F.of_stays hfl₆'.1 ((hsm.trans hsm₅).trans hsm₆)
  exact wpAny_passesOwnAt hE (k h₆ F₆ fun q hq => ⟨hfl₆.1 _ _ (hl q hq).1, (fun z => by have := (hl q hq).1; rw [z, hL] at this; cases this), (hl q hq).2⟩)
end
end
theorem reset_PI {prog : Program} {w : World} {A : Around} {env : Env} {Q : Flow → Shared → Prop} {E : Value → Shared → Prop} {s : Shared} (h : Q .next s) : wpAny (model prog w) A (execs [] env) Q E s := by
  walk1
  exact h
section
theorem fm_congr {f g : Nat → Option Nat} : ∀ {l : List Nat}, (∀ k ∈ l, f k = g k) → l.filterMap f = l.filterMap g
  | [], _ => rfl
  | a :: l, h => by
    rw [List.filterMap_cons, List.filterMap_cons, h a (.head _), fm_congr fun k hk => h k (.tail _ hk)]
theorem range_get : ∀ r : List Nat, (List.range r.length).filterMap (fun k => r[k]?) = r
  | [] => rfl
  | a :: r => by
    rw [List.length_cons, List.range_succ_eq_map, List.filterMap_cons, List.filterMap_map]
    have ih := range_get r
    have e : (fun k => (a :: r)[k]?) ∘ Nat.succ = fun k => r[k]? := by
      funext k
      simp
    rw [e, ih]
    rfl
section
open PySem.Builtin PySem.Builtin.Str
theorem sl_rev (l : List Nat) (uk : Tok) : Txt.sliceBy ⟨l.toArray⟩ none none (-1, uk) = ⟨l.reverse.toArray⟩ := by
  have e1 : slicePicked ⟨l.toArray⟩ none none (some (-1, uk)) = (List.range l.length).map fun (k : Nat) => (((l.length : Int) - 1) + -1 * (k : Int)).toNat := by
    unfold slicePicked strSliceIndices sliceRange
    rw [xlen]
    simp only [Option.map_none, Option.map_some, Option.getD_some]
    have h1 : ¬ ((-1 : Int) > 0) := by decide
    simp only [h1, if_false]
    congr 1
    by_cases h : (l.length : Int) - 1 > -1
    · rw [if_pos h]
      congr 1
      have : ((l.length : Int) - 1 - -1 - -1 - 1) / (- -1) = l.length := by
        rw [show (- -1 : Int) = 1 by decide, Int.ediv_one]; omega
      rw [this]
      simp
    · rw [if_neg h]
      congr 1
      have : l.length = 0 := by omega
      rw [this]
      rfl
  unfold Txt.sliceBy
  rw [if_neg (by simp), e1, List.filterMap_map]
  congr 2
  have e2 := range_get l.reverse
  rw [List.length_reverse] at e2
  refine Eq.trans ?_ e2
  refine fm_congr ?_
  intro k hk
  have hk : k < l.length := List.mem_range.mp hk
  rw [List.getElem?_reverse hk]
  show (l.toArray)[_]? = _
  rw [List.getElem?_toArray]
  congr 1
  dsimp only
  omega
end
noncomputable abbrev mk1 (c : Nat) : Str := ⟨#[c]⟩
theorem raw_flat (sg : List Nat) : ∀ ms : List Nat, (ms.map fun c => [92, c]).flatten ++ sg = rawL ms sg
  | [] => rfl
  | c :: ms => by
    have ih := raw_flat sg ms
    rw [List.map_cons, List.flatten_cons, rawL, ← ih]
    rfl
theorem raw_flat0 (ms : List Nat) : (ms.map fun c => [92, c]).flatten.length = 2 * ms.length := by
  have h := raw_flat [] ms
  rw [List.append_nil] at h
  rw [h, rawL_len]
  rfl
theorem marks_codes : ∀ (rows : List Row) (acc : List Str), RowsOk rows → marksOf rows acc = (codes rows).dropLast.reverse.map mk1 ++ acc
  | [], _, h => nomatch h
  | [r], acc, _ => rfl
  | r :: r2 :: rest, acc, h => by
    have h2 : MarkStr r.h r.c ∧ RowsOk (r2 :: rest) := by
      rcases h with ⟨e, _⟩ | h
      · cases e
      · exact h
    have ih := marks_codes (r2 :: rest) (r.h :: acc) h2.2
    have e0 : marksOf (r :: r2 :: rest) acc = marksOf (r2 :: rest) (r.h :: acc) := rfl
    have e1 : (codes (r :: r2 :: rest)).dropLast = r.c :: (codes (r2 :: rest)).dropLast := rfl
    rw [e0, ih, e1, List.reverse_cons, List.map_append, mark_one h2.1]
    simp
theorem marks_held {rows : List Row} {h : List Nat} (hR : RowsOk rows) (e : codes rows = h.reverse ++ [0]) : marksOf rows [] = h.map mk1 := by
  rw [marks_codes rows [] hR, e, List.dropLast_concat, List.reverse_reverse, List.append_nil]
theorem six_ne {c : Nat} (h : six c) : c ≠ 0 := by
  unfold six at h
  omega
theorem six_mark {c : Nat} (h : six c) : MarkStr (mk1 c) c := mark_six h
theorem fold_cons {c : Nat} (h : six c) (r y : List Nat) : foldC (c :: r) y = foldC r (casedL c y) := by
  conv => lhs; unfold foldC
  rw [if_neg (six_ne h)]
theorem fold_end (y : List Nat) : foldC [0] y = y := by
  unfold foldC
  rw [if_pos rfl]
theorem fold_nil (y : List Nat) : foldC ([] ++ [0]) y = y := fold_end y
theorem fold_sign4 : ∀ (l : List Nat) (y : List Nat), (∀ c ∈ y, Sign4 c) → ∀ c ∈ foldC l y, Sign4 c
  | [], _, h => h
  | d :: r, y, h => by
    unfold foldC
    split
    · exact h
    · exact fold_sign4 r _ (casedL_sign4 d h)
theorem ok_sign4 {y : List Nat} (h : ∀ c ∈ y, Sign4 c) : PyData.strOk ⟨y.toArray⟩ = true := by
  unfold PyData.strOk
  simp only [List.all_toArray, List.all_eq_true, decide_eq_true_eq]
  intro c hc
  rcases h c hc with e | e | e | e <;> omega
theorem ok_mark {h : List Nat} (h6 : ∀ c ∈ h, six c) : ∀ M ∈ h.map mk1, PyData.strOk M = true := by
  intro M hM
  obtain ⟨c, hc, rfl⟩ := List.mem_map.mp hM
  rcases h6 c hc with e | e | e | e | e | e <;> (subst e; decide +kernel)
/-- what the law has reckoned when i marks are taken, from the innermost out -/
noncomputable def DueIn (sg : List Nat) (Y hr : List Nat) (i : Nat) (p : Nat) (led : List (Addr × Obj)) : Prop :=
  (sg ≠ [36, 120] ∧ ∃ y, Part led [] (Str.ofString "text") ⟨y.toArray⟩ p ∧ (∀ c ∈ y, Sign4 c) ∧ y.length * 2 ^ ((hr.drop i).countP (· == 81)) ≤ 256 ∧ foldC (hr.drop i ++ [0]) y = Y) ∨
  (sg = [36, 120] ∧ Part led ((hr.take i).reverse.map mk1) (Str.ofString "expr") (Str.ofString "$x") p)
noncomputable def Dm (m₀ m : Str → Option Value) (p : Nat) : Prop := ∃ u, m = fun z => if z = Str.ofString "mark" then u else if z = Str.ofString "due" then some (.ref p) else m₀ z
theorem Dm.refl {m₀ : Str → Option Value} {p : Nat} (h : m₀ (Str.ofString "due") = some (.ref p)) : Dm m₀ m₀ p := by
  refine ⟨m₀ (Str.ofString "mark"), ?_⟩
  funext z
  by_cases h1 : z = Str.ofString "mark"
  · simp [h1]
  · rw [if_neg h1]
    by_cases h2 : z = Str.ofString "due"
    · subst h2; simp [h]
    · rw [if_neg h2]
theorem Dm.step {m₀ m m' : Str → Option Value} {p p' : Nat} (h : Dm m₀ m p) (h1 : m' (Str.ofString "due") = some (.ref p')) (h2 : ∀ z, z ≠ Str.ofString "mark" → z ≠ Str.ofString "due" → m' z = m z) : Dm m₀ m' p' := by
  obtain ⟨u, rfl⟩ := h
  refine ⟨m' (Str.ofString "mark"), ?_⟩
  funext z
  by_cases q1 : z = Str.ofString "mark"
  · simp [q1]
  · rw [if_neg q1]
    by_cases q2 : z = Str.ofString "due"
    · subst q2; simp [h1]
    · rw [if_neg q2, h2 z q1 q2]
      simp [q1, q2]
theorem held_run {ms h : List Nat} (e : openL ms [] = some h) : runC ms [0] = some (h.reverse ++ [0]) := by
  have := run_open ms [] (by decide) (by decide)
  rw [e] at this
  exact this
theorem held_none {ms : List Nat} (e : openL ms [] = none) : runC ms [0] = none := by
  have := run_open ms [] (by decide) (by decide)
  rw [e] at this
  exact this
theorem due_end {sg h : List Nat} {p : Nat} {led : List (Addr × Obj)} (h40 : h.length ≤ 40) (h6 : ∀ c ∈ h, six c) (h4 : sg ≠ [36, 120] → ∀ c ∈ sg, Sign4 c)
    (hD : DueIn sg (foldC (h.reverse ++ [0]) sg) h.reverse h.reverse.length p led) :
    ∃ Ms k x, Part led Ms k x p ∧ PyData.strOk k = true ∧ PyData.strOk x = true ∧ (∀ M ∈ Ms, PyData.strOk M = true) ∧ Ms.length ≤ 41 ∧
      ∀ rows0 led' p', RowsOk rows0 → codes rows0 = h.reverse ++ [0] → (sg ≠ [36, 120] → Part led' [] (Str.ofString "text") ⟨(foldC (codes rows0) sg).toArray⟩ p') →
        (sg = [36, 120] → Part led' (marksOf rows0 []) (Str.ofString "expr") (Str.ofString "$x") p') → Part led' Ms k x p' := by
  rcases hD with ⟨hne, y, hP, hy4, _, hf⟩ | ⟨he, hP⟩
  · rw [List.drop_length, fold_nil] at hf
    subst hf
    refine ⟨[], _, _, hP, by decide +kernel, ok_sign4 hy4, fun _ h => (nomatch h), Nat.zero_le _, ?_⟩
    intro rows0 led' p' _ e h1 _
    have := h1 hne
    rw [e] at this
    exact this
  · rw [List.take_length, List.reverse_reverse] at hP
    refine ⟨_, _, _, hP, by decide +kernel, by decide +kernel, ok_mark h6, by rw [List.length_map]; omega, ?_⟩
    intro rows0 led' p' hR e _ h2
    have := h2 he
    rw [marks_held hR e] at this
    exact this
end
theorem reset_PJ {prog : Program} {w : World} {A : Around} {env : Env} {Q : Flow → Shared → Prop} {E : Value → Shared → Prop} {s : Shared} (h : Q .next s) : wpAny (model prog w) A (execs [] env) Q E s := by
  walk1
  exact h
section
section
variable {prog : Program} {w : World} {A : Around} {E : Value → Shared → Prop} {s : Shared} {env : Env} {h₀ : Heap} {target : Expr} {body : List Stmt} {Q : Flow → Shared → Prop}
/-- where a turn of a for over a written tuple ends -/
noncomputable def TupPost (h₀ : Heap) (L : Addr) (J : (Str → Option Value) → Prop) (I : Addr) (o : Obj) (news : List (Addr × Obj)) (s₁ : Shared) (Q : Flow → Shared → Prop) (f : Flow) (s₂ : Shared) : Prop :=
  match f with
  | .ret v => Q (.ret v) s₂
  | .brk => Q .next s₂
  | _ => ∃ h' tk m', s₂ = { s₁ with heap := h', toks := tk } ∧ Fr h₀ L h' m' ∧ News h₀ L h' ((I, o) :: news) ∧ J m'
/-- a for over a written tuple, what a turn leaves being said of the frame alone -/
theorem loop_tup {ax : Addr} {vs : List Value} {m₀ : Str → Option Value} {news : List (Addr × Obj)} (J : (Str → Option Value) → Prop)
    (hh : A.handled = none) (F : Fr h₀ env.locals s.heap m₀) (N : News h₀ env.locals s.heap news) (hm : (ax, tupOf vs) ∈ news) (h0 : J m₀)
    (turn : ∀ v, v ∈ vs → ∀ m h tk I o, J m → Fr h₀ env.locals h m → News h₀ env.locals h ((I, o) :: news) →
      wpAny (model prog w) A (assign target env v) (fun _ s₂ => wpAny (model prog w) A (execs body env) (TupPost h₀ env.locals J I o news { s with heap := h, toks := tk } Q) E s₂) E { s with heap := h, toks := tk })
    (done : ∀ m h tk, J m → Fr h₀ env.locals h m → News h₀ env.locals h news → Q .next { s with heap := h, toks := tk }) :
    wpAny (model prog w) A (pyIter (.ref ax)) (fun it s₂ => TurnsAt prog w A h₀ env target body Q E it s₂) E s := by
  refine iter_tupTurns hh F N hm rfl rfl fun I hlt => ?_
  have key : ∀ vs' : List Value, (∀ v ∈ vs', v ∈ vs) → ∀ m, J m → ItemsRest prog w A E h₀ env target body Q s [(I, "tuple_iterator")] [(ax, tupOf vs)] (vs'.map .val) m news := by
    intro vs'
    induction vs' with
    | nil => intro _ m hJ; exact ItemsRest.zero fun h tk F N => done m h tk hJ F N
    | cons v r ih =>
      intro hv m hJ
      refine ItemsRest.val fun h tk F₁ => ?_
      intro o ho N₁
      refine wpAny_mono (turn v (hv v (.head _)) m h tk I o hJ F₁ N₁) (fun _ s₂ h₂ => wpAny_mono h₂ (fun f s₃ p => ?_) fun _ _ e => e) fun _ _ e => e
      have fin : (∃ h' tk' m', s₃ = { s with heap := h', toks := tk' } ∧ Fr h₀ env.locals h' m' ∧ News h₀ env.locals h' ((I, o) :: news) ∧ J m') →
          UnrEndW h₀ env.locals { s with heap := h, toks := tk } [(I, o)] (fun m' n' => SubL [(ax, tupOf vs)] n' ∧ ItemsRest prog w A E h₀ env target body Q s [(I, "tuple_iterator")] [(ax, tupOf vs)] (r.map .val) m' n') s₃ := by
        rintro ⟨h', tk', m', e, F', N', hJ'⟩
        exact ⟨h', tk', m', news, e, F', N', fun p hp q hq => by rw [List.mem_singleton.mp hq]; exact Nat.ne_of_lt (hlt p hp), ⟨hm, trivial⟩, ih (fun v hv' => hv v (.tail _ hv')) m' hJ'⟩
      cases f with
      | ret v => exact p
      | brk => exact p
      | next => exact fin p
      | cont => exact fin p
  exact key vs (fun _ h => h) m₀ h0
end
noncomputable def Fm (m₀ m : Str → Option Value) : Prop := ∃ u1 u2, m = fun z => if z = Str.ofString "found" then u1 else if z = Str.ofString "is_pattern" then u2 else m₀ z
theorem Fm.refl {m₀ : Str → Option Value} : Fm m₀ m₀ := by
  refine ⟨m₀ (Str.ofString "found"), m₀ (Str.ofString "is_pattern"), ?_⟩
  funext z
  by_cases h1 : z = Str.ofString "found"
  · simp [h1]
  · rw [if_neg h1]
    by_cases h2 : z = Str.ofString "is_pattern"
    · subst h2; simp
    · rw [if_neg h2]
theorem Fm.step {m₀ m m' : Str → Option Value} (h : Fm m₀ m) (h2 : ∀ z, z ≠ Str.ofString "found" → z ≠ Str.ofString "is_pattern" → m' z = m z) : Fm m₀ m' := by
  obtain ⟨u1, u2, rfl⟩ := h
  refine ⟨m' (Str.ofString "found"), m' (Str.ofString "is_pattern"), ?_⟩
  funext z
  by_cases q1 : z = Str.ofString "found"
  · simp [q1]
  · rw [if_neg q1]
    by_cases q2 : z = Str.ofString "is_pattern"
    · subst q2; simp
    · rw [if_neg q2, h2 z q1 q2]
      simp [q1, q2]
theorem two_bools {t : Value} (h : t ∈ [Value.bool false, Value.bool true]) : ∃ b, t = .bool b := by
  rcases List.mem_cons.mp h with rfl | h
  · exact ⟨_, rfl⟩
  · rw [List.mem_singleton.mp h]; exact ⟨_, rfl⟩
end
theorem reset_P21 {prog : Program} {w : World} {A : Around} {env : Env} {Q : Flow → Shared → Prop} {E : Value → Shared → Prop} {s : Shared} (h : Q .next s) : wpAny (model prog w) A (execs [] env) Q E s := by
  walk1
  exact h
section
local macro_rules | `(tactic| walk_at "call ref") => `(tactic| (k_here; (with_reducible show wpAny _ _ (call (Value.ref 273) _) _ _ _); refine stop ?_))
local macro_rules | `(tactic| walk_at "call ref") => `(tactic| (k_here; (with_reducible show wpAny _ _ (call (Value.ref 268) _) _ _ _); refine stop ?_))
local macro_rules | `(tactic| walk_at "call ref") => `(tactic| (k_here; (with_reducible show wpAny _ _ (call (Value.ref 278) _) _ _ _); refine stop ?_))
local macro_rules | `(tactic| walk_at "call ref") => `(tactic| (k_here; (with_reducible show wpAny _ _ (call (Value.ref 283) _) _ _ _); refine stop ?_))
local macro_rules | `(tactic| walk_at "call ref") => `(tactic| (k_here; (with_reducible show wpAny _ _ (call (Value.ref 254) _) _ _ _); refine stop ?_))
local macro_rules | `(tactic| walk_at "eval ListComp") => `(tactic| (k_here; refine stop ?_))
local macro_rules | `(tactic| walk_at "call builtin:str.join") => `(tactic| (k_here; refine stop ?_))
local macro_rules | `(tactic| walk_at "subscriptTail") => `(tactic| (k_here; (with_reducible show wpAny _ _ (subscriptTail (Expr.List _ _) _ (Value.ref _) (Value.int _ _)) _ _ _); refine stop ?_))
local macro_rules | `(tactic| walk_at "exec For Name Subscript cons nil") => `(tactic| (k_here; refine stop ?_))
local macro_rules | `(tactic| walk_at "pyIter ref") => `(tactic| (k_here; refine stop ?_))
local macro_rules | `(tactic| walk_at "pyIter str") => `(tactic| (k_here; refine stop ?_))
local macro_rules | `(tactic| walk_at "compareOp Eq str str") => `(tactic| (k_here; k_dflt (first | (refine' eq_b (b := false) ?e ?_; (case e => first | assumption | ((try dsimp only); decide +kernel))) | (refine' eq_b (b := true) ?e ?_; (case e => first | assumption | ((try dsimp only); decide +kernel))))))
local macro_rules | `(tactic| walk_at "compareOp NotEq ref ref") => `(tactic| (k_here; refine stop ?_))
local macro_rules | `(tactic| walk_at "subscriptTail List Call ref int") => `(tactic| (k_here; refine stop ?_))
local macro_rules | `(tactic| walk_at "eval IfExp") => `(tactic| (k_here; (with_reducible show wpAny _ _ (eval (Expr.IfExp (Expr.Compare (Expr.Name (Str.ofString "sign") _) _ _ _) _ _ _) _) _ _ _); refine stop ?_))
local macro_rules | `(tactic| walk_at "compareOp NotEq str str") => `(tactic| (k_here; k_dflt (refine' ne_b (b := true) ?e ?_; (case e => with_reducible assumption))))
noncomputable def IfPost (s : Shared) (h₀ : Heap) (L : Addr) (m : Str → Option Value) (D : Addr → List (Addr × Obj) → Prop) (v : Value) (s' : Shared) : Prop :=
  ∃ p led h tk, v = .ref p ∧ s' = { s with heap := h, toks := tk } ∧ Fr h₀ L h m ∧ News h₀ L h led ∧ D p led
theorem if_join {M : Model} {A : Around} {E : Value → Shared → Prop} {Q : Value → Shared → Prop} {t : Sem Value} {s : Shared} {h₀ : Heap} {L : Addr} {m : Str → Option Value} (D : Addr → List (Addr × Obj) → Prop) (_ : Fr h₀ L s.heap m)
    (h1 : wpAny M A t (IfPost s h₀ L m D) E s)
    (h2 : ∀ p led h tk, Fr h₀ L h m → News h₀ L h led → D p led → Q (.ref p) { s with heap := h, toks := tk }) : wpAny M A t Q E s :=
  wpAny_mono h1 (fun v s' ⟨p, led, h, tk, e1, e2, F, N, d⟩ => by subst e1 e2; exact h2 p led h tk F N d) fun _ _ h => h
theorem news_drop {h₀ h : Heap} {L : Addr} {led : List (Addr × Obj)} (_ : News h₀ L h led) : News h₀ L h [] := fun p hp => nomatch hp
theorem perm_swap {α : Type} {q a x : α} {r : List α} (h : q ∈ x :: a :: r) : q ∈ a :: x :: r := by
  simp only [List.mem_cons] at h ⊢
  rcases h with h | h | h <;> simp [h]
theorem perm_swap2 {α : Type} {q a b x : α} {r : List α} (h : q ∈ x :: a :: b :: r) : q ∈ a :: b :: x :: r := by
  simp only [List.mem_cons] at h ⊢
  rcases h with h | h | h | h <;> simp [h]
theorem news_head {h₀ h : Heap} {L : Addr} {p : Addr × Obj} {led : List (Addr × Obj)} (_ : News h₀ L h (p :: led)) : p ∈ p :: led := .head _
set_option maxHeartbeats 6000000 in
local macro_rules | `(tactic| k_qdec) => `(tactic| decide +kernel)
theorem main_law : PySem.Challenge.rw_qz0095_02.Holds := by
  w_on
  refine holds_law said fun said => ?_
  refine holds_open (q := hd.view_39) (loose := [Str.ofString "CLOSERS", Str.ofString "SHORT_ESCAPES"]) (Xt := fun s => xlAt hd.view_39 [] s && recOk (RowW.records (PySem.Challenge.rw_qz0095_02.row.toRowW)) s) (XP := XL hd.view_39 []) (Yf := Hook.obs H39) (Ya := Hook.val H39) (YP := Hook.says H39) (N := 3784) left (Hook.of H39) (Hook.keeps H39) (fun s e => xl_of s (Bool.and_eq_true_iff.mp e).1) XL.keeps (by rfl) (by rfl) (by rfl) (fun s e => recFacts_of (Bool.and_eq_true_iff.mp e).2) (by rfl) (by first | assumption | decide +kernel) (by decide +kernel) ⟨rfl, rfl, rfl, rfl, rfl, by decide +kernel⟩ ?hw ?hc
  case hw => w_witness2
  clear said
  k_go0
  (all_goals try k_fold)
  k_steps
  unfold Stop
  rename Fr _ _ _ _ => F1
  rename News _ _ _ _ => N1
  rename IntsAre _ (List.take 80 _) => hi
  rename ¬ _ => hcond
  rename @LT.lt Nat _ _ _ => l1
  have hlen : (List.take 80 _).length ≤ 63 := Nat.le_trans (by assumption : (List.take 80 _).length ≤ _) (by omega)
  refine' CallOk.use (law_marks _ _ _ _ [] _ _ _ _ 0 _ 0 0 hi hlen (by decide) (by decide) (fun p hp => nomatch hp) (Nat.ne_of_lt l1)) ?B ?F ?X ?N ?T ?hk ?hdp ?hun ?_
  case N => exact N1
  case B => k_asm
  case F => k_asm
  case X => k_asm
  case T => k_asm
  case hk => exact rfl
  case hdp => decide
  case hun => decide
  intro v' led' h8 tk8 R8 F8 N8
  obtain ⟨ms, tms, i1, t1, rfl, hg, hl, hi0, hi1, rfl⟩ := R8
  k_steps
  unfold Stop
  rename Fr _ _ _ _ => F1
  rename News _ _ _ _ => N1
  rename @LT.lt Nat _ _ _ ∧ @LT.lt Nat _ _ _ => l2
  refine' CallOk.use (get_spec _ _ _ _ [_] _ _ _ _ i1 _ 0 0 4 _ hi hlen hi0 (by omega) (by decide) (by decide) ?ho (Nat.ne_of_lt l1)) ?B ?F ?X (fun q hq => N1 q (perm12 hq)) ?T ?hk ?hdp ?hun ?_
  case ho => exact own_cons (Nat.ne_of_gt l2.1) (Nat.ne_of_gt l2.2) (fun p hp => nomatch hp)
  case B => k_asm
  case F => k_asm
  case X => k_asm
  case T => k_asm
  case hk => exact rfl
  case hdp => decide
  case hun => decide
  intro v' led' h8 tk8 R8 F8 N8
  obtain ⟨r2, t2, u2, rfl, r2a, r2b, rfl⟩ := R8
  k_steps
  unfold Stop
  rename News _ _ _ _ => N2
  refine lst_any (P := fun x => ∃ sg t, x = .str ⟨sg.toArray⟩ t ∧ (sg = [97] ∨ sg = [46] ∨ sg = [65] ∨ sg = [36, 120])) N2 (.tail _ (.tail _ (.head _))) ?_ r2a r2b (by omega) ?_
  · intro x hx
    simp only [List.mem_cons, List.not_mem_nil, or_false] at hx
    rcases hx with rfl | rfl | rfl | rfl
    · exact ⟨[97], _, congrArg (fun z => Value.str z _) s97.symm, .inl rfl⟩
    · exact ⟨[46], _, congrArg (fun z => Value.str z _) s46.symm, .inr (.inl rfl)⟩
    · exact ⟨[65], _, congrArg (fun z => Value.str z _) s65.symm, .inr (.inr (.inl rfl))⟩
    · exact ⟨[36, 120], _, congrArg (fun z => Value.str z _) s36.symm, .inr (.inr (.inr rfl))⟩
  rintro x ⟨sg, tsg, rfl, hsg⟩
  clear N1 F1
  k_steps
  unfold Stop
  rename News _ _ _ _ => N1
  have h6 := good_six hg
  refine' CallOk.use (law_open _ _ _ _ ms _ _ h6 hl) ?B ?F ?X N1 ?T ?hk ?hdp ?hun ?_
  case B => k_asm
  case F => k_asm
  case X => k_asm
  case T => k_asm
  case hk => exact rfl
  case hdp => decide
  case hun => decide
  intro v8 led' h8 tk8 R8 F8 N8
  obtain ⟨rfl, hv8⟩ := R8
  replace N8 := news_drop N8
  clear N1
  k_steps
  unfold Stop
  k_dflt (refine comp_text (by k_asm) (by with_unfolding_all rfl) (by decide) (by rfl) (by decide) (by rfl) ?_)
  k_steps
  rename Fr _ _ _ _ => F1
  rename News _ _ _ _ => N1
  unfold TextSrc
  refine ⟨_, _, _, rfl, by rfl, F1, N1, by (rw [PySem.sizeLine_eq]; simp; omega), ?_⟩
  rintro s₂ ⟨g, rfl⟩
  refine restJ (fun i ys nw => StrsAre ys (((ms.take i).map fun c => [92, c]).map fun l => (⟨l.toArray⟩ : Str)) ∧ nw = []) ⟨.nil, rfl⟩ ?_ ?_
  · rintro i ys nw v I oI C oC D m₂ h tk E' hi ⟨hJ, rfl⟩ ⟨c, u, hc, rfl⟩ hC hx' F2 N2 off ne
    have hc' : ms[i]? = some c := by simpa using hc
    clear F1 N1 hc
    k_steps
    exact strs_step hJ hc' (by rw [← s92]; exact app_l [92] [c])
  · rintro ys nw ⟨hy, rfl⟩
    unfold LCg.FinE
    intro D h3 tk3 F3 N3 o1
    clear F1 N1
    have e6 : ms.take (⟨ms.toArray⟩ : Str).cps.size = ms := by simp
    rw [e6] at hy
    have e7 := raw_flat [] ms
    rw [List.append_nil] at e7
    have e8 : (rawL ms []).length = 2 * ms.length := rawL_len ms []
    have e9 : sg.length ≤ 2 := by rcases hsg with h | h | h | h <;> subst h <;> simp
    k_steps
    unfold Stop
    rename News _ _ _ _ => N4
    refine join_l N4 (.head _) hy (by rw [e7]; omega) (by rw [List.length_map]; omega) ?_
    intro t' k'
    rw [e7]
    k_steps
    rename Fr _ _ _ _ => F1
    rename News _ _ _ _ => N1
    replace N1 := news_drop N1
    have e10 : rawL ms [] ++ sg = rawL ms sg := by
      have := rawL_app ms [] sg
      rw [List.append_nil] at this
      exact this.symm
    rw [e10] at F1
    rcases hv8 with ⟨ho, rfl⟩ | ⟨h, th, ho, rfl, h40, h8, h6⟩
    · have hno := held_none ho
      k_steps
      unfold Stop
      rename Fr _ _ _ _ => F0
      rename News _ _ _ _ => N0
      refine loop_tup (vs := [.bool false, .bool true]) (Fm _) (by rfl) F0 N0 (.head _) Fm.refl ?_ ?_
      · intro v hv m h tk I o hJ F2 N2
        obtain ⟨b, rfl⟩ := two_bools hv
        have hJ0 := hJ
        obtain ⟨u1, u2, rfl⟩ := hJ
        clear F0 N0 hv
        k_steps
        unfold Stop
        rename News _ _ _ _ => N3
        refine' CallR.use (parts_spec _ _ _ _ ms sg b _ _ hg hl hsg) ?B ?F ?X N3 ?T ?hk ?hdp ?hun ?_ ?_
        case B => k_asm
        case F => k_asm
        case X => k_asm
        case T => k_asm
        case hk => exact rfl
        case hdp => decide
        case hun => decide
        · intro v' led' h8 tk8 R8 F8 N8
          obtain ⟨bb, n, p', rows0, rfl, _, _, _, hrun0, _⟩ := R8
          rw [hno] at hrun0
          cases hrun0
        · intro e t vs news2 g h9 tk9 Rz Fg U R
          clear N3 F2 N2
          refine' caught_die ?K Fg U R ?X ?T ?ex ?_
          case K => assumption
          case X => k_asm
          case T => k_asm
          case ex => k_dflt k_is
          intro h10 F10 N10
          clear Fg U R
          k_steps
          unfold TupPost
          dsimp only
          rename Fr _ _ _ _ => F7
          rename News _ _ _ _ => N7
          exact ⟨_, _, _, rfl, F7, fun q hq => N7 q (Rz.2 q hq), Fm.step hJ0 fun z h1 h2 => by simp [h1, h2]⟩
      · intro m h tk hJ F2 N2
        obtain ⟨u1, u2, rfl⟩ := hJ
        clear F0 N0
        k_steps
    · have hrl : h.reverse.length = h.length := List.length_reverse
      have hcr : h.reverse.countP (· == 81) ≤ 8 := by rw [List.countP_reverse]; exact h8
      obtain ⟨b, q, hb⟩ : ∃ b, ((⟨sg.toArray⟩ : Str) == Str.ofString "$x") = b ∧ ((b = true ∧ sg = [36, 120]) ∨ (b = false ∧ sg ≠ [36, 120] ∧ (∀ c ∈ sg, Sign4 c) ∧ sg.length = 1)) := by
        rcases hsg with h | h | h | h
        · subst h; exact ⟨false, by decide +kernel, .inr ⟨rfl, by decide, fun c hc => by rw [List.mem_singleton.mp hc]; unfold Sign4; omega, rfl⟩⟩
        · subst h; exact ⟨false, by decide +kernel, .inr ⟨rfl, by decide, fun c hc => by rw [List.mem_singleton.mp hc]; unfold Sign4; omega, rfl⟩⟩
        · subst h; exact ⟨false, by decide +kernel, .inr ⟨rfl, by decide, fun c hc => by rw [List.mem_singleton.mp hc]; unfold Sign4; omega, rfl⟩⟩
        · subst h; exact ⟨true, by decide +kernel, .inl ⟨rfl, rfl⟩⟩
      have h4 : sg ≠ [36, 120] → ∀ c ∈ sg, Sign4 c := fun hne => by
        rcases hb with ⟨_, e⟩ | ⟨_, _, e, _⟩
        · exact absurd e hne
        · exact e
      have xl1 : (⟨h.toArray⟩ : Str).length = h.length := xlen h
      have hroom0 : sg ≠ [36, 120] → sg.length * 2 ^ ((h.reverse.drop 0).countP (· == 81)) ≤ 256 := fun hne => by
        rcases hb with ⟨_, e⟩ | ⟨_, _, _, e⟩
        · exact absurd e hne
        · rw [e, List.drop_zero, Nat.one_mul]
          exact Nat.pow_le_pow_right (by decide) hcr
      have due0 : ∀ (led : List (Addr × Obj)) (p : Nat), (sg = [36, 120] → Part led [] (Str.ofString "expr") (Str.ofString "$x") p) → (sg ≠ [36, 120] → Part led [] (Str.ofString "text") ⟨sg.toArray⟩ p) → DueIn sg (foldC (h.reverse ++ [0]) sg) h.reverse 0 p led := fun led p e1 e2 => by
        by_cases e : sg = [36, 120]
        · exact .inr ⟨e, e1 e⟩
        · exact .inl ⟨e, sg, e2 e, h4 e, hroom0 e, by rw [List.drop_zero]⟩
      k_steps
      unfold Stop
      rename Fr _ _ _ _ => F0
      refine if_join (fun p led => DueIn sg (foldC (h.reverse ++ [0]) sg) h.reverse 0 p led) F0 ?_ ?_
      · rcases hb with ⟨rfl, hsd⟩ | ⟨rfl, hsd, hs4, hs1⟩
        all_goals (refine IfExp_ ?_; k_steps)
        · rename News _ _ _ _ => N0
          unfold IfPost
          rename Fr _ _ _ _ => F1
          exact ⟨_, _, _, _, rfl, rfl, F1, N0, due0 _ _ (fun _ => ⟨_, _, news_head N0⟩) (fun e => absurd hsd e)⟩
        · rename News _ _ _ _ => N0
          unfold IfPost
          rename Fr _ _ _ _ => F1
          exact ⟨_, _, _, _, rfl, rfl, F1, N0, due0 _ _ (fun e => absurd e hsd) (fun _ => ⟨_, _, news_head N0⟩)⟩
      clear F0
      intro p0 led0 hp0 tp0 F0 N0 hD0
      k_steps
      unfold Stop
      rename Fr _ _ _ _ => F0
      refine For_invVF F0 (by rfl) (by rfl) ?_
      k_steps
      unfold Stop
      rw [sl_rev]
      rename Fr _ _ _ _ => F1
      rename News _ _ _ _ => N1
      refine loop_text (fun i m led => ∃ p, Dm _ m p ∧ DueIn sg (foldC (h.reverse ++ [0]) sg) h.reverse i p led) (by rfl) F1 N1 ⟨_, Dm.refl rfl, hD0⟩ ?_ ?_
      · intro i c t m₁ news₁ h9 tk9 I o hc hJ hI F2 N2
        obtain ⟨p, hMo, hDu⟩ := hJ
        have hMo0 := hMo
        obtain ⟨u1, rfl⟩ := hMo
        have hc' : h.reverse[i]? = some c := by simpa using hc
        have hc6 : six c := h6 c (List.mem_reverse.mp (List.mem_of_getElem? hc'))
        have hi9 : i < h.reverse.length := (List.getElem?_eq_some_iff.mp hc').1
        have hdr : h.reverse.drop i = c :: h.reverse.drop (i + 1) := by
          rw [List.drop_eq_getElem_cons hi9, (List.getElem?_eq_some_iff.mp hc').2]
        have htk : (h.reverse.take (i + 1)).reverse = c :: (h.reverse.take i).reverse := by
          rw [List.take_add_one, hc']
          simp
        clear F1 N1 hc hD0
        rcases hDu with ⟨hne, y, hP, hy4, hroom, hf⟩ | ⟨he, hP⟩
        · rw [hdr] at hroom hf
          obtain ⟨t1, t2, hm⟩ := hP
          have hroom2 := close_room hroom
          have hyl := room_len hroom
          k_steps
          unfold Stop
          rename News _ _ _ _ => N3
          refine' CallOk.use (law_cased _ _ _ _ _ c _ (six_mark hc6) y _ _ hy4 (by omega)) ?B ?F ?X N3 ?T ?hk ?hdp ?hun ?_
          case B => k_asm
          case F => k_asm
          case X => k_asm
          case T => k_asm
          case hk => exact rfl
          case hdp => decide
          case hun => decide
          intro v' led' h8 tk8 R8 F8 N8
          obtain ⟨rfl, t8, rfl⟩ := R8
          k_steps
          unfold TurnPost
          dsimp only
          rename Fr _ _ _ _ => F7
          rename News _ _ _ _ => N7
          refine ⟨_, _, _, _, rfl, F7, fun q hq => N7 q (perm_swap hq), ?_, _, Dm.step hMo0 rfl fun z h1 h2 => by simp [h1, h2], .inl ⟨hne, _, ⟨_, _, .head _⟩, casedL_sign4 c hy4, hroom2, ?_⟩⟩
          · rename (_ ∧ AllLt _ news₁) => la
            intro p hp
            rcases List.mem_cons.mp hp with rfl | hp
            · exact Nat.ne_of_gt la.1
            · exact hI _ hp
          · rw [← hf]
            exact (fold_cons hc6 _ _).symm
        · obtain ⟨g, tg, vs, hv, hg0⟩ : ∃ g tg vs, (p, tupOf (.str g tg :: vs)) ∈ news₁ ∧ (!(g == Str.ofString "text")) = true := by
            revert hP
            cases (h.reverse.take i).reverse with
            | nil => rintro ⟨t1, t2, q⟩; exact ⟨_, _, _, q, by decide +kernel⟩
            | cons M Ms => rintro ⟨t1, t2, b, n, p', q, _⟩; exact ⟨_, _, _, q, by decide +kernel⟩
          k_steps
          unfold TurnPost
          dsimp only
          rename Fr _ _ _ _ => F7
          rename News _ _ _ _ => N7
          refine ⟨_, _, _, _, rfl, F7, fun q hq => N7 q (perm_swap2 hq), ?_, _, Dm.step hMo0 rfl fun z h1 h2 => by simp [h1, h2], .inr ⟨he, ?_⟩⟩
          · rename (_ ∧ AllLt _ news₁) => la
            rename (_ ∧ _ ∧ AllLt _ news₁) => lb
            intro p hp
            rcases List.mem_cons.mp hp with rfl | hp
            · exact Nat.ne_of_gt lb.2.1
            · rcases List.mem_cons.mp hp with rfl | hp
              · exact Nat.ne_of_gt la.1
              · exact hI _ hp
          · rw [htk]
            exact ⟨_, _, _, _, p, .head _, .tail _ (.head _), Part.mono (fun q hq => .tail _ (.tail _ hq)) hP⟩
      · intro m₁ news₁ h9 tk9 hJ F2 N2
        obtain ⟨p, hMo, hDu⟩ := hJ
        obtain ⟨u1, rfl⟩ := hMo
        have e5 : (⟨h.reverse.toArray⟩ : Str).cps.size = h.reverse.length := by simp
        rw [e5] at hDu
        obtain ⟨Ms, kk, xx, hP, ok1, ok2, ok3, hMl, hend⟩ := due_end h40 h6 h4 hDu
        clear F1 N1 hD0 hDu
        k_steps
        unfold Stop
        rename Fr _ _ _ _ => F0
        rename News _ _ _ _ => N0
        refine loop_tup (vs := [.bool false, .bool true]) (Fm _) (by rfl) F0 N0 (.head _) Fm.refl ?_ ?_
        · intro v hv m h3 tk3 I o hJ F2 N2
          obtain ⟨b, rfl⟩ := two_bools hv
          have hJ0 := hJ
          obtain ⟨u1, u2, rfl⟩ := hJ
          clear F0 N0 hv
          k_steps
          unfold Stop
          rename News _ _ _ _ => N3
          refine' CallR.use (parts_spec _ _ _ _ ms sg b _ _ hg hl hsg) ?B ?F ?X N3 ?T ?hk ?hdp ?hun ?_ ?_
          case B => k_asm
          case F => k_asm
          case X => k_asm
          case T => k_asm
          case hk => exact rfl
          case hdp => decide
          case hun => decide
          · intro v' led' h8 tk8 R8 F8 N8
            obtain ⟨bb, n, p', rows0, rfl, hbm, hsub, hR0, hrun0, _, hT, hX⟩ := R8
            rw [held_run ho] at hrun0
            have hP2 := hend rows0 led' p' hR0 (Option.some.inj hrun0).symm hT hX
            have hP1 : Part led' Ms kk xx p := Part.mono (fun q hq => hsub q (.tail _ (.tail _ hq))) hP
            clear N3 hT hX
            k_steps
            unfold Stop
            rename News _ _ _ _ => N4
            refine ne_parts N4 (.tail _ hbm) (Part.mono (fun q hq => .tail _ hq) hP2) (.head _) (Part.mono (fun q hq => .tail _ hq) hP1) ok1 ok2 ok3 hMl (by ktr_units) ?_
            k_steps
            unfold TupPost
            dsimp only
            rename Fr _ _ _ _ => F7
            rename News _ _ _ _ => N7
            exact ⟨_, _, _, rfl, F7, fun q hq => N7 q (.tail _ (hsub q hq)), Fm.step hJ0 fun z h1 h2 => by simp [h1, h2]⟩
          · intro e t vs news2 g h9 tk9 Rz Fg U R
            rw [held_run ho] at Rz
            cases Rz.1
        · intro m h3 tk3 hJ F2 N2
          obtain ⟨u1, u2, rfl⟩ := hJ
          clear F0 N0
          k_steps
end
end Mine
theorem PySem.Challenge.cw_qz0095_02_holds : PySem.Challenge.rw_qz0095_02.Holds :=
  Mine.main_law
